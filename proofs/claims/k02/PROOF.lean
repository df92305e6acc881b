import PyProof.Rows.All
import Wide.All
import OpenK.AllK
import Wide.FinOn
import HandS.NoneIn
import HandS.ForMost
import HandS.Wide
import PyProof.CollectIter
import HandS.IsInst
import HandS.Zip
import HandS.DictComp
import HandS.SetKeys
import HandS.DeepEq
import HandS.TupMul
import HandS.TupAny
import HandS.Style
import HandS.More
import HandS.Text
import PyProof.StrBlock2
import HandS.Deep
import HandS.TupLen
import HandS.Zip0
import HandS.Iter
import HandS.Walk
import PyProof.DictUpdate
import HandS.CallLocal
import HandS.Small
import HandS.Defaults
import KE.KSortTupG
import HandS.TupSets
import HandS.HeadHook3
import PySem.Challenge.RW_trayworks_k02_codes_at_their_bounds
set_option Elab.async false
set_option linter.all false
set_option maxRecDepth 100000
set_option maxHeartbeats 4000000
/-! own words: a callee as one fact, the tape of draws -/
namespace Tw
open PySem PySem.Spec PyProof.Rows L2
/-- a def of the top, by its name: it stands there, and keeps its promise at level k -/
structure Cal (P : Program) (w : World) (K : PySem.W.Frag) (mg : Str → Option Value) (base : Heap) (x : Str) (k : Nat) (ps : List Str) (sp : Sp) : Prop where
  ex : ∃ (f : Addr) (fd : FuncData), FnOk P w K mg base CX0 k f fd ps sp ∧ mg x = some (.ref f) ∧ PySem.W.keepIn K (.ref f) = true ∧ Binds K fd ps []
section
variable {X : Cx} {x : Str} {j k : Nat} {ps : List Str} {sp : Sp} {e : Expr} {es : List Expr} {t : TA} {p pos : Pos}
theorem pe_c (C : Cal X.prog X.w X.K X.mg X.base x k ps sp) (hr : Room j X.A) (hk : k ≤ j := by decide) (hg : Gl X x := by rfl) (ha : PA X (e :: es) t)
    (hdb : (x == ("__debug__" : Str)) = false := by decide) (he : starEach (e :: es) X.env = (false, eval e X.env) :: starEach es X.env := by rfl) (hpl : (backTo pos (starEach es X.env)).any (·.1) = false := by rfl) :
    PE X (.Call (.Name x p) (e :: es) [] pos) (tCall sp [] E0 t) := by
  obtain ⟨f, fd, F, hm, hkp, hb⟩ := C.ex
  exact pe_call F (hr.mono hk) hg hm hkp hb .nil pass0 ha hdb he hpl
end
section
variable {X : Cx}
/-- a % b told by a letter and its bounds -/
def rModA : R2 := fun x y H Q => ∃ i j : Int, x = .int i ∧ y = .int j ∧ 0 < j ∧ ∀ o : Int, 0 ≤ o → o < j → o = i % j → Q (.int o) H
theorem op_modA : OpR X (binaryOp .Mod) rModA := fun pins s σ H x y u v Q I rx ry h => by
  obtain ⟨i, j, e1, e2, hj, q⟩ := h
  exact op_mod pins s σ H x y u v Q I rx ry ⟨i, j, e1, e2, hj, q _ (Int.emod_nonneg _ (by omega)) (Int.emod_lt_of_pos _ hj) rfl⟩
end
/-- the tape of draws at t, good for n draws more -/
def Tape (H : Hp) (t : Addr) (n : Nat) : Prop := ∃ a b c : Int, H t = some (.lst [.int a, .int b, .int c]) ∧ 0 ≤ b ∧ b < 4611686018427387904 ∧ 0 ≤ c ∧ c + (n : Int) ≤ 1000000000000
/-- all that was tracked stands, but for t -/
def Kp (t : Addr) (H H' : Hp) : Prop := ∀ b o, b ≠ t → H b = some o → H' b = some o
theorem Kp.refl (t : Addr) (H : Hp) : Kp t H H := fun _ _ _ h => h
theorem Kp.trans {t : Addr} {H H1 H2 : Hp} (a : Kp t H H1) (b : Kp t H1 H2) : Kp t H H2 := fun c o n h => b c o n (a c o n h)
theorem Kp.set {t : Addr} {H : Hp} {o : HO} : Kp t H (upd H t o) := fun b u n h => by
  rw [upd_ne n]
  exact h
theorem Kp.new {t p : Addr} {H : Hp} {o : HO} (h : H p = none) : Kp t H (upd H p o) := fun b u _ e => by
  rw [upd_ne (ne_of_none e h)]
  exact e
theorem Tape.mono {H : Hp} {t : Addr} {n m : Nat} (h : Tape H t n) (l : m ≤ n) : Tape H t m := by
  obtain ⟨a, b, c, e, h1, h2, h3, h4⟩ := h
  exact ⟨a, b, c, e, h1, h2, h3, by omega⟩
/-- a draw: below m, the tape alone changes -/
def spDraw : Sp := fun vs H Q _ => ∃ (t : Addr) (m : Int) (n : Nat), vs = [.ref t, .int m] ∧ 0 < m ∧ m < 1073741824 ∧ Tape H t (n + 1) ∧
  ∀ (i : Int) H', 0 ≤ i → i < m → Kp t H H' → Tape H' t n → Q (.int i) H'
end Tw

/-! word, *rest = a tuple -/
namespace Tw
open PySem PySem.Spec PyProof.Rows L2
theorem walksShift {prog : Program} {w : World} {A : Around} {I : Addr} {fp wr : List Addr} {G : Array GenState → Array GenState → Prop} {n : Nat} {P : Nat → Value → Prop} {St : Nat → Shared → Prop}
    (W : WalksS prog w A I fp wr G (n + 1) P St) : WalksS prog w A I fp wr G n (fun i v => P (i + 1) v) (fun i s => St (i + 1) s) where
  sub := W.sub
  grefl := W.grefl
  gtrans := W.gtrans
  frame := fun i s h' tk st ht hk => W.frame (i + 1) s h' tk st ht hk
  item := fun i s Q E hi st hQ => W.item (i + 1) s Q E (by omega) st hQ
  done := fun s Q E st hQ => W.done s Q E st hQ
  self := fun i s Q E st hQ => W.self (i + 1) s Q E st hQ
section
variable {prog : Program} {w : World} {A : Around} {E : Value → Shared → Prop} {s : Shared}
theorem unpackItems_star {t : Addr} {x : Value} {xs : List Value} {Q : List Value → Shared → Prop} (hh : A.handled = none) (ht : IsTup s.heap t (x :: xs).toArray) (hz : xs.length ≤ sizeLine)
    (hQ : ∀ (h1 : Heap) (tk : Nat), (∀ b o, s.heap.get? b = some o → h1.get? b = some o) → Q [x, .ref h1.objs.size] { s with heap := h1.push { cls := .type "list", data := .seq xs.toArray }, toks := tk }) :
    wpAny (model prog w) A (unpackItems (.ref t) 2 (some 1)) Q E s := by
  have hlt : t ≠ s.heap.objs.size := by obtain ⟨o, ho, _⟩ := ht; exact Nat.ne_of_lt (Heap.lt_size ho)
  unfold unpackItems
  refine wpAny_bind ?_
  unfold notIterableAtAll
  refine wpAny_bind (wpAny_specialOf ht.typeIs slot_tuple_iter.lookup ?_)
  refine wpAny_pure ?_
  simp only [Bool.false_eq_true, if_false]
  refine wpAny_bind (wpAny_holding (iter_tuple ht ?_))
  refine wpAny_bind (wpAny_holding (draw_tuple hlt 1 0 _ _ ⟨_, Heap.get?_push_size _ rfl, rfl, rfl⟩ (ht.push _) (by simp) fun h₁ hit₁ hs₁ => ?_))
  have e1 : List.take 1 (List.drop 0 (x :: xs).toArray.toList) = [x] := by simp
  rw [e1, if_neg (by simp)]
  have ht₁ : IsTup h₁ t (x :: xs).toArray := (ht.push _).extBut hs₁.extBut hlt
  have hA : A.in1.handled = none := hh
  have W := walksShift (n := xs.length) (Walks.toS (Walks.tuple (prog := prog) (w := w) hA s.heap.objs.size t hlt (x :: xs).toArray))
  have hI : s.heap.objs.size < h₁.objs.size := by obtain ⟨o, ho, _⟩ := hit₁; exact Heap.lt_size ho
  have ht2 : t < h₁.objs.size := ht₁.lt
  refine wpAny_bind (wpAny_holding (wpAny_collect_iter (T := "tuple_iterator") (.inr (.inr (.inr rfl))) W (fun i s st => ?_) ?_ ?_ (by simp) (fun s' acc hm hacc => ?_) hz))
  · obtain ⟨⟨o, ho, hc, _⟩, _⟩ := st
    exact ⟨o, ho, hc⟩
  · exact ⟨hit₁, ht₁⟩
  · intro b hb
    simp at hb
    rcases hb with rfl | rfl
    · exact hI
    · exact ht2
  · have ea : acc.toList = xs := by
      refine List.ext_getElem? fun j => ?_
      cases hj : acc.toList[j]? with
      | none =>
        have h1 : acc.toList.length ≤ j := List.getElem?_eq_none_iff.mp hj
        have h2 := hacc.1
        rw [← Array.length_toList] at h2
        exact (List.getElem?_eq_none_iff.mpr (by omega)).symm
      | some v =>
        have h1 := hacc.2 j v (by rw [← Array.getElem?_toList]; exact hj)
        have h2 : (x :: xs)[j + 1]? = some v := by simpa using h1
        rw [← h2]
        rfl
    rw [ea]

    rw [if_neg (by omega)]
    have e2 : 2 - 1 - 1 = 0 := rfl
    have e3 : xs.take (xs.length - (2 - 1 - 1)) = xs := by rw [e2, Nat.sub_zero]; exact List.take_length
    have e4 : xs.drop (xs.length - (2 - 1 - 1)) = [] := by rw [e2, Nat.sub_zero]; exact List.drop_length
    rw [e3, e4]
    have hg : s'.gens = s.gens := hm.gens
    refine wpAny_bind (wpAny_newList (wpAny_pure ?_) (by first | size_fits | exact hz))
    have hk : ∀ b o, s.heap.get? b = some o → s'.heap.get? b = some o := fun b o e => by
      have hb : b ≠ s.heap.objs.size := Nat.ne_of_lt (Heap.lt_size e)
      exact hm.heap b o (by simpa using hb) (hs₁.extBut b o hb (Heap.get?_push_of_some _ e))
    have q := hQ s'.heap s'.toks hk
    have es : ({ s with heap := s'.heap.push { cls := .type "list", data := .seq xs.toArray }, toks := s'.toks } : Shared) = { s' with heap := s'.heap.push { cls := .type "list", data := .seq xs.toArray } } := by
      have h1 := hm.drawn
      have h2 := hm.os
      cases s' with
      | mk hp g d tk os =>
        cases s with
        | mk hp0 g0 d0 tk0 os0 =>
          dsimp only at h1 h2 hg ⊢
          subst h1 h2 hg
          rfl
    rw [es] at q
    exact q
end
section
variable {X : Cx} {pos : Pos}
/-- a, *r = a tuple of one at least: r a new list of the others -/
def gStar (K : PySem.W.Frag) (i j : Nat) : TG := fun v σ H Q => ∃ a x xs, v = .ref a ∧ SqT K H a (x :: xs) ∧ ∀ p, H p = none → Q ((σ.set i (some x)).set j (some (.ref p))) (upd H p (.lst xs))
theorem pg_star {i j : Nat} {x y : Str} {px py ps : Pos} {k : Nat} (hc : X.calm = true) (hN : X.N.Nodup) (hi : X.N[i]? = some x) (hj : X.N[j]? = some y) (hx : Loc X.env.scope x) (hy : Loc X.env.scope y)
    (hfx : X.fn x = true ∨ X.env.scope.names.lookup x = some .local := by first | exact .inl rfl | exact .inr rfl | assumption) (hfy : X.fn y = true ∨ X.env.scope.names.lookup y = some .local := by first | exact .inl rfl | exact .inr rfl | assumption) :
    PG X (.Tuple [.Name x px, .Starred (.Name y py) ps] k pos) (gStar X.K i j) := by
  refine ⟨fun pins s σ H v u Q I r hw => ?_⟩
  obtain ⟨a, x0, xs, e1, hq, hw⟩ := hw
  subst e1
  cases r
  obtain ⟨its, rv, ht, hz⟩ := I.tuple hq
  cases rv with
  | cons rx rr =>
    rename_i ux us
    have hzu : us.length ≤ sizeLine := by
      have := rr.length
      rw [List.length_cons] at hz
      omega
    rw [PyProof.Rows.assign_Tuple]
    refine wpAny_bind (wpAny_standAt ?_)
    unfold unpack
    show wpAny _ _ (holding [Value.ref a] (unpackItems (.ref a) 2 (some 1)) >>= fun vs => assignInOrder [assign (.Name x px) X.env, assign (.Name y py) X.env] vs) _ _ s
    refine wpAny_bind (wpAny_holding (unpackItems_star (I.ok.hd hc) ht hzu fun h1 tk hk => ?_))
    have I1 : Inv X pins σ H { s with heap := h1, toks := tk } := I.kept hk
    have I2 : Inv X pins σ (upd H h1.objs.size (.lst xs)) { s with heap := h1.push { cls := .type "list", data := .seq us.toArray }, toks := tk } :=
      I1.laid (t' := tk) (fun b o e => Heap.get?_push_of_some _ e) (Nat.le_refl _) ⟨by rw [rr.length]; exact hzu, us, _, rr, Heap.get?_push_size _ rfl⟩
    have hn : H h1.objs.size = none := I1.hok.fresh (Nat.le_refl _)
    refine assignInOrder_cons (thn ((pg_name (pos := px) hN hi hx hfx).run pins _ σ _ x0 ux _ I2 rx (show gName i x0 σ _ (fun σ' H' => σ' = σ.set i (some x0) ∧ H' = upd H h1.objs.size (.lst xs)) from ⟨rfl, rfl⟩)) fun _ s3 ⟨σ3, H3, I3, q3⟩ => ?_)
    obtain ⟨rfl, rfl⟩ := q3
    refine assignInOrder_cons (thn ((pg_name (pos := py) hN hj hy hfy).run pins _ _ _ (.ref h1.objs.size) _ _ I3 rfl (show gName j (.ref h1.objs.size) _ _ (fun σ' H' => Q σ' H') from hw _ hn)) fun _ s4 q4 => ?_)
    exact assignInOrder_nil q4
end
end Tw

namespace Tw
open PySem PySem.Spec PyProof.Rows L2
/-- the built-in names that the top leaves alone -/
structure Bl (mg : Str → Option Value) : Prop where
  len : mg "len" = none
  abs : mg "abs" = none
  int : mg "int" = none
  list : mg "list" = none
  tuple : mg "tuple" = none
  str : mg "str" = none
  bool : mg "bool" = none
  range : mg "range" = none
  enumerate : mg "enumerate" = none
  zip : mg "zip" = none
  all : mg "all" = none
  isinstance : mg "isinstance" = none
/-! ### data -/
def tyN : PyData → String
  | .none => "NoneType" | .bool _ => "bool" | .int _ => "int" | .str _ => "str" | .list _ => "list" | .tuple _ => "tuple" | .dict _ => "dict"
/-- data of at most so many storeys, without dicts, no part longer than 100000 -/
def okD : Nat → PyData → Prop
  | _, .none => True | _, .bool _ => True | _, .int _ => True | _, .str _ => True
  | 0, .list _ => False | 0, .tuple _ => False | _, .dict _ => False
  | n + 1, .list ds => ds.length ≤ 100000 ∧ ∀ d ∈ ds, okD n d
  | n + 1, .tuple ds => ds.length ≤ 100000 ∧ ∀ d ∈ ds, okD n d
theorem same_sqt {K : PySem.W.Frag} {H H' : Hp} {a : Addr} {xs : List V} (e : Same H H') (h : SqT K H a xs) : SqT K H' a xs := by
  rcases h with (h | ⟨o, h⟩) | h
  · exact .inl (.inl (e _ _ h))
  · exact .inl (.inr ⟨o, e _ _ h⟩)
  · exact .inr h
theorem same_new {H : Hp} {p : Addr} {o : HO} (h : H p = none) : Same H (upd H p o) := fun b x e => by
  rw [upd_ne (ne_of_none e h)]
  exact e
/-- an object that H does not know may change -/
theorem same_mut {H H' : Hp} {p : Addr} {o : HO} (e : Same H H') (h : H p = none) : Same H (upd H' p o) := fun a u ha => by
  rw [upd_ne (ne_of_none ha h)]
  exact e a u ha
mutual
theorem dp_mono {K : PySem.W.Frag} {H H' : Hp} (e : Same H H') : ∀ {v : V} {d : PyData}, Dp K H v d → Dp K H' v d
  | _, _, .non => .non
  | _, _, .bl b => .bl b
  | _, _, .int i => .int i
  | _, _, .str x => .str x
  | _, _, .lst h a => .lst (e.seq h) (dpa_mono e a)
  | _, _, .tup h a => .tup (same_sqt e h) (dpa_mono e a)
theorem dpa_mono {K : PySem.W.Frag} {H H' : Hp} (e : Same H H') : ∀ {vs : List V} {ds : List PyData}, DpAll K H vs ds → DpAll K H' vs ds
  | _, _, .nil => .nil
  | _, _, .cons h a => .cons (dp_mono e h) (dpa_mono e a)
end
theorem dpa_len {K : PySem.W.Frag} {H : Hp} : ∀ {vs : List V} {ds : List PyData}, DpAll K H vs ds → vs.length = ds.length
  | _, _, .nil => rfl
  | _, _, .cons _ a => congrArg Nat.succ (dpa_len a)
theorem dpa_get {K : PySem.W.Frag} {H : Hp} : ∀ {vs : List V} {ds : List PyData} {i : Nat} {v : V}, DpAll K H vs ds → vs[i]? = some v → ∃ d, ds[i]? = some d ∧ Dp K H v d
  | _, _, _, _, .nil, e => by simp at e
  | _, _, 0, _, .cons h _, e => by
    simp at e
    subst e
    exact ⟨_, rfl, h⟩
  | _, _, i + 1, v, .cons _ a, e => by
    obtain ⟨d, h1, h2⟩ := dpa_get (i := i) (v := v) a (by simpa using e)
    exact ⟨d, by simpa using h1, h2⟩
theorem sqL_ty {K : PySem.W.Frag} {H : Hp} {a : Addr} {xs : List V} (h : SqL K H a xs) : TyX K H (.ref a) (.type "list") := by
  rcases h with (h | ⟨o, h⟩) | ⟨o, its, n, h, hc, _⟩
  · exact .base (.lst h)
  · exact .base (.frz h)
  · exact .kList h hc
theorem sqT_ty {K : PySem.W.Frag} {H : Hp} {a : Addr} {xs : List V} (h : SqT K H a xs) : TyX K H (.ref a) (.type "tuple") := by
  rcases h with (h | ⟨o, h⟩) | ⟨o, its, n, h, hc, _⟩
  · exact .base (.tup h)
  · exact .fTuple h
  · exact .kTuple h hc
theorem any2 {K : PySem.W.Frag} {t a b : String} {x y : Bool} (h1 : kitB t a = some x) (h2 : kitB t b = some y) : PySem.W.kitAny K (.type t) [.type a, .type b] = some (x || y) := by
  refine kitAny_cons (kit_ty h1) (fun e => ?_) (fun e => by rw [e]; rfl)
  subst e
  refine kitAny_cons (kit_ty h2) (fun e => ?_) (fun e => by rw [e]; rfl)
  subst e
  exact kitAny_nil
/-! ### a comprehension over zip -/
theorem lc_zipL {K : PySem.W.Frag} {a b : Addr} {xs ys : List V} {g : TG} {tt : TT} {te : TE} {vs : List Nat} {σ : L2.St} {H1 : Hp} {D : Addr} {Qd : Hp → Prop} (hl : xs.length = ys.length) (Pv : Nat → Hp → Prop) (h0 : Pv 0 (upd H1 D (.lst []))) (hq : ∀ i H, Pv i H → SqL K H a xs ∧ SqL K H b ys)
    (hs : ∀ (i : Nat) (x y : V) (T : Addr) (H : Hp), xs[i]? = some x → ys[i]? = some y → Pv i H → H T = none → g (.ref T) (wipe σ vs) (upd H T (.tup [x, y])) fun σ2 H2 => wipe σ2 vs = wipe σ vs ∧ tt σ2 H2 fun b H3 =>
      if b = true then te σ2 H3 fun y H4 => ∃ acc, H4 D = some (.lst acc) ∧ acc.length < sizeLine ∧ Pv (i + 1) (upd H4 D (.lst (acc ++ [y]))) else Pv (i + 1) H3) (hd : ∀ H, Pv xs.length H → Qd H) :
    ∃ W : Nat → Nat → Hp → Prop, (∃ m, W 0 m (upd H1 D (.lst []))) ∧ ∀ i m H, W i m H →
      ((Itz K a b).stop i H ∧ Qd H) ∨ ((Itz K a b).go i H ∧ ∃ Nx : Hp → Prop, (∀ H', Nx H' → ∃ m', m' < m ∧ W (i + 1) m' H') ∧ ∀ x H', (Itz K a b).yld i H x H' → g x (wipe σ vs) H' fun σ2 H2 => wipe σ2 vs = wipe σ vs ∧ tt σ2 H2 fun b H3 =>
        if b = true then te σ2 H3 fun y H4 => ∃ acc, H4 D = some (.lst acc) ∧ acc.length < sizeLine ∧ Nx (upd H4 D (.lst (acc ++ [y]))) else Nx H3) := by
  refine ⟨fun i m H => m = xs.length - i ∧ i ≤ xs.length ∧ Pv i H, ⟨xs.length, rfl, Nat.zero_le _, h0⟩, ?_⟩
  rintro i m H ⟨rfl, hi, p⟩
  obtain ⟨qx, qy⟩ := hq i H p
  by_cases hlt : i < xs.length
  · have hx : xs[i]? = some xs[i] := List.getElem?_eq_getElem hlt
    have hlt2 : i < ys.length := by omega
    have hy : ys[i]? = some ys[i] := List.getElem?_eq_getElem hlt2
    refine .inr ⟨⟨xs, ys, _, _, qx, qy, hx, hy⟩, Pv (i + 1), fun H' p' => ⟨xs.length - (i + 1), by omega, rfl, hlt, p'⟩, fun v H' y => ?_⟩
    obtain ⟨T, x', y', rfl, hT, rfl, f1, f2⟩ := y
    exact hs i x' y' T H (f1 xs qx) (f2 ys qy) p hT
  · have e : i = xs.length := by omega
    subst e
    exact .inl ⟨⟨xs, ys, qx, qy, Or.inl (Nat.le_refl _)⟩, hd H p⟩
theorem lc_zipT {K : PySem.W.Frag} {a b : Addr} {xs ys : List V} {g : TG} {tt : TT} {te : TE} {vs : List Nat} {σ : L2.St} {H1 : Hp} {D : Addr} {Qd : Hp → Prop} (hl : xs.length = ys.length) (Pv : Nat → Hp → Prop) (h0 : Pv 0 (upd H1 D (.lst []))) (hq : ∀ i H, Pv i H → SqT K H a xs ∧ SqT K H b ys)
    (hs : ∀ (i : Nat) (x y : V) (T : Addr) (H : Hp), xs[i]? = some x → ys[i]? = some y → Pv i H → H T = none → g (.ref T) (wipe σ vs) (upd H T (.tup [x, y])) fun σ2 H2 => wipe σ2 vs = wipe σ vs ∧ tt σ2 H2 fun b H3 =>
      if b = true then te σ2 H3 fun y H4 => ∃ acc, H4 D = some (.lst acc) ∧ acc.length < sizeLine ∧ Pv (i + 1) (upd H4 D (.lst (acc ++ [y]))) else Pv (i + 1) H3) (hd : ∀ H, Pv xs.length H → Qd H) :
    ∃ W : Nat → Nat → Hp → Prop, (∃ m, W 0 m (upd H1 D (.lst []))) ∧ ∀ i m H, W i m H →
      ((RZ.ItzT K a b).stop i H ∧ Qd H) ∨ ((RZ.ItzT K a b).go i H ∧ ∃ Nx : Hp → Prop, (∀ H', Nx H' → ∃ m', m' < m ∧ W (i + 1) m' H') ∧ ∀ x H', (RZ.ItzT K a b).yld i H x H' → g x (wipe σ vs) H' fun σ2 H2 => wipe σ2 vs = wipe σ vs ∧ tt σ2 H2 fun b H3 =>
        if b = true then te σ2 H3 fun y H4 => ∃ acc, H4 D = some (.lst acc) ∧ acc.length < sizeLine ∧ Nx (upd H4 D (.lst (acc ++ [y]))) else Nx H3) := by
  refine ⟨fun i m H => m = xs.length - i ∧ i ≤ xs.length ∧ Pv i H, ⟨xs.length, rfl, Nat.zero_le _, h0⟩, ?_⟩
  rintro i m H ⟨rfl, hi, p⟩
  obtain ⟨qx, qy⟩ := hq i H p
  by_cases hlt : i < xs.length
  · have hx : xs[i]? = some xs[i] := List.getElem?_eq_getElem hlt
    have hlt2 : i < ys.length := by omega
    have hy : ys[i]? = some ys[i] := List.getElem?_eq_getElem hlt2
    refine .inr ⟨⟨xs, ys, _, _, qx, qy, hx, hy⟩, Pv (i + 1), fun H' p' => ⟨xs.length - (i + 1), by omega, rfl, hlt, p'⟩, fun v H' y => ?_⟩
    obtain ⟨T, x', y', rfl, hT, rfl, f1, f2⟩ := y
    exact hs i x' y' T H (f1 xs qx) (f2 ys qy) p hT
  · have e : i = xs.length := by omega
    subst e
    exact .inl ⟨⟨xs, ys, qx, qy, Or.inl (Nat.le_refl _)⟩, hd H p⟩
/-- two things that are the same data, of at most n storeys: True -/
def spSame (K : PySem.W.Frag) (n : Nat) : Sp := fun vs H Q _ => ∃ (x y : V) (d : PyData), vs = [x, y] ∧ Dp K H x d ∧ Dp K H y d ∧ okD n d ∧ ∀ H', Same H H' → Q (.bl true) H'
end Tw

/-! a tuple times a number, from 0 on -/
namespace Tw
open PySem PySem.Spec PyProof.Rows L2
theorem tuple_mul1 (l : Addr) (items : Array Value) (n : Nat) (dd : Option Addr) (sl : Array (Option Value)) (x : Int) (u : Tok) (c0 : (decide (x < -(2 ^ 63)) || decide (x ≥ 2 ^ 63)) = false) (c1 : (items.isEmpty || x == 1) = true) :
    Meets (Builtin.«tuple.__mul__» ⟨[.ref l, .int x u], []⟩) (fun _ R s => s.heap.get? l = some { cls := .type "tuple", dict := dd, data := .seq items n, slots := sl } ∧ R (.ok (.ret (Value.ref l))) s) :=
  .of_wp fun prog w A R s h => by
    obtain ⟨hp, g, d, tk, os⟩ := s
    obtain ⟨hl, h⟩ := h
    have f1 := AutoSeq1.idx_int
    wp_walk using wpAny_loadPart' hl
    repeat (first
      | (refine wpAny_ite_false (decide_eq_false (by rw [c0]; exact Bool.false_ne_true)) ?_; wp_walk using wpAny_loadPart' hl)
      | (refine wpAny_ite_true (decide_eq_true c1) ?_; wp_walk using wpAny_loadPart' hl))
    exact ⟨_, rfl, h⟩
/-- t * 1: t itself -/
def rRep1 (K : PySem.W.Frag) : R2 := fun x y H Q => ∃ l xs, x = .ref l ∧ y = .int 1 ∧ SqT K H l xs ∧ Q (.ref l) H
theorem op_rep1 {X : Cx} : OpR X (binaryOp .Mult) (rRep1 X.K) := by
  intro pins s σ H x y v u Q I rx ry h
  obtain ⟨l, xs, rfl, rfl, hT, q⟩ := h
  cases rx
  obtain ⟨t, rfl⟩ := ry
  obtain ⟨its, r, ⟨⟨cls, dd, data, sl⟩, ho, hc, n, hd⟩, hs⟩ := I.tuple hT
  simp only at hc hd
  subst hc hd
  refine wpAny_binaryOp_repeat_ref (T := "tuple") (U := "int") (by decide) ⟨_, ho, rfl⟩ (fun s' => typeIs_int s' 1 t) noFill_tuple_mul F.fills_int_mul F.slot_int_rmul repeat_tuple F.slot_int_index.lookup
    (call_meets F.slot_int_rmul (typeIs_int s 1 t) F.entry_int_rmul (F.args_int_rmul_2 _ _) (int_rmul_tuple 1 t l its.toArray n dd sl)
      ⟨ho, rfl, ⟨_, ho, rfl⟩, call_meets F.slot_tuple_mul ⟨_, ho, rfl⟩ F.entry_tuple_mul (F.args_tuple_mul_2 _ _) (tuple_mul1 l its.toArray n dd sl 1 t (by decide) (by rw [Bool.or_comm]; rfl)) ⟨ho, ?_⟩⟩)
  exact ⟨.ref l, H, I, rfl, q⟩
section
variable {X : Cx}
/-- t + u, t * k, t[a:b], tuple(x): some tuple of that, all else as it was -/
def rCatU (K : PySem.W.Frag) : R2 := fun x y H Q => ∃ a b xs ys, x = .ref a ∧ y = .ref b ∧ SqT K H a xs ∧ SqT K H b ys ∧ xs.length + ys.length ≤ 100000 ∧ ∀ p H', Same H H' → SqT K H' p (xs ++ ys) → Q (.ref p) H'
theorem op_catU : OpR X (binaryOp .Add) (rCatU X.K) := fun pins s σ H x y v u Q I rx ry h => by
  obtain ⟨a, b, xs, ys, e1, e2, ha, hb, hz, q⟩ := h
  refine op_catA pins s σ H x y v u Q I rx ry ⟨a, b, xs, ys, e1, e2, ha, hb, Nat.le_trans hz (by decide), fun e => ?_, fun _ e => ?_, fun _ _ p np => ?_⟩
  · subst e
    exact q b H (Same.refl H) hb
  · subst e
    exact q a H (Same.refl H) (by rw [List.append_nil]; exact ha)
  · exact q p _ (same_new np) (SqT.of upd_same)
def rRepU (K : PySem.W.Frag) : R2 := fun x y H Q => ∃ (l : Addr) (k : Nat) (xs : List V), x = .ref l ∧ y = .int (k : Int) ∧ SqT K H l xs ∧ xs ≠ [] ∧ 1 ≤ k ∧ k ≤ 1000 ∧ xs.length ≤ 1000 ∧ ∀ p H', Same H H' → SqT K H' p (List.replicate k xs).flatten → Q (.ref p) H'
theorem op_repU : OpR X (binaryOp .Mult) (rRepU X.K) := fun pins s σ H x y v u Q I rx ry h => by
  obtain ⟨l, k, xs, e1, e2, hl, hne, hk1, hk2, hz, q⟩ := h
  by_cases h1 : k = 1
  · subst h1
    refine op_rep1 pins s σ H x y v u Q I rx ry ⟨l, xs, e1, e2, hl, q l H (Same.refl H) ?_⟩
    show SqT X.K H l (xs ++ [])
    rw [List.append_nil]
    exact hl
  · refine op_repT pins s σ H x y v u Q I rx ry ⟨l, (k : Int), xs, e1, e2, hl, hne, by omega, by omega, hz, fun p np => q p _ (same_new np) (SqT.of ?_)⟩
    rw [upd_same]
    rfl
def rSlU (K : PySem.W.Frag) : V → Option Int → Option Int → Hp → VK → Prop := fun x lo hi H Q => ∃ a xs, x = .ref a ∧ SqT K H a xs ∧ ∀ p H', Same H H' → SqT K H' p (cutV xs lo hi) → Q (.ref p) H'
theorem cut_whole {xs : List V} {lo hi : Option Int} (h : HT.sIx xs.length 0 lo = 0 ∧ HT.sIx xs.length xs.length hi = xs.length) : cutV xs lo hi = xs := by
  unfold cutV
  rw [h.1, h.2, List.drop_zero, Nat.sub_zero, List.take_length]
theorem sl_tupU : SlR X (rSlU X.K) := fun pins s σ H x v vl vu lo hi sl Q I rx hs pl pu h => by
  obtain ⟨a, xs, e1, ha, q⟩ := h
  refine sl_tupA pins s σ H x v vl vu lo hi sl Q I rx hs pl pu ⟨a, xs, e1, ha, fun hw => ?_, fun _ p np => q p _ (same_new np) (SqT.of upd_same)⟩
  exact q a H (Same.refl H) (by rw [cut_whole hw]; exact ha)
def rTupU (K : PySem.W.Frag) : List V → Hp → VK → Prop := fun xs H Q => ∃ p ys, xs = [.ref p] ∧ (SqL K H p ys ∨ SqT K H p ys) ∧ ∀ l H', Same H H' → SqT K H' l ys → Q (.ref l) H'
theorem call_tupU : CallR X (.type "tuple") (rTupU X.K) := fun pins s σ H xs us Q I r h => by
  obtain ⟨p, ys, e1, h1, q⟩ := h
  refine call_tuple_of pins s σ H xs us Q I r ⟨p, ys, e1, ?_⟩
  rcases h1 with h1 | h1
  · exact .inl ⟨h1, fun l nl => q l _ (same_new nl) (SqT.of upd_same)⟩
  · exact .inr ⟨h1, q p H (Same.refl H) h1⟩
end
/-- what an expression comes to is told by R, then gone on with -/
def tCutE (te : TE) : TE := fun σ H Q => ∃ R : VK, te σ H R ∧ ∀ v H', R v H' → Q v H'
theorem pe_cut {X : Cx} {e : Expr} {te : TE} (he : PE X e te) : PE X e (tCutE te) := by
  refine ⟨fun pins s σ H Q I h => ?_⟩
  obtain ⟨R, h1, h2⟩ := h
  exact thn (he.run pins s σ H R I h1) fun v s1 ⟨x, H1, I1, r1, q1⟩ => ⟨x, H1, I1, r1, h2 x H1 q1⟩
/-- displays, without naming the heap -/
def tTupU (ta : TA) : TE := fun σ H Q => ta σ H fun vs H1 => vs.length ≤ 100000 ∧ ∀ p H', H1 p = none → Same H1 H' → H' p = some (.tup vs) → Q (.ref p) H'
def tLstU (ta : TA) : TE := fun σ H Q => ta σ H fun vs H1 => vs.length ≤ 100000 ∧ ∀ p H', H1 p = none → Same H1 H' → H' p = some (.lst vs) → Q (.ref p) H'
section
variable {X : Cx} {es : List Expr} {ta : TA} {pos : Pos} {k : Nat}
theorem pe_tupU (ha : PA X es ta) : PE X (.Tuple es k pos) (tTupU ta) := by
  refine ⟨fun pins s σ H Q I hq => wpAny_Tuple_spliced ?_⟩
  refine thn (ha.run pos pins s σ H _ I hq) fun us s1 ⟨vs, H1, I1, r, z, q⟩ => ?_
  have z' : vs.length ≤ sizeLine := Nat.le_trans z (by decide)
  have fr := I1.hok.fresh (Nat.le_refl s1.heap.objs.size)
  have new : Inv X pins σ (upd H1 s1.heap.objs.size (.tup vs)) _ := I1.laid (h' := s1.heap.push { cls := .type "tuple", data := .seq us.toArray }) (t' := s1.toks)
    (fun b u e => Heap.get?_push_of_some _ e) (Nat.le_refl _) ⟨z', us, r, ⟨_, Heap.get?_push_size _ rfl, rfl, _, rfl⟩⟩
  exact ⟨by rw [← r.length]; exact z', .ref s1.heap.objs.size, _, new, rfl, q _ _ fr (same_new fr) upd_same⟩
theorem pe_lstU (ha : PA X es ta) : PE X (.List es pos) (tLstU ta) := by
  refine ⟨fun pins s σ H Q I hq => wpAny_List_spliced ?_⟩
  refine thn (ha.run pos pins s σ H _ I hq) fun us s1 ⟨vs, H1, I1, r, z, q⟩ => ?_
  have z' : vs.length ≤ sizeLine := Nat.le_trans z (by decide)
  have fr := I1.hok.fresh (Nat.le_refl s1.heap.objs.size)
  have new : Inv X pins σ (upd H1 s1.heap.objs.size (.lst vs)) _ := I1.laid (h' := s1.heap.push { cls := .type "list", data := .seq us.toArray }) (t' := s1.toks)
    (fun b u e => Heap.get?_push_of_some _ e) (Nat.le_refl _) ⟨z', us, _, r, Heap.get?_push_size _ rfl⟩
  exact ⟨by rw [← r.length]; exact z', .ref s1.heap.objs.size, _, new, rfl, q _ _ fr (same_new fr) upd_same⟩
end
/-! lists: +, list(x), slices -/
section
variable {X : Cx}
def rCatL (K : PySem.W.Frag) : R2 := fun x y H Q => ∃ l b xs zs, x = .ref l ∧ y = .ref b ∧ H l = some (.lst xs) ∧ H b = some (.lst zs) ∧ xs.length + zs.length ≤ 100000 ∧ ∀ p H', H p = none → Same H H' → H' p = some (.lst (xs ++ zs)) → Q (.ref p) H'
theorem op_catL : OpR X (binaryOp .Add) (rCatL X.K) := fun pins s σ H x y v u Q I rx ry h => by
  obtain ⟨l, b, xs, zs, e1, e2, hl, hb, hz, q⟩ := h
  exact op_cat pins s σ H x y v u Q I rx ry ⟨l, b, xs, zs, e1, e2, hl, hb, Nat.le_trans hz (by decide), fun p np => q p _ np (same_new np) upd_same⟩
def rLstU (K : PySem.W.Frag) : List V → Hp → VK → Prop := fun xs H Q => ∃ p ys, xs = [.ref p] ∧ (SqL K H p ys ∨ SqT K H p ys) ∧ ∀ l H', H l = none → Same H H' → H' l = some (.lst ys) → Q (.ref l) H'
theorem call_lstU : CallR X (.type "list") (rLstU X.K) := fun pins s σ H xs us Q I r h => by
  obtain ⟨p, ys, e1, h1, q⟩ := h
  exact call_list_of pins s σ H xs us Q I r ⟨p, ys, e1, h1, fun l nl => q l _ nl (same_new nl) upd_same⟩
def rSlLU (K : PySem.W.Frag) : V → Option Int → Option Int → Hp → VK → Prop := fun x lo hi H Q => ∃ a xs, x = .ref a ∧ SqL K H a xs ∧ ∀ p H', H p = none → Same H H' → H' p = some (.lst (cutV xs lo hi)) → Q (.ref p) H'
theorem sl_lstU : SlR X (rSlLU X.K) := fun pins s σ H x v vl vu lo hi sl Q I rx hs pl pu h => by
  obtain ⟨a, xs, e1, ha, q⟩ := h
  exact sl_list pins s σ H x v vl vu lo hi sl Q I rx hs pl pu ⟨a, xs, e1, ha, fun p np => q p _ np (same_new np) upd_same⟩
end
def rRepA (K : PySem.W.Frag) : R2 := fun x y H Q => rRepT K x y H Q ∨ rRep1 K x y H Q
theorem op_repA {X : Cx} : OpR X (binaryOp .Mult) (rRepA X.K) := OpR.or op_repT op_rep1
end Tw

/-! pure meanings, by functions: data in the slots, things of one's own; what a reading of the hand layer asks follows from a run of the pure one -/
namespace Tw
open PySem PySem.Spec PyProof.Rows L2
theorem same_trans {H H1 H2 : Hp} (a : Same H H1) (b : Same H1 H2) : Same H H2 := fun x o h => b x o (a x o h)
inductive Da where
  | non
  | bl (b : Bool)
  | int (i : Int)
  | str (x : Str)
  | tup (ds : List Da)
  | lst (ds : List Da)
  | dct (kvs : List (Da × Da))
  | fn (x : Str)
  | scr (ds : List Da)
  | tab (kvs : List (Str × Da))
structure Md where
  P : Program
  w : World
  K : PySem.W.Frag
  mg : Str → Option Value
structure Md.at (M : Md) (X : Cx) : Prop where
  P : X.prog = M.P
  w : X.w = M.w
  K : X.K = M.K
  mg : X.mg = M.mg
def keyDa : Key → Da
  | .inl i => .int i
  | .inr x => .str x
def keysDa (ks : List Key) : Da := .tup (ks.map keyDa)
/-- a text as the model has them -/
def SOk (x : Str) : Prop := PyData.strOk x = true ∧ x.length ≤ sizeLine
def kOk : Key → Prop
  | .inl _ => True
  | .inr x => SOk x
/-- a dict of the top, by texts -/
def TabAt (M : Md) (a : Addr) (ks : List Str) (vs : List V) : Prop := (∃ es n, KDict M.K M.w a es n) ∧ ∀ z, ∃ r, PySem.W.nsIn M.K a z = some r ∧ match (ks.zip vs).lookup z with
  | some v => ∃ u, r = some u ∧ RelV v u
  | none => r = none
mutual
/-- a thing that is this data -/
inductive Dx (M : Md) (H : Hp) : V → Da → Prop
  | non : Dx M H .non .non
  | bl (b : Bool) : Dx M H (.bl b) (.bl b)
  | int (i : Int) : Dx M H (.int i) (.int i)
  | str {x : Str} : SOk x → Dx M H (.str x) (.str x)
  | lst {a : Addr} {xs : List V} {ds : List Da} : H a = some (.lst xs) → Dxs M H xs ds → Dx M H (.ref a) (.lst ds)
  | scr {a : Addr} {xs : List V} {ds : List Da} : SqL M.K H a xs → Dxs M H xs ds → Dx M H (.ref a) (.scr ds)
  | tup {a : Addr} {xs : List V} {ds : List Da} : SqT M.K H a xs → Dxs M H xs ds → Dx M H (.ref a) (.tup ds)
  | dct {a : Addr} {kvs : List (Key × V)} {ds : List Da} : H a = some (.dK kvs) → (∀ kv ∈ kvs, kOk kv.1) → Dxs M H (kvs.map (·.2)) ds → Dx M H (.ref a) (.dct ((kvs.map fun kv => keyDa kv.1).zip ds))
  | tab {a : Addr} {vs : List V} {kvs : List (Str × Da)} {ds : List Da} : TabAt M a (kvs.map (·.1)) vs → kvs.map (·.2) = ds → Dxs M H vs ds → Dx M H (.ref a) (.tab kvs)
  | fn {a : Addr} {x : Str} : M.mg x = some (.ref a) → Dx M H (.ref a) (.fn x)
inductive Dxs (M : Md) (H : Hp) : List V → List Da → Prop
  | nil : Dxs M H [] []
  | cons {v : V} {vs : List V} {d : Da} {ds : List Da} : Dx M H v d → Dxs M H vs ds → Dxs M H (v :: vs) (d :: ds)
end
section
variable {M : Md}
theorem rd_same {H H' : Hp} (e : Same H H') {a : Addr} {u : HO} (h : Rd H a u) : Rd H' a u := h.elim (fun z => .inl (e _ _ z)) fun ⟨o, z⟩ => .inr ⟨o, e _ _ z⟩
mutual
theorem dx_mono {H H' : Hp} (e : Same H H') : ∀ {v : V} {d : Da}, Dx M H v d → Dx M H' v d
  | _, _, .non => .non
  | _, _, .bl b => .bl b
  | _, _, .int i => .int i
  | _, _, .str x => .str x
  | _, _, .lst h a => .lst (e _ _ h) (dxs_mono e a)
  | _, _, .scr h a => .scr (e.seq h) (dxs_mono e a)
  | _, _, .tup h a => .tup (same_sqt e h) (dxs_mono e a)
  | _, _, .dct h k a => .dct (e _ _ h) k (dxs_mono e a)
  | _, _, .tab h q a => .tab h q (dxs_mono e a)
  | _, _, .fn h => .fn h
theorem dxs_mono {H H' : Hp} (e : Same H H') : ∀ {vs : List V} {ds : List Da}, Dxs M H vs ds → Dxs M H' vs ds
  | _, _, .nil => .nil
  | _, _, .cons h a => .cons (dx_mono e h) (dxs_mono e a)
end
theorem dxs_len {H : Hp} : ∀ {vs : List V} {ds : List Da}, Dxs M H vs ds → vs.length = ds.length
  | _, _, .nil => rfl
  | _, _, .cons _ a => congrArg Nat.succ (dxs_len a)
theorem dxs_get {H : Hp} : ∀ {vs : List V} {ds : List Da} {i : Nat} {d : Da}, Dxs M H vs ds → ds[i]? = some d → ∃ v, vs[i]? = some v ∧ Dx M H v d
  | _, _, _, _, .nil, e => by simp at e
  | _, _, 0, _, .cons h _, e => by
    simp at e
    subst e
    exact ⟨_, rfl, h⟩
  | _, _, i + 1, d, .cons _ a, e => by
    obtain ⟨v, h1, h2⟩ := dxs_get (i := i) (d := d) a (by simpa using e)
    exact ⟨v, by simpa using h1, h2⟩
theorem dxs_get' {H : Hp} : ∀ {vs : List V} {ds : List Da} {i : Nat} {v : V}, Dxs M H vs ds → vs[i]? = some v → ∃ d, ds[i]? = some d ∧ Dx M H v d
  | _, _, _, _, .nil, e => by simp at e
  | _, _, 0, _, .cons h _, e => by
    simp at e
    subst e
    exact ⟨_, rfl, h⟩
  | _, _, i + 1, d, .cons _ a, e => by
    obtain ⟨v, h1, h2⟩ := dxs_get' (i := i) (v := d) a (by simpa using e)
    exact ⟨v, by simpa using h1, h2⟩
theorem dxs_app {H : Hp} : ∀ {vs us : List V} {ds es : List Da}, Dxs M H vs ds → Dxs M H us es → Dxs M H (vs ++ us) (ds ++ es)
  | _, _, _, _, .nil, h => h
  | _, _, _, _, .cons a r, h => .cons a (dxs_app r h)
theorem dxs_take {H : Hp} : ∀ (n : Nat) {vs : List V} {ds : List Da}, Dxs M H vs ds → Dxs M H (vs.take n) (ds.take n)
  | 0, _, _, _ => .nil
  | _ + 1, _, _, .nil => .nil
  | n + 1, _, _, .cons a r => .cons a (dxs_take n r)
theorem dxs_drop {H : Hp} : ∀ (n : Nat) {vs : List V} {ds : List Da}, Dxs M H vs ds → Dxs M H (vs.drop n) (ds.drop n)
  | 0, _, _, h => h
  | _ + 1, _, _, .nil => .nil
  | n + 1, _, _, .cons _ r => dxs_drop n r
theorem dxs_set {H : Hp} {v : V} {d : Da} (h : Dx M H v d) : ∀ (n : Nat) {vs : List V} {ds : List Da}, Dxs M H vs ds → Dxs M H (vs.set n v) (ds.set n d)
  | _, _, _, .nil => .nil
  | 0, _, _, .cons _ r => .cons h r
  | n + 1, _, _, .cons a r => .cons a (dxs_set h n r)
theorem dxs_rev {H : Hp} : ∀ {vs : List V} {ds : List Da}, Dxs M H vs ds → Dxs M H vs.reverse ds.reverse
  | _, _, .nil => .nil
  | _, _, .cons a r => by
    rw [List.reverse_cons, List.reverse_cons]
    exact dxs_app (dxs_rev r) (.cons a .nil)
theorem dxs_flat {H : Hp} {vs : List V} {ds : List Da} (h : Dxs M H vs ds) : ∀ (n : Nat), Dxs M H (List.replicate n vs).flatten (List.replicate n ds).flatten
  | 0 => .nil
  | n + 1 => by
    rw [List.replicate_succ, List.replicate_succ, List.flatten_cons, List.flatten_cons]
    exact dxs_app h (dxs_flat h n)
end
/-- what a slot holds: nothing that is known, data, a thing of one's own -/
inductive SV where
  | un
  | dat (d : Da)
  | own (d : Da)
abbrev S := List SV
/-- what an expression comes to: data; the thing of one's own of a slot; a new thing; a new list, tuple of such -/
inductive RV where
  | d (d : Da)
  | o (i : Nat)
  | n (d : Da)
  | l (rs : List RV)
  | t (rs : List RV)
/-- a thing of one's own, and where it lies -/
inductive OwR (M : Md) (H D : Hp) : V → Da → List Addr → Prop
  | lst {a : Addr} {vs : List V} {ds : List Da} : H a = some (.lst vs) → Dxs M D vs ds → OwR M H D (.ref a) (.lst ds) [a]
  | dct {a : Addr} {kvs : List (Key × V)} {ds : List Da} : H a = some (.dK kvs) → (∀ kv ∈ kvs, kOk kv.1) → Dxs M D (kvs.map (·.2)) ds → OwR M H D (.ref a) (.dct ((kvs.map fun kv => keyDa kv.1).zip ds)) [a]
/-- the slots' own places -/
def Own (s : S) (fp : Nat → List Addr) (a : Addr) : Prop := ∃ (i : Nat) (d : Da), s[i]? = some (SV.own d) ∧ a ∈ fp i
structure EnvR (M : Md) (σ : L2.St) (H D : Hp) (s : S) (fp : Nat → List Addr) : Prop where
  sub : Same D H
  len : s.length = σ.length
  dt : ∀ (i : Nat) d, s[i]? = some (SV.dat d) → ∃ v, σ[i]? = some (some v) ∧ Dx M D v d
  ow : ∀ (i : Nat) d, s[i]? = some (SV.own d) → ∃ v, σ[i]? = some (some v) ∧ OwR M H D v d (fp i) ∧ ∀ a ∈ fp i, D a = none
  dj : ∀ (i j : Nat) d e, s[i]? = some (SV.own d) → s[j]? = some (SV.own e) → i ≠ j → ∀ a ∈ fp i, a ∉ fp j
/-- own things may become data, data stays -/
def Kin (s s' : S) : Prop := s'.length = s.length ∧ ∀ (i : Nat), (∀ d, s[i]? = some (SV.own d) → (∃ e, s'[i]? = some (SV.own e)) ∨ ∃ e, s'[i]? = some (SV.dat e)) ∧ (∀ d, s[i]? = some (SV.dat d) → s'[i]? = some (SV.dat d)) ∧ (s[i]? = some SV.un → s'[i]? = some SV.un)
theorem Kin.refl (s : S) : Kin s s := ⟨rfl, fun _ => ⟨fun d h => .inl ⟨d, h⟩, fun _ h => h, fun h => h⟩⟩
theorem Kin.trans {a b c : S} (h : Kin a b) (k : Kin b c) : Kin a c := by
  refine ⟨k.1.trans h.1, fun i => ⟨fun d e => ?_, fun d e => (k.2 i).2.1 d ((h.2 i).2.1 d e), fun e => (k.2 i).2.2 ((h.2 i).2.2 e)⟩⟩
  rcases (h.2 i).1 d e with ⟨x, e⟩ | ⟨x, e⟩
  · exact (k.2 i).1 x e
  · exact .inr ⟨x, (k.2 i).2.1 _ e⟩
/-- what a piece of a run may do -/
structure Step (H D : Hp) (s : S) (fp : Nat → List Addr) (H' D' : Hp) (s' : S) (fp' : Nat → List Addr) : Prop where
  dd : Same D D'
  kp : ∀ a o, H a = some o → ¬ Own s fp a → H' a = some o
  nw : ∀ a, Own s' fp' a → Own s fp a ∨ H a = none
  nd : ∀ a, D' a ≠ none → D a ≠ none ∨ Own s fp a ∨ H a = none
  tr : ∀ a, H a ≠ none → H' a ≠ none
theorem Step.refl (H D : Hp) (s : S) (fp : Nat → List Addr) : Step H D s fp H D s fp := ⟨Same.refl _, fun _ _ h _ => h, fun _ h => .inl h, fun _ h => .inl h, fun _ h => h⟩
theorem Step.trans {H D H1 D1 H2 D2 : Hp} {s s1 s2 : S} {f f1 f2 : Nat → List Addr} (a : Step H D s f H1 D1 s1 f1) (b : Step H1 D1 s1 f1 H2 D2 s2 f2) : Step H D s f H2 D2 s2 f2 where
  dd := same_trans a.dd b.dd
  kp := fun x o h n => b.kp x o (a.kp x o h n) fun z => (a.nw x z).elim n fun q => by rw [h] at q; cases q
  nw := fun x h => (b.nw x h).elim (a.nw x) fun q => .inr (Classical.byContradiction fun z => a.tr x z q)
  nd := fun x h => (b.nd x h).elim (a.nd x) fun q => .inr (q.elim (a.nw x) fun q => .inr (Classical.byContradiction fun z => a.tr x z q))
  tr := fun x h => b.tr x (a.tr x h)
/-- places of a new thing: nobody's -/
def Free (D : Hp) (s : S) (fp : Nat → List Addr) (f : List Addr) : Prop := ∀ a ∈ f, D a = none ∧ ¬ Own s fp a
mutual
/-- a value, and where its own new parts lie -/
inductive VR (M : Md) (σ : L2.St) (H D : Hp) (s : S) : V → RV → List Addr → Prop
  | d {v : V} {d : Da} : Dx M D v d → VR M σ H D s v (.d d) []
  | o {v : V} {i : Nat} : σ[i]? = some (some v) → VR M σ H D s v (.o i) []
  | n {v : V} {d : Da} {f : List Addr} : OwR M H D v d f → VR M σ H D s v (.n d) f
  | l {a : Addr} {vs : List V} {rs : List RV} {f : List Addr} : H a = some (.lst vs) → VRs M σ H D s vs rs f → VR M σ H D s (.ref a) (.l rs) (a :: f)
  | t {a : Addr} {vs : List V} {rs : List RV} {f : List Addr} : SqT M.K D a vs → VRs M σ H D s vs rs f → VR M σ H D s (.ref a) (.t rs) f
inductive VRs (M : Md) (σ : L2.St) (H D : Hp) (s : S) : List V → List RV → List Addr → Prop
  | nil : VRs M σ H D s [] [] []
  | cons {v : V} {vs : List V} {r : RV} {rs : List RV} {f g : List Addr} : VR M σ H D s v r f → VRs M σ H D s vs rs g → (∀ a ∈ f, a ∉ g) → VRs M σ H D s (v :: vs) (r :: rs) (f ++ g)
end
section
variable {M : Md} {σ : L2.St} {H D H' D' : Hp} {s s' : S} {fp fp' : Nat → List Addr}
theorem OwR.here {v : V} {d : Da} {f : List Addr} (h : OwR M H D v d f) : ∀ a ∈ f, H a ≠ none := by
  intro a ha
  cases h with
  | lst h _ => simp at ha; subst ha; rw [h]; exact fun z => nomatch z
  | dct h _ _ => simp at ha; subst ha; rw [h]; exact fun z => nomatch z
theorem OwR.mono {v : V} {d : Da} {f : List Addr} (h : OwR M H D v d f) (k : ∀ a ∈ f, ∀ o, H a = some o → H' a = some o) (e : Same D D') : OwR M H' D' v d f := by
  cases h with
  | lst h x => exact .lst (k _ (by simp) _ h) (dxs_mono e x)
  | dct h q x => exact .dct (k _ (by simp) _ h) q (dxs_mono e x)
theorem Free.step {f : List Addr} (h : Free D s fp f) (hh : ∀ a ∈ f, H a ≠ none) (st : Step H D s fp H' D' s' fp') : Free D' s' fp' f := fun a ha => by
  refine ⟨Classical.byContradiction fun z => ?_, fun z => ?_⟩
  · rcases st.nd a z with q | q | q
    · exact q (h a ha).1
    · exact (h a ha).2 q
    · exact hh a ha q
  · rcases st.nw a z with q | q
    · exact (h a ha).2 q
    · exact hh a ha q
theorem Free.left {f g : List Addr} (h : Free D s fp (f ++ g)) : Free D s fp f := fun a ha => h a (List.mem_append_left _ ha)
theorem Free.right {f g : List Addr} (h : Free D s fp (f ++ g)) : Free D s fp g := fun a ha => h a (List.mem_append_right _ ha)
theorem Free.app {f g : List Addr} (h : Free D s fp f) (k : Free D s fp g) : Free D s fp (f ++ g) := fun a ha => (List.mem_append.mp ha).elim (h a) (k a)
mutual
theorem VR.here : ∀ {v : V} {r : RV} {f : List Addr}, VR M σ H D s v r f → ∀ a ∈ f, H a ≠ none
  | _, _, _, .d _, a, h => by simp at h
  | _, _, _, .o _, a, h => by simp at h
  | _, _, _, .n h, a, ha => h.here a ha
  | _, _, _, .l h r, a, ha => by
    rcases List.mem_cons.mp ha with q | q
    · rw [q, h]
      exact fun z => nomatch z
    · exact VRs.here r a q
  | _, _, _, .t _ r, a, ha => VRs.here r a ha
theorem VRs.here : ∀ {v : List V} {r : List RV} {f : List Addr}, VRs M σ H D s v r f → ∀ a ∈ f, H a ≠ none
  | _, _, _, .nil, a, h => by simp at h
  | _, _, _, .cons h r _, a, ha => (List.mem_append.mp ha).elim (VR.here h a) (VRs.here r a)
end
mutual
theorem VR.mono (st : Step H D s fp H' D' s' fp') (k : Kin s s') : ∀ {v : V} {r : RV} {f : List Addr}, VR M σ H D s v r f → Free D s fp f → VR M σ H' D' s' v r f
  | _, _, _, .d h, _ => .d (dx_mono st.dd h)
  | _, _, _, .o h, _ => .o h
  | _, _, _, .n h, f => .n (h.mono (fun a ha o q => st.kp a o q (f a ha).2) st.dd)
  | _, _, _, .l h r, f => .l (st.kp _ _ h (f _ (by simp)).2) (VRs.mono st k r fun a ha => f a (List.mem_cons_of_mem _ ha))
  | _, _, _, .t h r, f => .t (same_sqt st.dd h) (VRs.mono st k r f)
theorem VRs.mono (st : Step H D s fp H' D' s' fp') (k : Kin s s') : ∀ {vs : List V} {rs : List RV} {f : List Addr}, VRs M σ H D s vs rs f → Free D s fp f → VRs M σ H' D' s' vs rs f
  | _, _, _, .nil, _ => .nil
  | _, _, _, .cons h r z, f => .cons (VR.mono st k h f.left) (VRs.mono st k r f.right) z
end
end
/-- new since the begin: they were one's own or not there -/
def Nu (H : Hp) (s : S) (fp : Nat → List Addr) (f : List Addr) : Prop := ∀ a ∈ f, Own s fp a ∨ H a = none
theorem Nu.app {H : Hp} {s : S} {fp : Nat → List Addr} {f g : List Addr} (h : Nu H s fp f) (k : Nu H s fp g) : Nu H s fp (f ++ g) := fun a ha => (List.mem_append.mp ha).elim (h a) (k a)
theorem Nu.back {H D H' D' : Hp} {s s' : S} {fp fp' : Nat → List Addr} {f : List Addr} (h : Nu H' s' fp' f) (st : Step H D s fp H' D' s' fp') : Nu H s fp f := fun a ha => (h a ha).elim (st.nw a) fun q => .inr (Classical.byContradiction fun z => st.tr a z q)
abbrev WE := S → Option (RV × S)
abbrev WT := S → Option (Bool × S)
abbrev WA := S → Option (List RV × S)
/-- behind a piece of a run -/
structure Aft (M : Md) (σ : L2.St) (H D : Hp) (s : S) (fp : Nat → List Addr) (H' D' : Hp) (s' : S) (fp' : Nat → List Addr) : Prop where
  e : EnvR M σ H' D' s' fp'
  st : Step H D s fp H' D' s' fp'
  k : Kin s s'
theorem Aft.trans {M : Md} {σ : L2.St} {H D H1 D1 H2 D2 : Hp} {s s1 s2 : S} {f f1 f2 : Nat → List Addr} (a : Aft M σ H D s f H1 D1 s1 f1) (b : Aft M σ H1 D1 s1 f1 H2 D2 s2 f2) : Aft M σ H D s f H2 D2 s2 f2 := ⟨b.e, a.st.trans b.st, a.k.trans b.k⟩
/-- a value behind it -/
structure Val (M : Md) (σ : L2.St) (H : Hp) (s : S) (fp : Nat → List Addr) (H' D' : Hp) (s' : S) (fp' : Nat → List Addr) (v : V) (r : RV) (f : List Addr) : Prop where
  v : VR M σ H' D' s' v r f
  fr : Free D' s' fp' f
  nu : Nu H s fp f
structure Vals' (M : Md) (σ : L2.St) (H : Hp) (s : S) (fp : Nat → List Addr) (H' D' : Hp) (s' : S) (fp' : Nat → List Addr) (v : List V) (r : List RV) (f : List Addr) : Prop where
  v : VRs M σ H' D' s' v r f
  fr : Free D' s' fp' f
  nu : Nu H s fp f
theorem Val.step {M : Md} {σ : L2.St} {H H1 D1 H2 D2 : Hp} {s s1 s2 : S} {f f1 f2 : Nat → List Addr} {v : V} {r : RV} {g : List Addr} (a : Val M σ H s f H1 D1 s1 f1 v r g) (b : Aft M σ H1 D1 s1 f1 H2 D2 s2 f2) : Val M σ H s f H2 D2 s2 f2 v r g := ⟨a.v.mono b.st b.k a.fr, a.fr.step a.v.here b.st, a.nu⟩
theorem Val.back {M : Md} {σ : L2.St} {H D H1 D1 H2 D2 : Hp} {s s1 s2 : S} {f f1 f2 : Nat → List Addr} {v : V} {r : RV} {g : List Addr} (a : Val M σ H1 s1 f1 H2 D2 s2 f2 v r g) (b : Step H D s f H1 D1 s1 f1) : Val M σ H s f H2 D2 s2 f2 v r g := ⟨a.v, a.fr, a.nu.back b⟩
theorem Vals'.back {M : Md} {σ : L2.St} {H D H1 D1 H2 D2 : Hp} {s s1 s2 : S} {f f1 f2 : Nat → List Addr} {v : List V} {r : List RV} {g : List Addr} (a : Vals' M σ H1 s1 f1 H2 D2 s2 f2 v r g) (b : Step H D s f H1 D1 s1 f1) : Vals' M σ H s f H2 D2 s2 f2 v r g := ⟨a.v, a.fr, a.nu.back b⟩
theorem Val.d {M : Md} {σ : L2.St} {H : Hp} {s : S} {fp : Nat → List Addr} {H' D' : Hp} {s' : S} {fp' : Nat → List Addr} {v : V} {d : Da} (h : Dx M D' v d) : Val M σ H s fp H' D' s' fp' v (.d d) [] := ⟨.d h, fun _ h => by simp at h, fun _ h => by simp at h⟩
/-- the reading of a pure meaning -/
def tW (M : Md) (w : WE) : TE := fun σ H Q => ∃ D s fp, EnvR M σ H D s fp ∧ ∃ r s', w s = some (r, s') ∧ ∀ v H' D' fp' f, Aft M σ H D s fp H' D' s' fp' → Val M σ H s fp H' D' s' fp' v r f → Q v H'
def tWT (M : Md) (w : WT) : TT := fun σ H Q => ∃ D s fp, EnvR M σ H D s fp ∧ ∃ r s', w s = some (r, s') ∧ ∀ H' D' fp', Aft M σ H D s fp H' D' s' fp' → Q r H'
def tWA (M : Md) (w : WA) : TA := fun σ H Q => ∃ D s fp, EnvR M σ H D s fp ∧ ∃ r s', w s = some (r, s') ∧ ∀ v H' D' fp' f, Aft M σ H D s fp H' D' s' fp' → Vals' M σ H s fp H' D' s' fp' v r f → Q v H'
def J (M : Md) (X : Cx) (e : Expr) (w : WE) : Prop := M.at X → PE X e (tW M w)
def JT (M : Md) (X : Cx) (e : Expr) (w : WT) : Prop := M.at X → PT X e (tWT M w)
def JA (M : Md) (X : Cx) (es : List Expr) (w : WA) : Prop := M.at X → PA X es (tWA M w)
theorem pe_mono {X : Cx} {e : Expr} {t u : TE} (h : PE X e t) (k : ∀ σ H Q, u σ H Q → t σ H Q) : PE X e u := ⟨fun pins s σ H Q I q => h.run pins s σ H Q I (k σ H Q q)⟩
theorem pt_mono {X : Cx} {e : Expr} {t u : TT} (h : PT X e t) (k : ∀ σ H Q, u σ H Q → t σ H Q) : PT X e u := ⟨fun pins s σ H Q I q => h.run pins s σ H Q I (k σ H Q q)⟩
theorem pa_mono {X : Cx} {e : List Expr} {t u : TA} (h : PA X e t) (k : ∀ σ H Q, u σ H Q → t σ H Q) : PA X e u := ⟨fun pos pins s σ H Q I q => h.run pos pins s σ H Q I (k σ H Q q)⟩
end Tw

/-! steps of the relation; constants, names, displays -/
namespace Tw
open PySem PySem.Spec PyProof.Rows L2
section
variable {M : Md} {σ : L2.St} {H D H' D' : Hp} {s s' : S} {fp fp' : Nat → List Addr}
theorem EnvR.ownH (e : EnvR M σ H D s fp) {a : Addr} (h : Own s fp a) : H a ≠ none := by
  obtain ⟨i, d, hi, ha⟩ := h
  obtain ⟨v, _, o, _⟩ := e.ow i d hi
  exact o.here a ha
theorem EnvR.ownD (e : EnvR M σ H D s fp) {a : Addr} (h : Own s fp a) : D a = none := by
  obtain ⟨i, d, hi, ha⟩ := h
  obtain ⟨v, _, o, q⟩ := e.ow i d hi
  exact q a ha
/-- the heap grows, more of it is data -/
theorem EnvR.grow (e : EnvR M σ H D s fp) (h1 : Same H H') (h2 : Same D D') (h3 : Same D' H') (h4 : ∀ a, D' a ≠ none → D a ≠ none ∨ H a = none) : EnvR M σ H' D' s fp ∧ Step H D s fp H' D' s fp := by
  refine ⟨⟨h3, e.len, fun i d h => ?_, fun i d h => ?_, e.dj⟩, ⟨h2, fun a o h _ => h1 _ _ h, fun a h => .inl h, fun a h => (h4 a h).imp id .inr, fun a h => ?_⟩⟩
  · obtain ⟨v, a, b⟩ := e.dt i d h
    exact ⟨v, a, dx_mono h2 b⟩
  · obtain ⟨v, a, b, c⟩ := e.ow i d h
    refine ⟨v, a, b.mono (fun a _ o q => h1 _ _ q) h2, fun x hx => Classical.byContradiction fun z => ?_⟩
    rcases h4 x z with q | q
    · exact q (c x hx)
    · exact b.here x hx q
  · cases q : H a with
    | none => exact absurd q h
    | some o =>
      rw [h1 _ _ q]
      exact fun z => nomatch z
theorem EnvR.free (e : EnvR M σ H D s fp) {p : Addr} (h : H p = none) : D p = none := e.sub.free h
/-- a new object that is data -/
theorem EnvR.new {p : Addr} {o : HO} (e : EnvR M σ H D s fp) (h1 : Same H H') (hp : H p = none) (hp' : H' p = some o) : EnvR M σ H' (upd D p o) s fp ∧ Step H D s fp H' (upd D p o) s fp := by
  have hd := e.free hp
  refine e.grow h1 (same_new hd) (fun a x h => ?_) (fun a ha => ?_)
  · by_cases q : a = p
    · subst q
      rw [upd_same] at h
      rw [← h]
      exact hp'
    · rw [upd_ne q] at h
      exact h1 _ _ (e.sub _ _ h)
  · by_cases q : a = p
    · subst q
      exact .inr hp
    · rw [upd_ne q] at ha
      exact .inl ha
/-- new objects that are not data -/
theorem EnvR.hide (e : EnvR M σ H D s fp) (h1 : Same H H') : EnvR M σ H' D s fp ∧ Step H D s fp H' D s fp := e.grow h1 (Same.refl _) (same_trans e.sub h1) fun _ h => .inl h
theorem EnvR.fresh (e : EnvR M σ H D s fp) (h1 : Same H H') {p : Addr} (h : H p = none) : Free D s fp [p] := fun a ha => by
  simp at ha
  subst ha
  exact ⟨e.free h, fun z => e.ownH z h⟩
/-- a thing of one's own becomes data -/
theorem OwR.frz {v : V} {d : Da} {f : List Addr} (h : OwR M H D v d f) (sub : Same D H) : ∃ D', Same D D' ∧ Same D' H ∧ Dx M D' v d ∧ ∀ a, D' a ≠ none → D a ≠ none ∨ a ∈ f := by
  have key : ∀ {a : Addr} {o : HO}, H a = some o → Same D (upd D a o) ∧ Same (upd D a o) H ∧ ∀ b, upd D a o b ≠ none → D b ≠ none ∨ b ∈ [a] := fun {a o} h => by
    refine ⟨fun b x hb => ?_, fun b x hb => ?_, fun b hb => ?_⟩
    · by_cases z : b = a
      · subst z
        rw [upd_same, ← h]
        exact sub _ _ hb
      · rw [upd_ne z]
        exact hb
    · by_cases z : b = a
      · subst z
        rw [upd_same] at hb
        rw [← hb]
        exact h
      · rw [upd_ne z] at hb
        exact sub _ _ hb
    · by_cases z : b = a
      · exact .inr (by simp [z])
      · rw [upd_ne z] at hb
        exact .inl hb
  cases h with
  | lst h x =>
    obtain ⟨a, b, c⟩ := key h
    exact ⟨_, a, b, .lst upd_same (dxs_mono a x), c⟩
  | dct h q x =>
    obtain ⟨a, b, c⟩ := key h
    exact ⟨_, a, b, .dct upd_same q (dxs_mono a x), c⟩
theorem set_get {α : Type} {l : List α} {i j : Nat} {x y : α} (h : (l.set i x)[j]? = some y) : (i = j ∧ y = x) ∨ (i ≠ j ∧ l[j]? = some y) := by
  rw [List.getElem?_set] at h
  by_cases e : i = j
  · rw [if_pos e] at h
    split at h
    · exact .inl ⟨e, (Option.some.inj h).symm⟩
    · cases h
  · rw [if_neg e] at h
    exact .inr ⟨e, h⟩
theorem get_set {α : Type} {l : List α} {i j : Nat} {x y : α} (hj : l[j]? = some y) : (i = j ∧ (l.set i x)[j]? = some x) ∨ (i ≠ j ∧ (l.set i x)[j]? = some y) := by
  by_cases e : i = j
  · subst e
    have := (List.getElem?_eq_some_iff.mp hj).1
    exact .inl ⟨rfl, by rw [List.getElem?_set, if_pos rfl, if_pos this]⟩
  · exact .inr ⟨e, by rw [List.getElem?_set, if_neg e]; exact hj⟩
/-- own slots of a set -/
theorem own_set_dat {i : Nat} {d : Da} {a : Addr} (h : Own (s.set i (.dat d)) fp a) : Own s fp a := by
  obtain ⟨j, e, hj, ha⟩ := h
  rcases set_get hj with ⟨_, q⟩ | ⟨_, q⟩
  · cases q
  · exact ⟨j, e, q, ha⟩
theorem EnvR.frzSlot (e : EnvR M σ H D s fp) {i : Nat} {d : Da} (hi : s[i]? = some (SV.own d)) : ∃ D', EnvR M σ H D' (s.set i (.dat d)) fp ∧ Step H D s fp H D' (s.set i (.dat d)) fp ∧ Kin s (s.set i (.dat d)) ∧ ∃ v, σ[i]? = some (some v) ∧ Dx M D' v d := by
  obtain ⟨v, hv, ho, hd⟩ := e.ow i d hi
  obtain ⟨D', k1, k2, k3, k4⟩ := ho.frz e.sub
  refine ⟨D', ⟨k2, by rw [List.length_set]; exact e.len, fun j c hj => ?_, fun j c hj => ?_, fun j k c c' hj hk => ?_⟩, ⟨k1, fun a o h _ => h, fun a h => .inl (own_set_dat h), fun a h => ?_, fun a h => h⟩, ⟨by rw [List.length_set], fun j => ⟨fun c hj => ?_, fun c hj => ?_, fun hj => ?_⟩⟩, v, hv, k3⟩
  · rcases set_get hj with ⟨rfl, q⟩ | ⟨_, q⟩
    · cases q
      exact ⟨v, hv, k3⟩
    · obtain ⟨u, a, b⟩ := e.dt j c q
      exact ⟨u, a, dx_mono k1 b⟩
  · rcases set_get hj with ⟨_, q⟩ | ⟨ne, q⟩
    · cases q
    · obtain ⟨u, a, b, c'⟩ := e.ow j c q
      refine ⟨u, a, b.mono (fun _ _ _ h => h) k1, fun x hx => Classical.byContradiction fun z => ?_⟩
      rcases k4 x z with w | w
      · exact w (c' x hx)
      · exact e.dj i j d c hi q ne x w hx
  · rcases set_get hj with ⟨_, q⟩ | ⟨_, hj⟩
    · cases q
    · rcases set_get hk with ⟨_, q⟩ | ⟨_, hk⟩
      · cases q
      · exact e.dj j k c c' hj hk
  · rcases k4 a h with q | q
    · exact .inl q
    · exact .inr (.inl ⟨i, d, hi, q⟩)
  · rcases get_set (i := i) (x := SV.dat d) hj with ⟨_, q⟩ | ⟨_, q⟩
    · exact .inr ⟨d, q⟩
    · exact .inl ⟨c, q⟩
  · rcases get_set (i := i) (x := SV.dat d) hj with ⟨rfl, q⟩ | ⟨_, q⟩
    · rw [hi] at hj
      cases hj
    · exact q
  · rcases get_set (i := i) (x := SV.dat d) hj with ⟨rfl, q⟩ | ⟨_, q⟩
    · rw [hi] at hj
      cases hj
    · exact q
/-- more of the heap is data -/
theorem EnvR.moreD (e : EnvR M σ H D s fp) (k1 : Same D D') (k2 : Same D' H) (h : ∀ a, Own s fp a → D' a = none) : EnvR M σ H D' s fp :=
  ⟨k2, e.len, fun j c hj => by
    obtain ⟨u, a, b⟩ := e.dt j c hj
    exact ⟨u, a, dx_mono k1 b⟩, fun j c hj => by
    obtain ⟨u, a, b, c'⟩ := e.ow j c hj
    exact ⟨u, a, b.mono (fun _ _ _ h => h) k1, fun x hx => h x ⟨j, c, hj, hx⟩⟩, e.dj⟩
end
mutual
/-- a value is put somewhere: it is data from now on -/
def sto : RV → S → Option (Da × S)
  | .d d, s => some (d, s)
  | .o i, s => match s[i]? with
    | some (SV.own d) => some (d, s.set i (.dat d))
    | some (SV.dat d) => some (d, s)
    | _ => none
  | .n d, s => some (d, s)
  | .l rs, s => (stos rs s).bind fun p => some (.lst p.1, p.2)
  | .t rs, s => (stos rs s).bind fun p => some (.tup p.1, p.2)
def stos : List RV → S → Option (List Da × S)
  | [], s => some ([], s)
  | r :: rs, s => (sto r s).bind fun p => (stos rs p.2).bind fun q => some (p.1 :: q.1, q.2)
end
section
variable {M : Md} {σ : L2.St} {H D H' D' : Hp} {s s' : S} {fp fp' : Nat → List Addr}
mutual
theorem VR.monoD (k : Same D D') (q : Kin s s') : ∀ {v : V} {r : RV} {f : List Addr}, VR M σ H D s v r f → VR M σ H D' s' v r f
  | _, _, _, .d h => .d (dx_mono k h)
  | _, _, _, .o h => .o h
  | _, _, _, .n h => .n (h.mono (fun _ _ _ h => h) k)
  | _, _, _, .l h r => .l h (VRs.monoD k q r)
  | _, _, _, .t h r => .t (same_sqt k h) (VRs.monoD k q r)
theorem VRs.monoD (k : Same D D') (q : Kin s s') : ∀ {v : List V} {r : List RV} {f : List Addr}, VRs M σ H D s v r f → VRs M σ H D' s' v r f
  | _, _, _, .nil => .nil
  | _, _, _, .cons h r z => .cons (VR.monoD k q h) (VRs.monoD k q r) z
end
mutual
theorem VR.anyS {s2 : S} : ∀ {v : V} {r : RV} {f : List Addr}, VR M σ H D s v r f → VR M σ H D s2 v r f
  | _, _, _, .d h => .d h
  | _, _, _, .o h => .o h
  | _, _, _, .n h => .n h
  | _, _, _, .l h r => .l h (VRs.anyS r)
  | _, _, _, .t h r => .t h (VRs.anyS r)
theorem VRs.anyS {s2 : S} : ∀ {v : List V} {r : List RV} {f : List Addr}, VRs M σ H D s v r f → VRs M σ H D s2 v r f
  | _, _, _, .nil => .nil
  | _, _, _, .cons h r z => .cons (VR.anyS h) (VRs.anyS r) z
end
/-- what putting a value somewhere has done: to the data, to the slots -/
structure Put (M : Md) (σ : L2.St) (H D : Hp) (s : S) (fp : Nat → List Addr) (f : List Addr) (D' : Hp) (s' : S) : Prop where
  e : EnvR M σ H D' s' fp
  k : Kin s s'
  dd : Same D D'
  nd : ∀ a, D' a ≠ none → D a ≠ none ∨ Own s fp a ∨ a ∈ f
  nw : ∀ a, Own s' fp a → Own s fp a
theorem Put.trans {D1 D2 : Hp} {s1 s2 : S} {f g : List Addr} (a : Put M σ H D s fp f D1 s1) (b : Put M σ H D1 s1 fp g D2 s2) : Put M σ H D s fp (f ++ g) D2 s2 :=
  ⟨b.e, a.k.trans b.k, same_trans a.dd b.dd, fun x h => (b.nd x h).elim (fun q => (a.nd x q).imp id fun q => q.imp id fun q => List.mem_append_left _ q) fun q => .inr (q.imp (a.nw x) fun q => List.mem_append_right _ q), fun x h => a.nw x (b.nw x h)⟩
theorem Put.mem {f g : List Addr} (a : Put M σ H D s fp f D' s') (h : ∀ x ∈ f, x ∈ g) : Put M σ H D s fp g D' s' := ⟨a.e, a.k, a.dd, fun x q => (a.nd x q).imp id fun q => q.imp id (h x), a.nw⟩
theorem put_refl (e : EnvR M σ H D s fp) : Put M σ H D s fp [] D s := ⟨e, Kin.refl _, Same.refl _, fun _ h => .inl h, fun _ h => h⟩
mutual
theorem sto_ok : ∀ {v : V} {r : RV} {f : List Addr} {D : Hp} {s s' : S} {d : Da}, VR M σ H D s v r f → EnvR M σ H D s fp → (∀ a ∈ f, ¬ Own s fp a) → sto r s = some (d, s') → ∃ D', Put M σ H D s fp f D' s' ∧ Dx M D' v d
  | _, _, _, D, s, s', d, .d h, e, _, q => by
    simp only [sto, Option.some.injEq, Prod.mk.injEq] at q
    obtain ⟨rfl, rfl⟩ := q
    exact ⟨D, put_refl e, h⟩
  | _, .o i, _, D, s, s', d, .o h, e, _, q => by
    simp only [sto] at q
    split at q
    · rename_i d' hi
      simp only [Option.some.injEq, Prod.mk.injEq] at q
      obtain ⟨rfl, rfl⟩ := q
      obtain ⟨D', a, b, c, u, hu, x⟩ := e.frzSlot hi
      rw [h] at hu
      cases hu
      refine ⟨D', ⟨a, c, b.dd, fun y hy => ?_, fun y hy => own_set_dat hy⟩, x⟩
      rcases b.nd y hy with w | w | w
      · exact .inl w
      · exact .inr (.inl w)
      · exact absurd (a.free w) hy
    · rename_i d' hi
      simp only [Option.some.injEq, Prod.mk.injEq] at q
      obtain ⟨rfl, rfl⟩ := q
      obtain ⟨u, hu, x⟩ := e.dt i _ hi
      rw [h] at hu
      cases hu
      exact ⟨D, put_refl e, x⟩
    · cases q
  | _, _, _, D, s, s', d, .n h, e, hf, q => by
    simp only [sto, Option.some.injEq, Prod.mk.injEq] at q
    obtain ⟨rfl, rfl⟩ := q
    obtain ⟨D', k1, k2, k3, k4⟩ := h.frz e.sub
    have hno : ∀ a, Own s fp a → D' a = none := fun a ha => Classical.byContradiction fun z => (k4 a z).elim (fun w => w (e.ownD ha)) fun w => hf a w ha
    exact ⟨D', ⟨e.moreD k1 k2 hno, Kin.refl _, k1, fun a ha => (k4 a ha).imp id .inr, fun a h => h⟩, k3⟩
  | _, .l rs, _, D, s, s', d, .l (a := p) h r, e, hf, q => by
    simp only [sto, Option.bind_eq_some_iff, Option.some.injEq, Prod.mk.injEq] at q
    obtain ⟨⟨ds, s1⟩, q1, rfl, rfl⟩ := q
    obtain ⟨D1, p1, x1⟩ := stos_ok r e (fun a ha => hf a (List.mem_cons_of_mem _ ha)) q1
    obtain ⟨D', k1, k2, k3, k4⟩ := (OwR.lst h x1 : OwR M H D1 _ _ _).frz p1.e.sub
    have hno : ∀ a, Own s1 fp a → D' a = none := fun a ha => Classical.byContradiction fun z => (k4 a z).elim (fun w => w (p1.e.ownD ha)) fun w => hf a (by simp at w; simp [w]) (p1.nw a ha)
    refine ⟨D', ⟨p1.e.moreD k1 k2 hno, p1.k, same_trans p1.dd k1, fun a ha => ?_, p1.nw⟩, k3⟩
    rcases k4 a ha with w | w
    · exact (p1.nd a w).imp id fun w => w.imp id fun w => List.mem_cons_of_mem _ w
    · exact .inr (.inr (by simp at w; simp [w]))
  | _, .t rs, _, D, s, s', d, .t h r, e, hf, q => by
    simp only [sto, Option.bind_eq_some_iff, Option.some.injEq, Prod.mk.injEq] at q
    obtain ⟨⟨ds, s1⟩, q1, rfl, rfl⟩ := q
    obtain ⟨D1, p1, x1⟩ := stos_ok r e hf q1
    exact ⟨D1, p1, .tup (same_sqt p1.dd h) x1⟩
theorem stos_ok : ∀ {v : List V} {r : List RV} {f : List Addr} {D : Hp} {s s' : S} {d : List Da}, VRs M σ H D s v r f → EnvR M σ H D s fp → (∀ a ∈ f, ¬ Own s fp a) → stos r s = some (d, s') → ∃ D', Put M σ H D s fp f D' s' ∧ Dxs M D' v d
  | _, _, _, D, s, s', d, .nil, e, _, q => by
    simp only [stos, Option.some.injEq, Prod.mk.injEq] at q
    obtain ⟨rfl, rfl⟩ := q
    exact ⟨D, put_refl e, .nil⟩
  | _, _ :: rs, _, D, s, s', d, .cons h r _, e, hf, q => by
    simp only [stos, Option.bind_eq_some_iff, Option.some.injEq, Prod.mk.injEq] at q
    obtain ⟨⟨d1, s1⟩, q1, ⟨ds, s2⟩, q2, rfl, rfl⟩ := q
    obtain ⟨D1, p1, x1⟩ := sto_ok h e (fun a ha => hf a (List.mem_append_left _ ha)) q1
    obtain ⟨D2, p2, x2⟩ := stos_ok (r.monoD p1.dd p1.k) p1.e (fun a ha z => hf a (List.mem_append_right _ ha) (p1.nw a z)) q2
    exact ⟨D2, p1.trans p2, .cons (dx_mono p2.dd x1) x2⟩
end
/-- putting behind a piece of a run -/
theorem Aft.put {H0 D0 : Hp} {s0 : S} {fp0 : Nat → List Addr} {f : List Addr} (a : Aft M σ H0 D0 s0 fp0 H D s fp) (p : Put M σ H D s fp f D' s') (n : Nu H0 s0 fp0 f) : Aft M σ H0 D0 s0 fp0 H D' s' fp := by
  refine ⟨p.e, ⟨same_trans a.st.dd p.dd, a.st.kp, fun x h => a.st.nw x (p.nw x h), fun x h => ?_, a.st.tr⟩, a.k.trans p.k⟩
  rcases p.nd x h with q | q | q
  · exact a.st.nd x q
  · exact .inr (a.st.nw x q)
  · exact .inr (n x q)
theorem aft_refl (e : EnvR M σ H D s fp) : Aft M σ H D s fp H D s fp := ⟨e, Step.refl _ _ _ _, Kin.refl _⟩
theorem Val.sto {H0 D0 : Hp} {s0 : S} {fp0 : Nat → List Addr} {f : List Addr} {v : V} {r : RV} {d : Da} (h : Val M σ H0 s0 fp0 H D s fp v r f) (a : Aft M σ H0 D0 s0 fp0 H D s fp) (q : Tw.sto r s = some (d, s')) : ∃ D', Aft M σ H0 D0 s0 fp0 H D' s' fp ∧ Dx M D' v d := by
  obtain ⟨D', p, x⟩ := sto_ok h.v a.e (fun a ha => (h.fr a ha).2) q
  exact ⟨D', a.put p h.nu, x⟩
theorem Vals'.stos {H0 D0 : Hp} {s0 : S} {fp0 : Nat → List Addr} {f : List Addr} {v : List V} {r : List RV} {d : List Da} (h : Vals' M σ H0 s0 fp0 H D s fp v r f) (a : Aft M σ H0 D0 s0 fp0 H D s fp) (q : Tw.stos r s = some (d, s')) : ∃ D', Aft M σ H0 D0 s0 fp0 H D' s' fp ∧ Dxs M D' v d := by
  obtain ⟨D', p, x⟩ := stos_ok h.v a.e (fun a ha => (h.fr a ha).2) q
  exact ⟨D', a.put p h.nu, x⟩
end
end Tw

/-! drawn names: the plain law; a text times a number -/
namespace Tw
open PySem PySem.Spec PyProof.Rows L2
def sgn (c : Nat) : Str := ⟨#[c]⟩
def mkS (cs : List Nat) : Str := ⟨cs.toArray⟩
theorem mkS_len (cs : List Nat) : (mkS cs).length = cs.length := by
  show cs.toArray.size = cs.length
  simp
theorem mkS_app (a b : List Nat) : mkS a ++ mkS b = mkS (a ++ b) := by
  show Str.mk (a.toArray ++ b.toArray) = Str.mk (a ++ b).toArray
  simp
theorem mkS_inj {a b : List Nat} (h : mkS a = mkS b) : a = b := by
  have := congrArg (fun z => z.cps.toList) h
  simpa [mkS] using this
theorem joinL_nil : ∀ ps : List (List Nat), TL.joinL [] ps = ps.flatten
  | [] => rfl
  | [p] => by simp [TL.joinL]
  | p :: q :: r => by
    show p ++ ([] ++ TL.joinL [] (q :: r)) = _
    rw [joinL_nil (q :: r)]
    simp
theorem join_sgn (cs : List Nat) : Txt.join "" (cs.map sgn) = mkS cs := by
  rw [TL.join_eq]
  refine TL.ext_tl ?_
  rw [TL.tl_join]
  show TL.joinL [] _ = cs
  rw [joinL_nil, List.map_map]
  induction cs with
  | nil => rfl
  | cons c r ih =>
    rw [List.map_cons, List.flatten_cons, ih]
    rfl
theorem cut_take {cs : List Nat} {k : Nat} (h : k ≤ cs.length) : cutS (mkS cs) none (some (k : Int)) = mkS (cs.take k) := by
  unfold cutS
  rw [mkS_len, HT.sIx_none, HT.sIx_nat, Nat.min_eq_left h, List.drop_zero, Nat.sub_zero]
  rfl
theorem cut_drop {cs : List Nat} {k : Nat} (h : k ≤ cs.length) : cutS (mkS cs) (some (k : Int)) none = mkS (cs.drop k) := by
  unfold cutS
  rw [mkS_len, HT.sIx_none, HT.sIx_nat, Nat.min_eq_left h]
  show mkS ((cs.drop k).take (cs.length - k)) = _
  rw [List.take_of_length_le (by rw [List.length_drop]; exact Nat.le_refl _)]
/-- a text, none or one time -/
def rMulS : R2 := fun x y H Q => ∃ (z : Str) (n : Nat), x = .str z ∧ y = .int (n : Int) ∧ n ≤ 1 ∧ Q (.str (if n = 0 then ("" : Str) else z)) H
theorem op_mulS {X : Cx} : OpR X (binaryOp .Mult) rMulS := by
  intro pins s σ H x y v u Q I rx ry h
  obtain ⟨z, n, rfl, rfl, hn, q⟩ := h
  obtain ⟨t, rfl⟩ := rx
  obtain ⟨t2, rfl⟩ := ry
  have hok : MulOk z (n : Int) := by
    refine ⟨?_, fun h1 h2 => ?_, fun h1 h2 => ?_⟩
    · rw [decide_eq_false (by omega), decide_eq_false (by omega)]
      rfl
    · have : n = 1 := by omega
      subst this
      rw [show (((1 : Nat) : Int) == 1) = true from rfl, Bool.true_or] at h2
      cases h2
    · have : n = 1 := by omega
      subst this
      rw [show (((1 : Nat) : Int) == 1) = true from rfl, Bool.true_or] at h2
      cases h2
  refine SB.mul hok fun t' k => ⟨.str (if n = 0 then ("" : Str) else z), H, I.tok k, ⟨t', ?_⟩, q⟩
  have e : Txt.mul z (n : Int) = (if n = 0 then ("" : Str) else z) := by
    unfold Txt.mul
    by_cases h0 : n = 0
    · subst h0
      rfl
    · have : n = 1 := by omega
      subst this
      rfl
  rw [e]
/-! ### the names -/
def nmOf (hd tl : List Nat) (sh st way k : Nat) : List Nat :=
  hd ++ [97 + (sh + st * (if way = 1 then k / 2 else k)) % 26] ++ (if way = 0 then tl else if way = 1 then (if k % 2 = 0 then [] else tl) else tl.take (k % (tl.length + 1)))
def IsNm (z : Str) : Prop := 1 ≤ z.length ∧ z.length ≤ 8 ∧ ∀ c ∈ z.cps.toList, 97 ≤ c ∧ c ≤ 122
theorem nm_is {hd tl : List Nat} {sh st way k : Nat} (hl : hd.length + tl.length ≤ 7) (h1 : ∀ c ∈ hd, 97 ≤ c ∧ c ≤ 122) (h2 : ∀ c ∈ tl, 97 ≤ c ∧ c ≤ 122) : IsNm (mkS (nmOf hd tl sh st way k)) := by
  have ht : ∀ c ∈ (if way = 0 then tl else if way = 1 then (if k % 2 = 0 then [] else tl) else tl.take (k % (tl.length + 1))), 97 ≤ c ∧ c ≤ 122 := fun c hc => by
    split at hc
    · exact h2 c hc
    · split at hc
      · split at hc
        · cases hc
        · exact h2 c hc
      · exact h2 c (List.mem_of_mem_take hc)
  have hlen : (if way = 0 then tl else if way = 1 then (if k % 2 = 0 then [] else tl) else tl.take (k % (tl.length + 1))).length ≤ tl.length := by
    split
    · exact Nat.le_refl _
    · split
      · split
        · exact Nat.zero_le _
        · exact Nat.le_refl _
      · rw [List.length_take]
        exact Nat.min_le_right _ _
  refine ⟨?_, ?_, fun c hc => ?_⟩
  · rw [mkS_len]
    unfold nmOf
    simp only [List.length_append, List.length_singleton]
    omega
  · rw [mkS_len]
    unfold nmOf
    simp only [List.length_append, List.length_singleton]
    omega
  · have hc : c ∈ nmOf hd tl sh st way k := hc
    unfold nmOf at hc
    rcases List.mem_append.mp hc with hc | hc
    · rcases List.mem_append.mp hc with hc | hc
      · exact h1 c hc
      · rw [List.mem_singleton.mp hc]
        omega
    · exact ht c hc
theorem nm_ne {hd tl : List Nat} {sh st way j k : Nat} (hst : st = 1 ∨ st = 7 ∨ st = 25) (hw : way ≠ 0 → tl ≠ []) (hj : j < 26) (hk : k < 26) (e : nmOf hd tl sh st way j = nmOf hd tl sh st way k) : j = k := by
  unfold nmOf at e
  rw [List.append_assoc, List.append_assoc] at e
  have e1 := List.append_cancel_left e
  rw [List.singleton_append, List.singleton_append] at e1
  injection e1 with e2 e3
  by_cases w1 : way = 1
  · rw [if_pos w1, if_pos w1] at e2
    have e4 : j / 2 = k / 2 := by rcases hst with rfl | rfl | rfl <;> omega
    have w0 : ¬ way = 0 := by omega
    rw [if_neg w0, if_pos w1, if_neg w0, if_pos w1] at e3
    have ht : tl ≠ [] := hw (by omega)
    by_cases hj0 : j % 2 = 0
    · rw [if_pos hj0] at e3
      by_cases hk0 : k % 2 = 0
      · omega
      · rw [if_neg hk0] at e3
        exact absurd e3.symm ht
    · rw [if_neg hj0] at e3
      by_cases hk0 : k % 2 = 0
      · rw [if_pos hk0] at e3
        exact absurd e3 ht
      · omega
  · rw [if_neg w1, if_neg w1] at e2
    rcases hst with rfl | rfl | rfl <;> omega
theorem letter_at {i : Int} (h0 : 0 ≤ i) (h1 : i < 26) : atI ("abcdefghijklmnopqrstuvwxyz" : Str).cps.toList i = some (97 + i.toNat) := by
  obtain ⟨j, rfl⟩ := Int.eq_ofNat_of_zero_le h0
  have hj : j < 26 := by omega
  refine atI_nat ?_
  have key : ∀ j : Fin 26, ("abcdefghijklmnopqrstuvwxyz" : Str).cps.toList[j.val]? = some (97 + j.val) := by decide +kernel
  exact key ⟨j, hj⟩
theorem letters_len : ("abcdefghijklmnopqrstuvwxyz" : Str).length ≤ sizeLine := by decide +kernel
end Tw

/-! constants, names, displays, operations -/
namespace Tw
open PySem PySem.Spec PyProof.Rows L2
section
variable {M : Md} {X : Cx} {σ : L2.St} {H D H' D' : Hp} {s s' : S} {fp fp' : Nat → List Addr}
/-! ### constants and names -/
def wC (d : Da) : WE := fun s => some (.d d, s)
theorem j_con {e : Expr} {v : V} {d : Da} (hp : PE X e (tC v)) (h : ∀ D, Dx M D v d) : J M X e (wC d) := fun _ => pe_mono hp fun σ H Q ⟨D, s, fp, e, r, s', hw, q⟩ => by
  cases hw
  exact q _ _ _ _ _ (aft_refl e) (.d (h D))
theorem j_int {i : Int} {j pos} : J M X (.Constant (.int i) j pos) (wC (.int i)) := j_con pe_int fun _ => .int i
theorem j_bl {b : Bool} {j pos} : J M X (.Constant (.bool b) j pos) (wC (.bl b)) := j_con pe_bl fun _ => .bl b
theorem j_non {j pos} : J M X (.Constant .none j pos) (wC .non) := j_con pe_non fun _ => .non
theorem j_str {x : Str} {j pos} (h : PyData.strOk x = true := by decide +kernel) (h2 : x.length ≤ 1000 := by decide +kernel) : J M X (.Constant (.str x) j pos) (wC (.str x)) := j_con pe_str fun _ => .str ⟨h, Nat.le_trans h2 (by decide)⟩
theorem j_glob {x : Str} {v : V} {u : Value} {d : Da} {pos : Pos} (hg : Gl X x) (hm : M.mg x = some u) (r : RelV v u) (h : ∀ D, Dx M D v d) (hd : (x == ("__debug__" : Str)) = false := by decide) : J M X (.Name x pos) (wC d) := fun hM => j_con (pe_glob hg (by rw [hM.mg]; exact hm) r hd) h hM
def wVar (i : Nat) : WE := fun s => match s[i]? with
  | some (SV.dat d) => some (.d d, s)
  | some (SV.own _) => some (.o i, s)
  | _ => none
theorem j_var {i : Nat} {x : Str} {pos : Pos} (hN : X.N[i]? = some x) (hv : Vis X.env.scope x) (hd : (x == ("__debug__" : Str)) = false := by decide) (hcd : (x == ("__classdict__" : Str)) = false := by decide) : J M X (.Name x pos) (wVar i) := fun _ => pe_mono (pe_var hN hv hd hcd) fun σ H Q ⟨D, s, fp, e, r, s', hw, q⟩ => by
  unfold wVar at hw
  split at hw
  · rename_i d h
    cases hw
    obtain ⟨v, a, b⟩ := e.dt i d h
    exact ⟨v, a, q _ _ _ _ _ (aft_refl e) (.d b)⟩
  · rename_i d h
    cases hw
    obtain ⟨v, a, b, c⟩ := e.ow i d h
    exact ⟨v, a, q _ _ _ _ [] (aft_refl e) ⟨.o a, fun _ h => by simp at h, fun _ h => by simp at h⟩⟩
  · cases hw
/-! ### argument lists -/
def wNil : WA := fun s => some ([], s)
def wCons (w : WE) (u : WA) : WA := fun s => (w s).bind fun p => (u p.2).bind fun q => some (p.1 :: q.1, q.2)
theorem ja_nil : JA M X [] wNil := fun _ => pa_mono pa_nil fun σ H Q ⟨D, s, fp, e, r, s', hw, q⟩ => by
  cases hw
  exact q _ _ _ _ [] (aft_refl e) ⟨.nil, fun _ h => by simp at h, fun _ h => by simp at h⟩
theorem ja_cons {e : Expr} {es : List Expr} {w : WE} {u : WA} (h : J M X e w) (k : JA M X es u) (he : starEach (e :: es) X.env = (false, eval e X.env) :: starEach es X.env := by rfl) : JA M X (e :: es) (wCons w u) := fun hM => pa_mono (pa_cons (h hM) (k hM) he) fun σ H Q ⟨D, s, fp, e, r, s', hw, q⟩ => by
  simp only [wCons, Option.bind_eq_some_iff, Option.some.injEq, Prod.mk.injEq] at hw
  obtain ⟨⟨r1, s1⟩, h1, ⟨rs, s2⟩, h2, rfl, rfl⟩ := hw
  refine ⟨D, s, fp, e, r1, s1, h1, fun v H1 D1 fp1 f1 a1 v1 => ⟨D1, s1, fp1, a1.e, rs, s2, h2, fun vs H2 D2 fp2 f2 a2 v2 => ?_⟩⟩
  have v1' := v1.step a2
  have v2' := v2.back a1.st
  exact q _ _ _ _ (f1 ++ f2) (a1.trans a2) ⟨.cons v1'.v v2'.v fun a h1 h2 => (v2.nu a h2).elim (v1.fr a h1).2 (v1.v.here a h1), v1'.fr.app v2'.fr, v1'.nu.app v2'.nu⟩
/-! ### displays -/
mutual
def hot : RV → Bool
  | .o _ => true
  | .l rs => hots rs
  | .t rs => hots rs
  | _ => false
def hots : List RV → Bool
  | [] => false
  | r :: rs => hot r || hots rs
end
def cold : RV → Bool
  | .d _ => true
  | _ => false
def wTup (w : WA) : WE := fun s => (w s).bind fun p => if p.1.length ≤ 100000 then (if p.1.all cold = false then some (.t p.1, p.2) else (stos p.1 p.2).bind fun q => some (.d (.tup q.1), q.2)) else none
def wLst (w : WA) : WE := fun s => (w s).bind fun p => if p.1.length ≤ 100000 then (if hots p.1 then some (.l p.1, p.2) else (stos p.1 p.2).bind fun q => some (.n (.lst q.1), q.2)) else none
theorem VRs.length : ∀ {vs : List V} {rs : List RV} {f : List Addr}, VRs M σ H D s vs rs f → vs.length = rs.length
  | _, _, _, .nil => rfl
  | _, _, _, .cons _ r _ => congrArg Nat.succ r.length
theorem j_tup {es : List Expr} {k : Nat} {pos : Pos} {w : WA} (h : JA M X es w) : J M X (.Tuple es k pos) (wTup w) := fun hM => pe_mono (pe_tupU (h hM)) fun σ H Q ⟨D, s, fp, e, r, s', hw, q⟩ => by
  simp only [wTup, Option.bind_eq_some_iff] at hw
  obtain ⟨⟨rs, s1⟩, h1, hw⟩ := hw
  refine ⟨D, s, fp, e, rs, s1, h1, fun vs H1 D1 fp1 f1 a1 v1 => ?_⟩
  simp only at hw
  split at hw
  · rename_i hl
    refine ⟨by rw [v1.v.length]; exact hl, fun p H2 np sm hp => ?_⟩
    split at hw
    · cases hw
      obtain ⟨e2, st2⟩ := a1.e.new sm np hp
      have a2 : Aft M σ H1 D1 _ fp1 H2 _ _ fp1 := ⟨e2, st2, Kin.refl _⟩
      exact q _ _ _ _ f1 (a1.trans a2) ⟨.t (SqT.of upd_same) (v1.v.mono st2 (Kin.refl _) v1.fr), v1.fr.step v1.v.here st2, v1.nu⟩
    · simp only [Option.bind_eq_some_iff, Option.some.injEq, Prod.mk.injEq] at hw
      obtain ⟨⟨ds, s2⟩, h2, rfl, rfl⟩ := hw
      obtain ⟨D2, a2, x2⟩ := v1.stos a1 h2
      obtain ⟨e3, st3⟩ := a2.e.new sm np hp
      have a3 : Aft M σ H1 D2 s2 fp1 H2 _ s2 fp1 := ⟨e3, st3, Kin.refl _⟩
      exact q _ _ _ _ [] (a2.trans a3) (.d (.tup (SqT.of upd_same) (dxs_mono st3.dd x2)))
  · cases hw
theorem j_lst {es : List Expr} {pos : Pos} {w : WA} (h : JA M X es w) : J M X (.List es pos) (wLst w) := fun hM => pe_mono (pe_lstU (h hM)) fun σ H Q ⟨D, s, fp, e, r, s', hw, q⟩ => by
  simp only [wLst, Option.bind_eq_some_iff] at hw
  obtain ⟨⟨rs, s1⟩, h1, hw⟩ := hw
  refine ⟨D, s, fp, e, rs, s1, h1, fun vs H1 D1 fp1 f1 a1 v1 => ?_⟩
  simp only at hw
  split at hw
  · rename_i hl
    refine ⟨by rw [v1.v.length]; exact hl, fun p H2 np sm hp => ?_⟩
    have nu : Nu H s fp [p] := fun a ha => by
      simp at ha
      subst ha
      exact .inr (Classical.byContradiction fun z => a1.st.tr a z np)
    split at hw
    · cases hw
      obtain ⟨e2, st2⟩ := a1.e.hide sm
      have a2 : Aft M σ H1 D1 _ fp1 H2 _ _ fp1 := ⟨e2, st2, Kin.refl _⟩
      exact q _ _ _ _ (p :: f1) (a1.trans a2) ⟨.l hp (v1.v.mono st2 (Kin.refl _) v1.fr), Free.app (f := [p]) (a1.e.fresh sm np) (v1.fr.step v1.v.here st2), Nu.app (f := [p]) nu v1.nu⟩
    · simp only [Option.bind_eq_some_iff, Option.some.injEq, Prod.mk.injEq] at hw
      obtain ⟨⟨ds, s2⟩, h2, rfl, rfl⟩ := hw
      obtain ⟨D2, a2, x2⟩ := v1.stos a1 h2
      obtain ⟨e3, st3⟩ := a2.e.hide sm
      have a3 : Aft M σ H1 D2 s2 fp1 H2 _ s2 fp1 := ⟨e3, st3, Kin.refl _⟩
      exact q _ _ _ _ [p] (a2.trans a3) ⟨.n (.lst hp (dxs_mono st3.dd x2)), a2.e.fresh sm np, nu⟩
  · cases hw
/-! ### operations of two -/
abbrev F2 := RV → RV → WE
def wOp (F : F2) (a b : WE) : WE := fun s => (a s).bind fun p => (b p.2).bind fun q => F p.1 q.1 q.2
def SimR (M : Md) (r : R2) (F : F2) : Prop := ∀ σ H D s fp x y rx ry fx fy r' s' Q, EnvR M σ H D s fp → VR M σ H D s x rx fx → VR M σ H D s y ry fy → Free D s fp fx → Free D s fp fy → F rx ry s = some (r', s') → (∀ v H' D' fp' f, Aft M σ H D s fp H' D' s' fp' → Val M σ H s fp H' D' s' fp' v r' f → Q v H') → r x y H Q
theorem sim_op {r : R2} {F : F2} {wa wb : WE} (h : SimR M r F) : ∀ σ H Q, tW M (wOp F wa wb) σ H Q → tOp r (tW M wa) (tW M wb) σ H Q := fun σ H Q ⟨D, s, fp, e, r, s', hw, q⟩ => by
  simp only [wOp, Option.bind_eq_some_iff] at hw
  obtain ⟨⟨r1, s1⟩, h1, ⟨r2, s2⟩, h2, h3⟩ := hw
  refine ⟨D, s, fp, e, r1, s1, h1, fun v H1 D1 fp1 f1 a1 v1 => ⟨D1, s1, fp1, a1.e, r2, s2, h2, fun u H2 D2 fp2 f2 a2 v2 => ?_⟩⟩
  have v1' := v1.step a2
  exact h _ _ _ _ _ _ _ _ _ _ _ _ _ _ a2.e v1'.v v2.v v1'.fr v2.fr h3 fun w H3 D3 fp3 f3 a3 v3 => q _ _ _ _ _ (a1.trans (a2.trans a3)) (v3.back (a1.st.trans a2.st))
theorem j_op {a b : Expr} {op : Operator} {pos : Pos} {r : R2} {F : F2} {wa wb : WE} (ho : M.at X → OpR X (binaryOp op) r) (h : SimR M r F) (ja : J M X a wa) (jb : J M X b wb) : J M X (.BinOp a op b pos) (wOp F wa wb) := fun hM => pe_mono (pe_op (ho hM) (ja hM) (jb hM)) (sim_op h)
theorem j_cmp {a b : Expr} {op : CmpOp} {pos : Pos} {r : R2} {F : F2} {wa wb : WE} (ho : M.at X → OpR X (compareOp op) r) (h : SimR M r F) (ja : J M X a wa) (jb : J M X b wb) (hm : behindInMarks op b = false) : J M X (.Compare a [op] [b] pos) (wOp F wa wb) := fun hM => pe_mono (pe_cmpR (ho hM) (ja hM) (jb hM) hm) (sim_op h)
theorem SimR.or {r r' : R2} {F F' : F2} (h : SimR M r F) (h' : SimR M r' F') : SimR M (fun x y H Q => r x y H Q ∨ r' x y H Q) (fun x y s => match F x y s with | some p => some p | none => F' x y s) := fun σ H D s fp x y rx ry fx fy r' s' Q e vx vy hx hy hw q => by
  cases hF : F rx ry s with
  | some p =>
    simp only [hF] at hw
    exact .inl (h σ H D s fp x y rx ry fx fy r' s' Q e vx vy hx hy (hF.trans hw) q)
  | none =>
    simp only [hF] at hw
    exact .inr (h' σ H D s fp x y rx ry fx fy r' s' Q e vx vy hx hy hw q)
theorem vr_int {v : V} {i : Int} {f : List Addr} (h : VR M σ H D s v (.d (.int i)) f) : v = .int i := by
  cases h with
  | d h => cases h; rfl
theorem vr_bl {v : V} {i : Bool} {f : List Addr} (h : VR M σ H D s v (.d (.bl i)) f) : v = .bl i := by
  cases h with
  | d h => cases h; rfl
theorem vr_str {v : V} {i : Str} {f : List Addr} (h : VR M σ H D s v (.d (.str i)) f) : v = .str i ∧ SOk i := by
  cases h with
  | d h => cases h with | str k => exact ⟨rfl, k⟩
theorem vr_dx {v : V} {d : Da} {f : List Addr} (h : VR M σ H D s v (.d d) f) : Dx M D v d := by
  cases h with
  | d h => exact h
/-- whole numbers -/
def fI (c : Int → Int → Bool) (g : Int → Int → Da) : F2 := fun x y s => match x, y with
  | .d (.int i), .d (.int j) => if c i j = true then some (.d (g i j), s) else none
  | _, _ => none
theorem sim_i {c : Int → Int → Prop} {cb : Int → Int → Bool} {gv : Int → Int → V} {g : Int → Int → Da} (hc : ∀ i j, cb i j = true → c i j) (h : ∀ i j D, Dx M D (gv i j) (g i j)) : SimR M (rI c gv) (fI cb g) := fun σ H D s fp x y rx ry fx fy r' s' Q e vx vy _ _ hw q => by
  unfold fI at hw
  split at hw
  · rename_i i j
    split at hw
    · rename_i hb
      cases hw
      exact ⟨i, j, vr_int vx, vr_int vy, hc i j hb, q _ _ _ _ _ (aft_refl e) (.d (h i j D))⟩
    · cases hw
  · cases hw
theorem sim_i0 {gv : Int → Int → V} {g : Int → Int → Da} (h : ∀ i j D, Dx M D (gv i j) (g i j)) : SimR M (rI0 gv) (fI (fun _ _ => true) g) := fun σ H D s fp x y rx ry fx fy r' s' Q e vx vy hx hy hw q => by
  obtain ⟨i, j, a, b, _, c⟩ := sim_i (c := fun _ _ => True) (fun _ _ _ => trivial) h σ H D s fp x y rx ry fx fy r' s' Q e vx vy hx hy hw q
  exact ⟨i, j, a, b, c⟩
abbrev fSub : F2 := fI (fun _ _ => true) fun i j => .int (i - j)
def cMod (_ j : Int) : Bool := decide (0 < j)
abbrev fMod : F2 := fI cMod fun i j => .int (i % j)
def cDiv (_ j : Int) : Bool := decide (0 < j) && decide (j.natAbs.log2 < 9000)
abbrev fDiv : F2 := fI cDiv fun i j => .int (i / j)
def cPow (i j : Int) : Bool := decide (0 ≤ j) && decide (j ≤ 1000000) && decide (i.natAbs < 2 ^ 64)
abbrev fPow : F2 := fI cPow fun i j => .int (i ^ j.toNat)
def cMul (i j : Int) : Bool := (decide (-(2 ^ 64) < i) && decide (i < 2 ^ 64)) || (decide (-(2 ^ 64) < j) && decide (j < 2 ^ 64))
abbrev fMulI : F2 := fI cMul fun i j => .int (i * j)
section
variable {a b : Expr} {pos : Pos} {wa wb : WE}
theorem j_sub (ja : J M X a wa) (jb : J M X b wb) : J M X (.BinOp a .Sub b pos) (wOp fSub wa wb) := j_op (fun _ => op_sub) (sim_i0 fun _ _ _ => .int _) ja jb
theorem j_mod (ja : J M X a wa) (jb : J M X b wb) : J M X (.BinOp a .Mod b pos) (wOp fMod wa wb) := j_op (fun _ => op_mod) (sim_i (fun i j h => of_decide_eq_true h) fun _ _ _ => .int _) ja jb
theorem j_div (ja : J M X a wa) (jb : J M X b wb) : J M X (.BinOp a .FloorDiv b pos) (wOp fDiv wa wb) := j_op (fun _ => op_fdivW) (sim_i (fun i j h => by
  simp only [cDiv, Bool.and_eq_true, decide_eq_true_eq] at h
  exact h) fun _ _ _ => .int _) ja jb
theorem j_pow (ja : J M X a wa) (jb : J M X b wb) : J M X (.BinOp a .Pow b pos) (wOp fPow wa wb) := j_op (fun _ => op_pow) (sim_i (fun i j h => by
  simp only [cPow, Bool.and_eq_true, decide_eq_true_eq] at h
  exact ⟨h.1.1, h.1.2, h.2⟩) fun _ _ _ => .int _) ja jb
end
/-! ### lists and tuples that are read -/
def its (s : S) : RV → Option (Bool × List Da)
  | .d (.tup ds) => some (true, ds)
  | .d (.lst ds) => some (false, ds)
  | .n (.lst ds) => some (false, ds)
  | .o i => match s[i]? with
    | some (SV.own (.lst ds)) => some (false, ds)
    | some (SV.dat (.lst ds)) => some (false, ds)
    | _ => none
  | _ => none
theorem dx_tup {v : V} {ds : List Da} (h : Dx M D v (.tup ds)) : ∃ a vs, v = .ref a ∧ SqT M.K D a vs ∧ Dxs M D vs ds := by
  cases h with
  | tup h x => exact ⟨_, _, rfl, h, x⟩
theorem dx_lst {v : V} {ds : List Da} (h : Dx M D v (.lst ds)) : ∃ a vs, v = .ref a ∧ D a = some (.lst vs) ∧ Dxs M D vs ds := by
  cases h with
  | lst h x => exact ⟨_, _, rfl, h, x⟩
theorem ow_lst {v : V} {ds : List Da} {f : List Addr} (h : OwR M H D v (.lst ds) f) : ∃ a vs, v = .ref a ∧ f = [a] ∧ H a = some (.lst vs) ∧ Dxs M D vs ds := by
  cases h with
  | lst h x => exact ⟨_, _, rfl, rfl, h, x⟩
theorem vr_its {v : V} {r : RV} {f : List Addr} {b : Bool} {ds : List Da} (e : EnvR M σ H D s fp) (h : VR M σ H D s v r f) (hi : its s r = some (b, ds)) :
    ∃ a vs, v = .ref a ∧ Dxs M D vs ds ∧ ((b = true ∧ SqT M.K H a vs ∧ Dx M D v (.tup ds)) ∨ (b = false ∧ H a = some (.lst vs))) := by
  unfold its at hi
  split at hi
  · simp only [Option.some.injEq, Prod.mk.injEq] at hi
    obtain ⟨rfl, rfl⟩ := hi
    have hd := vr_dx h
    obtain ⟨a, vs, rfl, h1, h2⟩ := dx_tup hd
    exact ⟨a, vs, rfl, h2, .inl ⟨rfl, same_sqt e.sub h1, hd⟩⟩
  · simp only [Option.some.injEq, Prod.mk.injEq] at hi
    obtain ⟨rfl, rfl⟩ := hi
    obtain ⟨a, vs, rfl, h1, h2⟩ := dx_lst (vr_dx h)
    exact ⟨a, vs, rfl, h2, .inr ⟨rfl, e.sub _ _ h1⟩⟩
  · simp only [Option.some.injEq, Prod.mk.injEq] at hi
    obtain ⟨rfl, rfl⟩ := hi
    cases h with
    | n h =>
      obtain ⟨a, vs, rfl, _, h1, h2⟩ := ow_lst h
      exact ⟨a, vs, rfl, h2, .inr ⟨rfl, h1⟩⟩
  · cases h with
    | o hv =>
      split at hi
      · rename_i hs
        simp only [Option.some.injEq, Prod.mk.injEq] at hi
        obtain ⟨rfl, rfl⟩ := hi
        obtain ⟨u, hu, ho, _⟩ := e.ow _ _ hs
        rw [hv] at hu
        cases hu
        obtain ⟨a, vs, rfl, _, h1, h2⟩ := ow_lst ho
        exact ⟨a, vs, rfl, h2, .inr ⟨rfl, h1⟩⟩
      · rename_i hs
        simp only [Option.some.injEq, Prod.mk.injEq] at hi
        obtain ⟨rfl, rfl⟩ := hi
        obtain ⟨u, hu, hx⟩ := e.dt _ _ hs
        rw [hv] at hu
        cases hu
        obtain ⟨a, vs, rfl, h1, h2⟩ := dx_lst hx
        exact ⟨a, vs, rfl, h2, .inr ⟨rfl, e.sub _ _ h1⟩⟩
      · cases hi
  · cases hi
/-- + -/
def fAdd : F2 := fun x y s => match x, y with
  | .d (.int i), .d (.int j) => some (.d (.int (i + j)), s)
  | .d (.str a), .d (.str b) => if a.length + b.length ≤ 100000 then some (.d (.str (a ++ b)), s) else none
  | x, y => match its s x, its s y with
    | some (false, xs), some (false, ys) => if xs.length + ys.length ≤ 100000 then some (.n (.lst (xs ++ ys)), s) else none
    | some (true, xs), some (true, ys) => if xs.length + ys.length ≤ 100000 then some (.d (.tup (xs ++ ys)), s) else none
    | _, _ => none
def rAdd (K : PySem.W.Frag) : R2 := fun x y H Q => (∃ i j, x = .int i ∧ y = .int j ∧ Q (.int (i + j)) H) ∨ (∃ i j, x = .str i ∧ y = .str j ∧ i.length + j.length ≤ sizeLine ∧ Q (.str (i ++ j)) H) ∨ rCatL K x y H Q ∨ rCatA K x y H Q
theorem op_addA : OpR X (binaryOp .Add) (rAdd X.K) := OpR.or op_add (OpR.or op_add_str (OpR.or op_catL op_catA))
theorem sok_app {a b : Str} (h : SOk a) (k : SOk b) (hl : a.length + b.length ≤ sizeLine) : SOk (a ++ b) := by
  have e : (a ++ b).cps = a.cps ++ b.cps := rfl
  refine ⟨?_, ?_⟩
  · have h1 := h.1
    have k1 := k.1
    unfold PyData.strOk at h1 k1 ⊢
    rw [e, Array.all_append, h1, k1]
    rfl
  · show (a ++ b).cps.size ≤ _
    rw [e, Array.size_append]
    exact hl
/-- a new list of one's own -/
theorem EnvR.newL (e : EnvR M σ H D s fp) {p : Addr} {vs : List V} {ds : List Da} (np : H p = none) (sm : Same H H') (hp : H' p = some (.lst vs)) (hx : Dxs M D vs ds) : Aft M σ H D s fp H' D s fp ∧ Val M σ H s fp H' D s fp (.ref p) (.n (.lst ds)) [p] := by
  obtain ⟨e2, st2⟩ := e.hide sm
  exact ⟨⟨e2, st2, Kin.refl _⟩, .n (.lst hp hx), e.fresh sm np, fun a ha => by simp at ha; subst ha; exact .inr np⟩
/-- a new tuple -/
theorem EnvR.newT (e : EnvR M σ H D s fp) {p : Addr} {vs : List V} {ds : List Da} (np : H p = none) (sm : Same H H') (hp : H' p = some (.tup vs)) (hx : Dxs M D vs ds) : Aft M σ H D s fp H' (upd D p (.tup vs)) s fp ∧ Val M σ H s fp H' (upd D p (.tup vs)) s fp (.ref p) (.d (.tup ds)) [] := by
  obtain ⟨e2, st2⟩ := e.new sm np hp
  exact ⟨⟨e2, st2, Kin.refl _⟩, .d (.tup (SqT.of upd_same) (dxs_mono st2.dd hx))⟩
theorem sim_add : SimR M (rAdd M.K) fAdd := fun σ H D s fp x y rx ry fx fy r' s' Q e vx vy hx hy hw q => by
  unfold fAdd at hw
  split at hw
  · rename_i i j
    cases hw
    exact .inl ⟨i, j, vr_int vx, vr_int vy, q _ _ _ _ _ (aft_refl e) (.d (.int _))⟩
  · rename_i a b
    split at hw
    · rename_i hl
      cases hw
      obtain ⟨rfl, ka⟩ := vr_str vx
      obtain ⟨rfl, kb⟩ := vr_str vy
      have hl' := Nat.le_trans hl (show 100000 ≤ sizeLine by decide)
      exact .inr (.inl ⟨a, b, rfl, rfl, hl', q _ _ _ _ _ (aft_refl e) (.d (.str (sok_app ka kb hl')))⟩)
    · cases hw
  · split at hw
    · rename_i xs ys h1 h2
      split at hw
      · rename_i hl
        cases hw
        obtain ⟨a, vs, rfl, d1, h1 | h1⟩ := vr_its e vx h1
        · cases h1.1
        · obtain ⟨b, us, rfl, d2, h2 | h2⟩ := vr_its e vy h2
          · cases h2.1
          · refine .inr (.inr (.inl ⟨a, b, vs, us, rfl, rfl, h1.2, h2.2, by rw [dxs_len d1, dxs_len d2]; exact hl, fun p H' np sm hp => ?_⟩))
            obtain ⟨a1, v1⟩ := e.newL np sm hp (dxs_app d1 d2)
            exact q _ _ _ _ _ a1 v1
      · cases hw
    · rename_i xs ys h1 h2
      split at hw
      · rename_i hl
        cases hw
        obtain ⟨a, vs, rfl, d1, h1 | h1⟩ := vr_its e vx h1
        · obtain ⟨b, us, rfl, d2, h2 | h2⟩ := vr_its e vy h2
          · refine .inr (.inr (.inr ⟨a, b, vs, us, rfl, rfl, h1.2.1, h2.2.1, by rw [dxs_len d1, dxs_len d2]; exact Nat.le_trans hl (by decide), fun z => ?_, fun _ z => ?_, fun _ _ p np => ?_⟩))
            · subst z
              cases d1
              exact q _ _ _ _ _ (aft_refl e) (.d h2.2.2)
            · subst z
              cases d2
              rw [List.append_nil] at q
              exact q _ _ _ _ _ (aft_refl e) (.d h1.2.2)
            · obtain ⟨a1, v1⟩ := e.newT np (same_new np) upd_same (dxs_app d1 d2)
              exact q _ _ _ _ _ a1 v1
          · cases h2.1
        · cases h1.1
      · cases hw
    · cases hw
theorem j_add {a b : Expr} {pos : Pos} {wa wb : WE} (ja : J M X a wa) (jb : J M X b wb) : J M X (.BinOp a .Add b pos) (wOp fAdd wa wb) := j_op (fun hM => by rw [← hM.K]; exact op_addA) sim_add ja jb
end
end Tw

/-! more operations: *, ==, <, is, in, and, or, not, indices, slices; tests -/
namespace Tw
open PySem PySem.Spec PyProof.Rows L2
section
variable {M : Md} {X : Cx} {σ : L2.St} {H D H' D' : Hp} {s s' : S} {fp fp' : Nat → List Addr}
/-! ### what a value is, read -/
mutual
def dv (s : S) : RV → Option Da
  | .d d => some d
  | .n d => some d
  | .o i => match s[i]? with
    | some (SV.own d) => some d
    | some (SV.dat d) => some d
    | _ => none
  | .l rs => (dvs s rs).bind fun ds => some (.lst ds)
  | .t rs => (dvs s rs).bind fun ds => some (.tup ds)
def dvs (s : S) : List RV → Option (List Da)
  | [] => some []
  | r :: rs => (dv s r).bind fun d => (dvs s rs).bind fun ds => some (d :: ds)
end
theorem OwR.dx {v : V} {d : Da} {f : List Addr} (h : OwR M H D v d f) (k : Same D H) : Dx M H v d := by
  cases h with
  | lst h x => exact .lst h (dxs_mono k x)
  | dct h q x => exact .dct h q (dxs_mono k x)
mutual
theorem dv_ok (e : EnvR M σ H D s fp) : ∀ {v : V} {r : RV} {f : List Addr} {d : Da}, VR M σ H D s v r f → dv s r = some d → Dx M H v d
  | _, _, _, _, .d h, q => by
    cases q
    exact dx_mono e.sub h
  | _, .o i, _, d, .o h, q => by
    simp only [dv] at q
    split at q
    · rename_i hi
      cases q
      obtain ⟨u, hu, ho, _⟩ := e.ow i _ hi
      rw [h] at hu
      cases hu
      exact ho.dx e.sub
    · rename_i hi
      cases q
      obtain ⟨u, hu, x⟩ := e.dt i _ hi
      rw [h] at hu
      cases hu
      exact dx_mono e.sub x
    · cases q
  | _, _, _, _, .n h, q => by
    cases q
    exact h.dx e.sub
  | _, .l rs, _, d, .l h r, q => by
    simp only [dv, Option.bind_eq_some_iff, Option.some.injEq] at q
    obtain ⟨ds, q1, rfl⟩ := q
    exact .lst h (dvs_ok e r q1)
  | _, .t rs, _, d, .t h r, q => by
    simp only [dv, Option.bind_eq_some_iff, Option.some.injEq] at q
    obtain ⟨ds, q1, rfl⟩ := q
    exact .tup (same_sqt e.sub h) (dvs_ok e r q1)
theorem dvs_ok (e : EnvR M σ H D s fp) : ∀ {v : List V} {r : List RV} {f : List Addr} {d : List Da}, VRs M σ H D s v r f → dvs s r = some d → Dxs M H v d
  | _, _, _, _, .nil, q => by
    cases q
    exact .nil
  | _, _ :: rs, _, d, .cons h r _, q => by
    simp only [dvs, Option.bind_eq_some_iff, Option.some.injEq] at q
    obtain ⟨d1, q1, ds, q2, rfl⟩ := q
    exact .cons (dv_ok e h q1) (dvs_ok e r q2)
end
mutual
def plain : Da → Bool
  | .dct _ => false
  | .fn _ => false
  | .tab _ => false
  | .tup ds => plains ds
  | .lst ds => plains ds
  | .scr ds => plains ds
  | _ => true
def plains : List Da → Bool
  | [] => true
  | d :: ds => plain d && plains ds
end
mutual
def py : Da → PyData
  | .non => .none
  | .bl b => .bool b
  | .int i => .int i
  | .str x => .str x
  | .tup ds => .tuple (pys ds)
  | .lst ds => .list (pys ds)
  | .scr ds => .list (pys ds)
  | .dct _ => .none
  | .fn _ => .none
  | .tab _ => .none
def pys : List Da → List PyData
  | [] => []
  | d :: ds => py d :: pys ds
end
mutual
theorem dp_of : ∀ {v : V} {d : Da}, Dx M H v d → plain d = true → Dp M.K H v (py d) ∧ (py d).canLay0 = true
  | _, _, .non, _ => ⟨.non, rfl⟩
  | _, _, .bl b, _ => ⟨.bl b, rfl⟩
  | _, _, .int i, _ => ⟨.int i, rfl⟩
  | _, _, .str h, _ => ⟨.str _, h.1⟩
  | _, _, .lst h x, q => by
    obtain ⟨a, b⟩ := dps_of x q
    exact ⟨.lst (SqL.of h) a, b⟩
  | _, _, .scr h x, q => by
    obtain ⟨a, b⟩ := dps_of x q
    exact ⟨.lst h a, b⟩
  | _, _, .tup h x, q => by
    obtain ⟨a, b⟩ := dps_of x q
    exact ⟨.tup h a, b⟩
  | _, _, .dct _ _ _, q => by cases q
  | _, _, .fn _, q => by cases q
  | _, _, .tab _ _ _, q => by cases q
theorem dps_of : ∀ {v : List V} {d : List Da}, Dxs M H v d → plains d = true → DpAll M.K H v (pys d) ∧ PyData.canLayAll0 (pys d) = true
  | _, _, .nil, _ => ⟨.nil, rfl⟩
  | _, _, .cons h x, q => by
    have q' := Bool.and_eq_true_iff.mp q
    obtain ⟨a, b⟩ := dp_of h q'.1
    obtain ⟨a', b'⟩ := dps_of x q'.2
    refine ⟨.cons a a', ?_⟩
    show (PyData.canLay0 _ && PyData.canLayAll0 _) = true
    rw [b, b']
    rfl
end
/-! ### comparisons: as values, as tests -/
def JC (M : Md) (X : Cx) (op : CmpOp) (a b : Expr) (w : WE) : Prop := M.at X → PC X op a b (tW M w)
theorem pc_mono {op : CmpOp} {a b : Expr} {t u : TE} (h : PC X op a b t) (k : ∀ σ H Q, u σ H Q → t σ H Q) : PC X op a b u := ⟨fun pins s σ H Q I q => h.run pins s σ H Q I (k σ H Q q)⟩
theorem pc_op {op : CmpOp} {a b : Expr} {ta tb : TE} {r : R2} (ho : OpR X (compareOp op) r) (ha : PE X a ta) (hb : PE X b tb) : PC X op a b (tOp r ta tb) := by
  refine ⟨fun pins s σ H Q I h => ?_⟩
  refine thn (ha.run pins s σ H _ I h) fun v s1 ⟨x, H1, I1, r1, q1⟩ => thn (hb.run pins s1 σ H1 _ I1 q1) fun u s2 ⟨y, H2, I2, r2, q2⟩ => ?_
  exact ho pins s2 σ H2 x y v u Q I2 r1 r2 q2
theorem c_op {op : CmpOp} {a b : Expr} {wa wb : WE} {r : R2} {F : F2} (ho : M.at X → OpR X (compareOp op) r) (h : SimR M r F) (ja : J M X a wa) (jb : J M X b wb) : JC M X op a b (wOp F wa wb) := fun hM => pc_mono (pc_op (ho hM) (ja hM) (jb hM)) (sim_op h)
theorem j_c {op : CmpOp} {a b : Expr} {pos : Pos} {w : WE} (h : JC M X op a b w) (hm : behindInMarks op b = false := by first | exact nomark _ | rfl) : J M X (.Compare a [op] [b] pos) w := fun hM => pe_cmp (h hM) hm
/-- == -/
def eqD (d e : Da) : Bool := PyData.eqv (py d) (py e)
def eqOk (d e : Da) : Bool := plain d && plain e && decide ((py d).depth ≤ 64) && decide ((py e).depth ≤ 64)
def fEq (n : Bool) : F2 := fun x y s => match dv s x, dv s y with
  | some d, some e => if eqOk d e = true then some (.d (.bl (if n then !eqD d e else eqD d e)), s) else none
  | _, _ => none
theorem eq_view {v u : V} {d e : Da} (h : Dx M H v d) (k : Dx M H u e) (q : eqOk d e = true) : Dp M.K H v (py d) ∧ Dp M.K H u (py e) ∧ SeqAt.shaped (py d) = true ∧ SeqAt.shaped (py e) = true := by
  simp only [eqOk, Bool.and_eq_true, decide_eq_true_eq] at q
  obtain ⟨⟨⟨q1, q2⟩, q3⟩, q4⟩ := q
  obtain ⟨a, b⟩ := dp_of h q1
  obtain ⟨a', b'⟩ := dp_of k q2
  refine ⟨a, a', ?_, ?_⟩
  · simp [SeqAt.shaped, b, q3]
  · simp [SeqAt.shaped, b', q4]
theorem sim_eq : SimR M (rEqD M.K) (fEq false) := fun σ H D s fp x y rx ry fx fy r' s' Q e vx vy _ _ hw q => by
  unfold fEq at hw
  split at hw
  · rename_i d c h1 h2
    split at hw
    · rename_i ok
      cases hw
      obtain ⟨a, b, c', d'⟩ := eq_view (dv_ok e vx h1) (dv_ok e vy h2) ok
      exact ⟨_, _, a, b, c', d', q _ _ _ _ _ (aft_refl e) (.d (.bl _))⟩
    · cases hw
  · cases hw
theorem sim_ne : SimR M (rNeD M.K) (fEq true) := fun σ H D s fp x y rx ry fx fy r' s' Q e vx vy _ _ hw q => by
  unfold fEq at hw
  split at hw
  · rename_i d c h1 h2
    split at hw
    · rename_i ok
      cases hw
      obtain ⟨a, b, c', d'⟩ := eq_view (dv_ok e vx h1) (dv_ok e vy h2) ok
      exact ⟨_, _, a, b, c', d', q _ _ _ _ _ (aft_refl e) (.d (.bl _))⟩
    · cases hw
  · cases hw
section
variable {a b c : Expr} {pos : Pos} {wa wb wc : WE}
theorem c_eq (hu : X.A.units + 64 < cLine) (ja : J M X a wa) (jb : J M X b wb) : JC M X .Eq a b (wOp (fEq false) wa wb) := c_op (fun hM => by rw [← hM.K]; exact op_eqD hu) sim_eq ja jb
theorem c_ne (hu : X.A.units + 64 < cLine) (ja : J M X a wa) (jb : J M X b wb) : JC M X .NotEq a b (wOp (fEq true) wa wb) := c_op (fun hM => by rw [← hM.K]; exact op_neD hu) sim_ne ja jb
end
/-! ### < -/
def sLt (a b : Str) : Bool := decide (a.cps.toList < b.cps.toList)
def fLt (g : Int → Int → Bool) (k : Str → Str → Bool) : F2 := fun x y s => match x, y with
  | .d (.int i), .d (.int j) => some (.d (.bl (g i j)), s)
  | .d (.str a), .d (.str b) => some (.d (.bl (k a b)), s)
  | _, _ => none
theorem sim_lt {g : Int → Int → Bool} {k : Str → Str → Bool} : SimR M (fun x y H Q => rI0 (fun i j => .bl (g i j)) x y H Q ∨ ∃ i j, x = .str i ∧ y = .str j ∧ Q (.bl (k i j)) H) (fLt g k) := fun σ H D s fp x y rx ry fx fy r' s' Q e vx vy _ _ hw q => by
  unfold fLt at hw
  split at hw
  · rename_i i j
    cases hw
    exact .inl ⟨i, j, vr_int vx, vr_int vy, q _ _ _ _ _ (aft_refl e) (.d (.bl _))⟩
  · rename_i i j
    cases hw
    exact .inr ⟨i, j, (vr_str vx).1, (vr_str vy).1, q _ _ _ _ _ (aft_refl e) (.d (.bl _))⟩
  · cases hw
abbrev fLtA : F2 := fLt (fun i j => decide (i < j)) sLt
abbrev fLeA : F2 := fLt (fun i j => decide (i ≤ j)) fun a b => !sLt b a
abbrev fGtA : F2 := fLt (fun i j => decide (j < i)) fun a b => sLt b a
abbrev fGeA : F2 := fLt (fun i j => decide (j ≤ i)) fun a b => !sLt a b
theorem op_ltA : OpR X (compareOp .Lt) (fun x y H Q => rI0 (fun i j => .bl (decide (i < j))) x y H Q ∨ ∃ i j, x = .str i ∧ y = .str j ∧ Q (.bl (sLt i j)) H) := OpR.or op_lt op_lt_str
theorem op_leA : OpR X (compareOp .LtE) (fun x y H Q => rI0 (fun i j => .bl (decide (i ≤ j))) x y H Q ∨ ∃ i j, x = .str i ∧ y = .str j ∧ Q (.bl (!sLt j i)) H) := OpR.or op_le op_le_str
theorem op_gtA : OpR X (compareOp .Gt) (fun x y H Q => rI0 (fun i j => .bl (decide (j < i))) x y H Q ∨ ∃ i j, x = .str i ∧ y = .str j ∧ Q (.bl (sLt j i)) H) := OpR.or op_gt op_gt_str
theorem op_geA : OpR X (compareOp .GtE) (fun x y H Q => rI0 (fun i j => .bl (decide (j ≤ i))) x y H Q ∨ ∃ i j, x = .str i ∧ y = .str j ∧ Q (.bl (!sLt i j)) H) := OpR.or op_ge op_ge_str
section
variable {a b c : Expr} {pos : Pos} {wa wb wc : WE}
theorem c_lt (ja : J M X a wa) (jb : J M X b wb) : JC M X .Lt a b (wOp fLtA wa wb) := c_op (fun _ => op_ltA) sim_lt ja jb
theorem c_le (ja : J M X a wa) (jb : J M X b wb) : JC M X .LtE a b (wOp fLeA wa wb) := c_op (fun _ => op_leA) sim_lt ja jb
theorem c_gt (ja : J M X a wa) (jb : J M X b wb) : JC M X .Gt a b (wOp fGtA wa wb) := c_op (fun _ => op_gtA) sim_lt ja jb
theorem c_ge (ja : J M X a wa) (jb : J M X b wb) : JC M X .GtE a b (wOp fGeA wa wb) := c_op (fun _ => op_geA) sim_lt ja jb
/-- a < b < c -/
def wChain (F G : F2) (a b c : WE) : WE := fun s => (a s).bind fun p => (b p.2).bind fun q => (F p.1 q.1 q.2).bind fun z => match z.1 with
  | .d (.bl true) => (c z.2).bind fun t => G q.1 t.1 t.2
  | .d (.bl false) => some (.d (.bl false), z.2)
  | _ => none
theorem sim_chain {r r' : R2} {F G : F2} (hF : SimR M r F) (hG : SimR M r' G) : ∀ σ H Q, tW M (wChain F G wa wb wc) σ H Q → tChain r r' (tW M wa) (tW M wb) (tW M wc) σ H Q := fun σ H Q ⟨D, s, fp, e, r, s', hw, q⟩ => by
  simp only [wChain, Option.bind_eq_some_iff] at hw
  obtain ⟨⟨r1, s1⟩, h1, ⟨r2, s2⟩, h2, ⟨r3, s3⟩, h3, h4⟩ := hw
  refine ⟨D, s, fp, e, r1, s1, h1, fun v H1 D1 fp1 f1 a1 v1 => ⟨D1, s1, fp1, a1.e, r2, s2, h2, fun u H2 D2 fp2 f2 a2 v2 => ?_⟩⟩
  have v1' := v1.step a2
  refine hF _ _ _ _ _ _ _ _ _ _ _ _ _ _ a2.e v1'.v v2.v v1'.fr v2.fr h3 fun z H3 D3 fp3 f3 a3 v3 => ?_
  have v2' := v2.step a3
  simp only at h4
  split at h4
  · rename_i hz
    simp only [Option.bind_eq_some_iff] at h4
    obtain ⟨⟨r4, s4⟩, h4, h5⟩ := h4
    refine ⟨true, vr_bl v3.v, ?_⟩
    rw [if_pos rfl]
    refine ⟨D3, s3, fp3, a3.e, r4, s4, h4, fun y H4 D4 fp4 f4 a4 v4 => ?_⟩
    have v2'' := v2'.step a4
    exact hG _ _ _ _ _ _ _ _ _ _ _ _ _ _ a4.e v2''.v v4.v v2''.fr v4.fr h5 fun w H5 D5 fp5 f5 a5 v5 => q _ _ _ _ _ (a1.trans (a2.trans (a3.trans (a4.trans a5)))) (v5.back (a1.st.trans (a2.st.trans (a3.st.trans a4.st))))
  · cases h4
    refine ⟨false, vr_bl v3.v, ?_⟩
    rw [if_neg Bool.false_ne_true]
    exact q _ _ _ _ _ (a1.trans (a2.trans a3)) (.d (.bl _))
  · cases h4
theorem j_chain {op op' : CmpOp} {r r' : R2} {F G : F2} (ho : OpR X (compareOp op) r) (ho' : OpR X (compareOp op') r') (hF : SimR M r F) (hG : SimR M r' G) (ja : J M X a wa) (jb : J M X b wb) (jc : J M X c wc) (hm : lastMarks [op, op'] [b, c] = false := by with_unfolding_all rfl) :
    J M X (.Compare a [op, op'] [b, c] pos) (wChain F G wa wb wc) := fun hM => pe_mono (pe_chain ho ho' (ja hM) (jb hM) (jc hM) hm) (sim_chain hF hG)
end
/-! ### is -/
def isNo : Da → Bool
  | .non => true
  | _ => false
theorem dx_no {v : V} {d : Da} (h : Dx M H v d) : decide (v = .non) = isNo d := by
  cases h <;> rfl
def fIs (n : Bool) : F2 := fun x y s => match y with
  | .d .non => match dv s x with
    | some d => some (.d (.bl (if n then !isNo d else isNo d)), s)
    | none => none
  | .d (.bl b) => match x with
    | .d (.bl a) => some (.d (.bl (if n then !decide (a = b) else decide (a = b))), s)
    | _ => none
  | _ => none
def rIs : R2 := fun x y H Q => (y = .non ∧ Q (.bl (decide (x = .non))) H) ∨ rIsB x y H Q
def rIsNot : R2 := fun x y H Q => (y = .non ∧ Q (.bl (!decide (x = .non))) H) ∨ rNotB x y H Q
theorem vr_non {v : V} {f : List Addr} (h : VR M σ H D s v (.d .non) f) : v = .non := by
  cases h with
  | d h => cases h; rfl
theorem sim_is : SimR M rIs (fIs false) := fun σ H D s fp x y rx ry fx fy r' s' Q e vx vy _ _ hw q => by
  unfold fIs at hw
  split at hw
  · split at hw
    · rename_i d hd
      cases hw
      refine .inl ⟨vr_non vy, ?_⟩
      rw [dx_no (dv_ok e vx hd)]
      exact q _ _ _ _ _ (aft_refl e) (.d (.bl _))
    · cases hw
  · split at hw
    · cases hw
      exact .inr ⟨_, _, vr_bl vx, vr_bl vy, q _ _ _ _ _ (aft_refl e) (.d (.bl _))⟩
    · cases hw
  · cases hw
theorem sim_isnot : SimR M rIsNot (fIs true) := fun σ H D s fp x y rx ry fx fy r' s' Q e vx vy _ _ hw q => by
  unfold fIs at hw
  split at hw
  · split at hw
    · rename_i d hd
      cases hw
      refine .inl ⟨vr_non vy, ?_⟩
      rw [dx_no (dv_ok e vx hd)]
      exact q _ _ _ _ _ (aft_refl e) (.d (.bl _))
    · cases hw
  · split at hw
    · cases hw
      exact .inr ⟨_, _, vr_bl vx, vr_bl vy, q _ _ _ _ _ (aft_refl e) (.d (.bl _))⟩
    · cases hw
  · cases hw
section
variable {a b c : Expr} {pos : Pos} {wa wb wc : WE}
theorem c_is (ja : J M X a wa) (jb : J M X b wb) : JC M X .Is a b (wOp (fIs false) wa wb) := c_op (fun _ => OpR.or op_isN op_isBl) sim_is ja jb
theorem c_isnot (ja : J M X a wa) (jb : J M X b wb) : JC M X .IsNot a b (wOp (fIs true) wa wb) := c_op (fun _ => OpR.or op_notN op_notBl) sim_isnot ja jb
end
/-! ### in -/
def flatD : Da → Bool
  | .non | .bl _ | .int _ | .str _ => true
  | _ => false
theorem dx_flat {v : V} {d : Da} (h : Dx M D v d) (k : flatD d = true) : flatV v = true ∧ ∀ {u e}, Dx M D u e → flatD e = true → eqV u v = eqD e d := by
  cases h with
  | non => exact ⟨rfl, fun h k => by cases h <;> first | rfl | cases k⟩
  | bl b => exact ⟨rfl, fun h k => by cases h <;> first | rfl | cases k⟩
  | int b => exact ⟨rfl, fun h k => by cases h <;> first | rfl | cases k⟩
  | str b => exact ⟨rfl, fun h k => by cases h <;> first | rfl | cases k⟩
  | _ => cases k
theorem dxs_flatAll : ∀ {vs : List V} {ds : List Da}, Dxs M D vs ds → ds.all flatD = true → vs.all flatV = true
  | _, _, .nil, _ => rfl
  | _, _, .cons h r, k => by
    simp only [List.all_cons, Bool.and_eq_true] at k ⊢
    exact ⟨(dx_flat h k.1).1, dxs_flatAll r k.2⟩
theorem dxs_in {v : V} {d : Da} (hv : Dx M D v d) (hd : flatD d = true) : ∀ {vs : List V} {ds : List Da}, Dxs M D vs ds → ds.all flatD = true → inV v vs = ds.any fun e => eqD e d
  | _, _, .nil, _ => rfl
  | _, _, .cons h r, k => by
    simp only [List.all_cons, Bool.and_eq_true] at k
    have := dxs_in hv hd r k.2
    unfold inV at this ⊢
    rw [List.any_cons, List.any_cons, this, (dx_flat hv hd).2 h k.1]
/-- x in a list, a tuple of plain things; a sign in a text -/
def fIn (n : Bool) : F2 := fun x y s => match y with
  | .d (.str z) => match x with
    | .d (.str w) => if w.length = 1 then some (.d (.bl (let b := decide (w.cps.getD 0 0 ∈ z.cps.toList); if n then !b else b)), s) else none
    | _ => none
  | y => match its s y, x with
    | some (_, ds), .d d => if (flatD d && ds.all flatD) = true then some (.d (.bl (let b := ds.any fun e => eqD e d; if n then !b else b)), s) else none
    | _, _ => none
def rInA (K : PySem.W.Frag) (n : Bool) : R2 := fun x y H Q => (∃ (c : Nat) (z : Str), x = .str ⟨#[c]⟩ ∧ y = .str z ∧ Q (.bl (let b := decide (c ∈ z.cps.toList); if n then !b else b)) H) ∨ rIn K n x y H Q
theorem str_one {w : Str} (h : w.length = 1) : w = ⟨#[w.cps.getD 0 0]⟩ := by
  obtain ⟨a⟩ := w
  obtain ⟨l⟩ := a
  match l, h with
  | [c], _ => rfl
theorem sim_in (n : Bool) : SimR M (rInA M.K n) (fIn n) := fun σ H D s fp x y rx ry fx fy r' s' Q e vx vy _ _ hw q => by
  unfold fIn at hw
  split at hw
  · split at hw
    · split at hw
      · rename_i z w hl
        cases hw
        obtain ⟨rfl, kx⟩ := vr_str vx
        obtain ⟨rfl, ky⟩ := vr_str vy
        exact .inl ⟨_, _, congrArg V.str (str_one hl), rfl, q _ _ _ _ _ (aft_refl e) (.d (.bl _))⟩
      · cases hw
    · cases hw
  · split at hw
    · rename_i h1
      split at hw
      · rename_i ok
        cases hw
        simp only [Bool.and_eq_true] at ok
        obtain ⟨a, vs, rfl, d1, h3⟩ := vr_its e vy h1
        have hx := vr_dx vx
        refine .inr ⟨a, vs, rfl, h3.elim (fun h => .inr h.2.1) fun h => .inl (SqL.of h.2), (dx_flat hx ok.1).1, dxs_flatAll d1 ok.2, ?_⟩
        rw [dxs_in hx ok.1 d1 ok.2]
        exact q _ _ _ _ _ (aft_refl e) (.d (.bl _))
      · cases hw
    · cases hw
theorem op_inA : OpR X (compareOp .In) (rInA X.K false) := OpR.or op_in_sign op_in_seq
theorem op_notInA : OpR X (compareOp .NotIn) (rInA X.K true) := OpR.or op_notIn_sign op_notIn_seq
/-! ### and, or, not, if -/
section
variable {a b c : Expr} {pos : Pos} {wa wb wc : WE} {rest : List Expr}
def wAnd (a b : WE) : WE := fun s => (a s).bind fun p => match p.1 with
  | .d (.bl true) => b p.2
  | .d (.bl false) => some (.d (.bl false), p.2)
  | _ => none
def wOr (a b : WE) : WE := fun s => (a s).bind fun p => match p.1 with
  | .d (.bl true) => some (.d (.bl true), p.2)
  | .d (.bl false) => b p.2
  | _ => none
def wNot (a : WE) : WE := fun s => (a s).bind fun p => match p.1 with
  | .d (.bl b) => some (.d (.bl (!b)), p.2)
  | _ => none
theorem j_one {op} (ja : J M X a wa) : J M X (.BoolOp op [a] pos) wa := fun hM => pe_one (ja hM)
theorem j_and (ja : J M X a wa) (jb : J M X (.BoolOp .And (b :: rest) pos) wb) : J M X (.BoolOp .And (a :: b :: rest) pos) (wAnd wa wb) := fun hM => pe_mono (pe_and (ja hM) (jb hM)) fun σ H Q ⟨D, s, fp, e, r, s', hw, q⟩ => by
  simp only [wAnd, Option.bind_eq_some_iff] at hw
  obtain ⟨⟨r1, s1⟩, h1, h2⟩ := hw
  refine ⟨D, s, fp, e, r1, s1, h1, fun v H1 D1 fp1 f1 a1 v1 => ?_⟩
  simp only at h2
  split at h2
  · refine ⟨true, vr_bl v1.v, ?_⟩
    rw [if_pos rfl]
    exact ⟨D1, s1, fp1, a1.e, r, s', h2, fun u H2 D2 fp2 f2 a2 v2 => q _ _ _ _ _ (a1.trans a2) (v2.back a1.st)⟩
  · cases h2
    refine ⟨false, vr_bl v1.v, ?_⟩
    rw [if_neg Bool.false_ne_true]
    exact q _ _ _ _ _ a1 (.d (.bl _))
  · cases h2
theorem j_or (ja : J M X a wa) (jb : J M X (.BoolOp .Or (b :: rest) pos) wb) : J M X (.BoolOp .Or (a :: b :: rest) pos) (wOr wa wb) := fun hM => pe_mono (pe_or (ja hM) (jb hM)) fun σ H Q ⟨D, s, fp, e, r, s', hw, q⟩ => by
  simp only [wOr, Option.bind_eq_some_iff] at hw
  obtain ⟨⟨r1, s1⟩, h1, h2⟩ := hw
  refine ⟨D, s, fp, e, r1, s1, h1, fun v H1 D1 fp1 f1 a1 v1 => ?_⟩
  simp only at h2
  split at h2
  · cases h2
    refine ⟨true, vr_bl v1.v, ?_⟩
    rw [if_pos rfl]
    exact q _ _ _ _ _ a1 (.d (.bl _))
  · refine ⟨false, vr_bl v1.v, ?_⟩
    rw [if_neg Bool.false_ne_true]
    exact ⟨D1, s1, fp1, a1.e, r, s', h2, fun u H2 D2 fp2 f2 a2 v2 => q _ _ _ _ _ (a1.trans a2) (v2.back a1.st)⟩
  · cases h2
theorem j_not (ja : J M X a wa) : J M X (.UnaryOp .Not a pos) (wNot wa) := fun hM => pe_mono (pe_not (ja hM)) fun σ H Q ⟨D, s, fp, e, r, s', hw, q⟩ => by
  simp only [wNot, Option.bind_eq_some_iff] at hw
  obtain ⟨⟨r1, s1⟩, h1, h2⟩ := hw
  refine ⟨D, s, fp, e, r1, s1, h1, fun v H1 D1 fp1 f1 a1 v1 => ?_⟩
  simp only at h2
  split at h2
  · cases h2
    exact ⟨_, vr_bl v1.v, q _ _ _ _ _ a1 (.d (.bl _))⟩
  · cases h2
def wNeg (a : WE) : WE := fun s => (a s).bind fun p => match p.1 with
  | .d (.int i) => some (.d (.int (-i)), p.2)
  | _ => none
theorem j_neg (ja : J M X a wa) : J M X (.UnaryOp .USub a pos) (wNeg wa) := fun hM => pe_mono (pe_un un_neg (ja hM)) fun σ H Q ⟨D, s, fp, e, r, s', hw, q⟩ => by
  simp only [wNeg, Option.bind_eq_some_iff] at hw
  obtain ⟨⟨r1, s1⟩, h1, h2⟩ := hw
  refine ⟨D, s, fp, e, r1, s1, h1, fun v H1 D1 fp1 f1 a1 v1 => ?_⟩
  simp only at h2
  split at h2
  · cases h2
    exact ⟨_, vr_int v1.v, q _ _ _ _ _ a1 (.d (.int _))⟩
  · cases h2
/-! tests -/
def wTest (w : WE) : WT := fun s => (w s).bind fun p => match p.1 with
  | .d (.bl b) => some (b, p.2)
  | _ => none
theorem jt_val (ja : J M X a wa) (he : ∀ whole, isTrue a X.env whole = (do let v ← whole; standAt a.pos; holding [v] (truthy v)) := by intro _; rfl) : JT M X a (wTest wa) := fun hM => pt_mono (pt_val (ja hM) he) fun σ H Q ⟨D, s, fp, e, r, s', hw, q⟩ => by
  simp only [wTest, Option.bind_eq_some_iff] at hw
  obtain ⟨⟨r1, s1⟩, h1, h2⟩ := hw
  refine ⟨D, s, fp, e, r1, s1, h1, fun v H1 D1 fp1 f1 a1 v1 => ?_⟩
  simp only at h2
  split at h2
  · cases h2
    exact ⟨_, vr_bl v1.v, q _ _ _ a1⟩
  · cases h2
theorem jt_c {op : CmpOp} {w : WE} (h : JC M X op a b w) (hm : behindInMarks op b = false := by first | exact nomark _ | rfl) : JT M X (.Compare a [op] [b] pos) (wTest w) := fun hM => pt_mono (pt_cmp (h hM) hm) fun σ H Q ⟨D, s, fp, e, r, s', hw, q⟩ => by
  simp only [wTest, Option.bind_eq_some_iff] at hw
  obtain ⟨⟨r1, s1⟩, h1, h2⟩ := hw
  refine ⟨D, s, fp, e, r1, s1, h1, fun v H1 D1 fp1 f1 a1 v1 => ?_⟩
  simp only at h2
  split at h2
  · cases h2
    exact ⟨_, vr_bl v1.v, q _ _ _ a1⟩
  · cases h2
def JW (M : Md) (X : Cx) (e : Expr) (w : WT) : Prop := M.at X → PW X e (tWT M w)
theorem pw_mono {e : Expr} {t u : TT} (h : PW X e t) (k : ∀ σ H Q, u σ H Q → t σ H Q) : PW X e u := ⟨fun wh pins s σ H Q I q => h.run wh pins s σ H Q I (k σ H Q q)⟩
variable {ta tb : WT}
def wAndT (a b : WT) : WT := fun s => (a s).bind fun p => if p.1 then b p.2 else some (false, p.2)
def wOrT (a b : WT) : WT := fun s => (a s).bind fun p => if p.1 then some (true, p.2) else b p.2
def wNotT (a : WT) : WT := fun s => (a s).bind fun p => some (!p.1, p.2)
theorem jw_and1 (ja : JT M X a ta) : JW M X (.BoolOp .And [a] pos) ta := fun hM => pw_and1 (ja hM)
theorem jw_or1 (ja : JT M X a ta) : JW M X (.BoolOp .Or [a] pos) ta := fun hM => pw_or1 (ja hM)
theorem jt_w (h : JW M X a ta) : JT M X a ta := fun hM => (h hM).pt
theorem sim_andT : ∀ σ H Q, tWT M (wAndT ta tb) σ H Q → tAnd (tWT M ta) (tWT M tb) σ H Q := fun σ H Q ⟨D, s, fp, e, r, s', hw, q⟩ => by
  simp only [wAndT, Option.bind_eq_some_iff] at hw
  obtain ⟨⟨r1, s1⟩, h1, h2⟩ := hw
  refine ⟨D, s, fp, e, r1, s1, h1, fun H1 D1 fp1 a1 => ?_⟩
  cases r1 with
  | true => exact ⟨D1, s1, fp1, a1.e, r, s', h2, fun H2 D2 fp2 a2 => q _ _ _ (a1.trans a2)⟩
  | false =>
    cases h2
    exact q _ _ _ a1
theorem sim_orT : ∀ σ H Q, tWT M (wOrT ta tb) σ H Q → tOr (tWT M ta) (tWT M tb) σ H Q := fun σ H Q ⟨D, s, fp, e, r, s', hw, q⟩ => by
  simp only [wOrT, Option.bind_eq_some_iff] at hw
  obtain ⟨⟨r1, s1⟩, h1, h2⟩ := hw
  refine ⟨D, s, fp, e, r1, s1, h1, fun H1 D1 fp1 a1 => ?_⟩
  cases r1 with
  | false => exact ⟨D1, s1, fp1, a1.e, r, s', h2, fun H2 D2 fp2 a2 => q _ _ _ (a1.trans a2)⟩
  | true =>
    cases h2
    exact q _ _ _ a1
theorem jw_and (ja : JT M X a ta) (jb : JW M X (.BoolOp .And (b :: rest) pos) tb) : JW M X (.BoolOp .And (a :: b :: rest) pos) (wAndT ta tb) := fun hM => pw_mono (pw_and (ja hM) (jb hM)) sim_andT
theorem jw_or (ja : JT M X a ta) (jb : JW M X (.BoolOp .Or (b :: rest) pos) tb) : JW M X (.BoolOp .Or (a :: b :: rest) pos) (wOrT ta tb) := fun hM => pw_mono (pw_or (ja hM) (jb hM)) sim_orT
theorem jt_not (ja : JT M X a ta) : JT M X (.UnaryOp .Not a pos) (wNotT ta) := fun hM => pt_mono (pt_not (ja hM)) fun σ H Q ⟨D, s, fp, e, r, s', hw, q⟩ => by
  simp only [wNotT, Option.bind_eq_some_iff, Option.some.injEq, Prod.mk.injEq] at hw
  obtain ⟨⟨r1, s1⟩, h1, rfl, rfl⟩ := hw
  exact ⟨D, s, fp, e, r1, s1, h1, fun H1 D1 fp1 a1 => q _ _ _ a1⟩
def wIfE (c : WT) (a b : WE) : WE := fun s => (c s).bind fun p => if p.1 then a p.2 else b p.2
theorem j_ifE (jc : JT M X c ta) (ja : J M X a wa) (jb : J M X b wb) : J M X (.IfExp c a b pos) (wIfE ta wa wb) := fun hM => pe_mono (pe_ifExp (jc hM) (ja hM) (jb hM)) fun σ H Q ⟨D, s, fp, e, r, s', hw, q⟩ => by
  simp only [wIfE, Option.bind_eq_some_iff] at hw
  obtain ⟨⟨r1, s1⟩, h1, h2⟩ := hw
  refine ⟨D, s, fp, e, r1, s1, h1, fun H1 D1 fp1 a1 => ?_⟩
  cases r1 with
  | true => exact ⟨D1, s1, fp1, a1.e, r, s', h2, fun v H2 D2 fp2 f2 a2 v2 => q _ _ _ _ _ (a1.trans a2) (v2.back a1.st)⟩
  | false => exact ⟨D1, s1, fp1, a1.e, r, s', h2, fun v H2 D2 fp2 f2 a2 v2 => q _ _ _ _ _ (a1.trans a2) (v2.back a1.st)⟩
end
end
end Tw

/-! indices, slices, *, built-ins -/
namespace Tw
open PySem PySem.Spec PyProof.Rows L2
section
variable {M : Md} {X : Cx} {σ : L2.St} {H D H' D' : Hp} {s s' : S} {fp fp' : Nat → List Addr}
/-- one of two ways -/
def orF (F G : F2) : F2 := fun x y s => match F x y s with
  | some p => some p
  | none => G x y s
theorem j_or2 {e : Expr} {r r' : R2} {F G : F2} {wa wb : WE} (h : M.at X → PE X e (tOp r (tW M wa) (tW M wb))) (h' : M.at X → PE X e (tOp r' (tW M wa) (tW M wb))) (hF : SimR M r F) (hG : SimR M r' G) : J M X e (wOp (orF F G) wa wb) := fun hM => by
  refine ⟨fun pins s0 σ H Q I hw => ?_⟩
  obtain ⟨D, s, fp, e, r, s', hw, q⟩ := hw
  simp only [wOp, Option.bind_eq_some_iff] at hw
  obtain ⟨⟨r1, s1⟩, h1, ⟨r2, s2⟩, h2, h3⟩ := hw
  unfold orF at h3
  split at h3
  · rename_i p hp
    refine (h hM).run pins s0 σ H Q I (sim_op hF σ H Q ⟨D, s, fp, e, r, s', ?_, q⟩)
    simp only [wOp, Option.bind_eq_some_iff]
    exact ⟨⟨r1, s1⟩, h1, ⟨r2, s2⟩, h2, hp.trans h3⟩
  · refine (h' hM).run pins s0 σ H Q I (sim_op hG σ H Q ⟨D, s, fp, e, r, s', ?_, q⟩)
    simp only [wOp, Option.bind_eq_some_iff]
    exact ⟨⟨r1, s1⟩, h1, ⟨r2, s2⟩, h2, h3⟩
/-! ### x[i] -/
theorem atI_map {α β : Type} {xs : List α} {ys : List β} {i : Int} {y : β} (hl : xs.length = ys.length) (h : atI ys i = some y) : ∃ j : Nat, ixN ys.length i = some j ∧ ys[j]? = some y ∧ atI xs i = xs[j]? := by
  unfold atI at h ⊢
  rw [hl]
  cases q : ixN ys.length i with
  | none => rw [q] at h; cases h
  | some j => rw [q] at h; exact ⟨j, rfl, h, rfl⟩
theorem dxs_at {vs : List V} {ds : List Da} {i : Int} {d : Da} (h : Dxs M D vs ds) (k : atI ds i = some d) : ∃ v, atI vs i = some v ∧ Dx M D v d := by
  obtain ⟨j, _, h1, h2⟩ := atI_map (dxs_len h) k
  obtain ⟨v, h3, h4⟩ := dxs_get h h1
  exact ⟨v, h2.trans h3, h4⟩
def calm : RV → Bool
  | .d _ => true
  | .o _ => true
  | _ => false
def fIx : F2 := fun x y s => match y with
  | .d (.int i) => match x with
    | .d (.str z) => match atI z.cps.toList i with
      | some c => some (.d (.str ⟨#[c]⟩), s)
      | none => none
    | .d (.scr ds) => match atI ds i with
      | some d => some (.d d, s)
      | none => none
    | .l rs => match atI rs i with
      | some r => if calm r = true then some (r, s) else none
      | none => none
    | x => match its s x with
      | some (_, ds) => match atI ds i with
        | some d => some (.d d, s)
        | none => none
      | none => none
  | _ => none
def rIxA (K : PySem.W.Frag) : R2 := fun x y H Q => rIxL K x y H Q ∨ rIxT K x y H Q ∨ rIxS x y H Q
theorem IxR.or {r r' : R2} (h : IxR X r) (h' : IxR X r') : IxR X (fun x y H Q => r x y H Q ∨ r' x y H Q) := fun value slice pins s σ H x y v u Q I rx ry q hs => q.elim (fun q => h value slice pins s σ H x y v u Q I rx ry q hs) fun q => h' value slice pins s σ H x y v u Q I rx ry q hs
theorem ix_any : IxR X (rIxA X.K) := ix_list.or (ix_tup.or ix_str)
theorem sok_at {z : Str} {i : Int} {c : Nat} (h : SOk z) (k : atI z.cps.toList i = some c) : SOk ⟨#[c]⟩ := by
  have hm : c ∈ z.cps.toList := by
    unfold atI at k
    obtain ⟨j, _, hj⟩ := Option.bind_eq_some_iff.mp k
    exact List.mem_of_getElem? hj
  have h1 := h.1
  unfold PyData.strOk at h1
  rw [← Array.all_toList, List.all_eq_true] at h1
  refine ⟨?_, Nat.le_trans (show 1 ≤ 1 from Nat.le_refl _) (by decide)⟩
  unfold PyData.strOk
  rw [← Array.all_toList, List.all_eq_true]
  intro x hx
  simp at hx
  subst hx
  exact h1 _ hm
theorem vrs_at {vs : List V} {rs : List RV} {f : List Addr} {i : Nat} {r : RV} (h : VRs M σ H D s vs rs f) (k : rs[i]? = some r) (hc : calm r = true) : ∃ v, vs[i]? = some v ∧ VR M σ H D s v r [] := by
  induction rs generalizing vs f i with
  | nil => simp at k
  | cons r0 rs ih =>
    cases h with
    | cons h1 h2 _ =>
      cases i with
      | zero =>
        simp at k
        subst k
        cases h1 with
        | d h1 => exact ⟨_, rfl, .d h1⟩
        | o h1 => exact ⟨_, rfl, .o h1⟩
        | n _ => cases hc
        | l _ _ => cases hc
        | t _ _ => cases hc
      | succ i =>
        obtain ⟨v, h3, h4⟩ := ih h2 (i := i) (by simpa using k)
        exact ⟨v, by simpa using h3, h4⟩
theorem sim_ix : SimR M (rIxA M.K) fIx := fun σ H D s fp x y rx ry fx fy r' s' Q e vx vy _ _ hw q => by
  unfold fIx at hw
  split at hw
  · rename_i i
    have hy := vr_int vy
    subst hy
    split at hw
    · split at hw
      · rename_i z _ c hc
        cases hw
        obtain ⟨rfl, kx⟩ := vr_str vx
        exact .inr (.inr ⟨z, i, c, rfl, rfl, kx.2, hc, q _ _ _ _ _ (aft_refl e) (.d (.str (sok_at kx hc)))⟩)
      · cases hw
    · split at hw
      · rename_i ds _ d hd
        cases hw
        have hx := vr_dx vx
        cases hx with
        | scr h1 h2 =>
          obtain ⟨v, h3, h4⟩ := dxs_at h2 hd
          exact .inl ⟨_, _, i, v, rfl, rfl, e.sub.seq h1, h3, q _ _ _ _ _ (aft_refl e) (.d h4)⟩
      · cases hw
    · split at hw
      · rename_i rs _ r hr
        split at hw
        · rename_i hc
          simp only [Option.some.injEq, Prod.mk.injEq] at hw
          obtain ⟨rfl, rfl⟩ := hw
          cases vx with
          | l h1 h2 =>
            obtain ⟨j, _, k1, k2⟩ := atI_map (VRs.length h2) hr
            obtain ⟨v, h3, h4⟩ := vrs_at h2 k1 hc
            exact .inl ⟨_, _, i, v, rfl, rfl, SqL.of h1, k2.trans h3, q _ _ _ _ [] (aft_refl e) ⟨h4, fun _ h => by simp at h, fun _ h => by simp at h⟩⟩
        · cases hw
      · cases hw
    · split at hw
      · rename_i hi
        split at hw
        · rename_i d hd
          cases hw
          obtain ⟨a, vs, rfl, d1, h3⟩ := vr_its e vx hi
          obtain ⟨v, h4, h5⟩ := dxs_at d1 hd
          rcases h3 with ⟨_, h3, _⟩ | ⟨_, h3⟩
          · exact .inr (.inl ⟨a, vs, i, v, rfl, rfl, h3, h4, q _ _ _ _ _ (aft_refl e) (.d h5)⟩)
          · exact .inl ⟨a, vs, i, v, rfl, rfl, SqL.of h3, h4, q _ _ _ _ _ (aft_refl e) (.d h5)⟩
        · cases hw
      · cases hw
  · cases hw
/-! ### slices -/
def cutD (ds : List Da) (lo hi : Option Int) : List Da := (ds.drop (HT.sIx ds.length 0 lo)).take (HT.sIx ds.length ds.length hi - HT.sIx ds.length 0 lo)
theorem dxs_cut {vs : List V} {ds : List Da} (h : Dxs M D vs ds) (lo hi : Option Int) : Dxs M D (cutV vs lo hi) (cutD ds lo hi) := by
  unfold cutV cutD
  rw [dxs_len h]
  exact dxs_take _ (dxs_drop _ h)
abbrev WO := S → Option (Option Int × S)
def wNoPart : WO := fun s => some (none, s)
def wPart (w : WE) : WO := fun s => (w s).bind fun p => match p.1 with
  | .d (.int i) => some (some i, p.2)
  | _ => none
def tWO (M : Md) (w : WO) : TO := fun σ H Q => ∃ D s fp, EnvR M σ H D s fp ∧ ∃ r s', w s = some (r, s') ∧ ∀ H' D' fp', Aft M σ H D s fp H' D' s' fp' → Q r H'
def JO (M : Md) (X : Cx) (e : Option Expr) (w : WO) : Prop := M.at X → PO X e (tWO M w)
theorem po_mono {e : Option Expr} {t u : TO} (h : PO X e t) (k : ∀ σ H Q, u σ H Q → t σ H Q) : PO X e u := ⟨fun pins s σ H Q I q => h.run pins s σ H Q I (k σ H Q q)⟩
theorem jo_none : JO M X none wNoPart := fun _ => po_mono po_none fun σ H Q ⟨D, s, fp, e, r, s', hw, q⟩ => by
  cases hw
  exact q _ _ _ (aft_refl e)
theorem jo_some {e : Expr} {w : WE} (h : J M X e w) : JO M X (some e) (wPart w) := fun hM => po_mono (po_some (h hM)) fun σ H Q ⟨D, s, fp, e, r, s', hw, q⟩ => by
  simp only [wPart, Option.bind_eq_some_iff] at hw
  obtain ⟨⟨r1, s1⟩, h1, h2⟩ := hw
  refine ⟨D, s, fp, e, r1, s1, h1, fun v H1 D1 fp1 f1 a1 v1 => ?_⟩
  simp only at h2
  split at h2
  · cases h2
    exact ⟨_, vr_int v1.v, q _ _ _ a1⟩
  · cases h2
def fSl (x : RV) (lo hi : Option Int) : WE := fun s => match x with
  | .d (.str z) => some (.d (.str (cutS z lo hi)), s)
  | .d (.scr ds) => some (.n (.lst (cutD ds lo hi)), s)
  | x => match its s x with
    | some (false, ds) => some (.n (.lst (cutD ds lo hi)), s)
    | some (true, ds) => some (.d (.tup (cutD ds lo hi)), s)
    | none => none
def wSl (a : WE) (lo hi : WO) : WE := fun s => (a s).bind fun p => (lo p.2).bind fun q => (hi q.2).bind fun t => fSl p.1 q.1 t.1 t.2
def rSlA (K : PySem.W.Frag) : V → Option Int → Option Int → Hp → VK → Prop := fun x lo hi H Q => rSlLU K x lo hi H Q ∨ L2.rSlA K x lo hi H Q ∨ rSlS x lo hi H Q
theorem SlR.or {r r' : V → Option Int → Option Int → Hp → VK → Prop} (h : SlR X r) (h' : SlR X r') : SlR X (fun x lo hi H Q => r x lo hi H Q ∨ r' x lo hi H Q) := fun pins s σ H x v vl vu lo hi sl Q I rx hs pl pu q => q.elim (h pins s σ H x v vl vu lo hi sl Q I rx hs pl pu) (h' pins s σ H x v vl vu lo hi sl Q I rx hs pl pu)
theorem sl_any : SlR X (rSlA X.K) := sl_lstU.or (sl_tupA.or sl_str)
theorem sok_cut {z : Str} (h : SOk z) (lo hi : Option Int) : SOk (cutS z lo hi) := by
  have hm : ∀ c ∈ (cutS z lo hi).cps.toList, c ∈ z.cps.toList := fun c hc => by
    simp only [cutS] at hc
    exact List.mem_of_mem_drop (List.mem_of_mem_take hc)
  have h1 := h.1
  unfold PyData.strOk at h1
  rw [← Array.all_toList, List.all_eq_true] at h1
  refine ⟨?_, ?_⟩
  · unfold PyData.strOk
    rw [← Array.all_toList, List.all_eq_true]
    exact fun x hx => h1 x (hm x hx)
  · refine Nat.le_trans ?_ h.2
    show (List.toArray _).size ≤ z.cps.size
    rw [List.size_toArray, List.length_take, List.length_drop, Array.length_toList]
    omega
theorem j_slice {a : Expr} {lo hi : Option Expr} {p2 pos : Pos} {wa : WE} {wl wh : WO} (ja : J M X a wa) (jl : JO M X lo wl) (jh : JO M X hi wh) : J M X (.Subscript a (.Slice lo hi none p2) pos) (wSl wa wl wh) := fun hM => pe_mono (pe_slice (r := rSlA M.K) (by rw [← hM.K]; exact sl_any) (ja hM) (jl hM) (jh hM)) fun σ H Q ⟨D, s, fp, e, r, s', hw, q⟩ => by
  simp only [wSl, Option.bind_eq_some_iff] at hw
  obtain ⟨⟨r1, s1⟩, h1, ⟨l, s2⟩, h2, ⟨u, s3⟩, h3, h4⟩ := hw
  refine ⟨D, s, fp, e, r1, s1, h1, fun v H1 D1 fp1 f1 a1 v1 => ⟨D1, s1, fp1, a1.e, l, s2, h2, fun H2 D2 fp2 a2 => ⟨D2, s2, fp2, a2.e, u, s3, h3, fun H3 D3 fp3 a3 => ?_⟩⟩⟩
  have v1' := (v1.step a2).step a3
  have a0 := a1.trans (a2.trans a3)
  simp only at h4
  unfold fSl at h4
  split at h4
  · cases h4
    obtain ⟨rfl, kx⟩ := vr_str v1'.v
    exact .inr (.inr ⟨_, rfl, kx.2, q _ _ _ _ _ a0 (.d (.str (sok_cut kx _ _)))⟩)
  · cases h4
    have hx := vr_dx v1'.v
    cases hx with
    | scr k1 k2 =>
      refine .inl ⟨_, _, rfl, a3.e.sub.seq k1, fun p H' np sm hp => ?_⟩
      obtain ⟨a4, v4⟩ := a3.e.newL np sm hp (dxs_cut k2 l u)
      exact q _ _ _ _ _ (a0.trans a4) (v4.back a0.st)
  · split at h4
    · rename_i hi
      cases h4
      obtain ⟨a, vs, rfl, d1, k | k⟩ := vr_its a3.e v1'.v hi
      · cases k.1
      · refine .inl ⟨_, _, rfl, SqL.of k.2, fun p H' np sm hp => ?_⟩
        obtain ⟨a4, v4⟩ := a3.e.newL np sm hp (dxs_cut d1 l u)
        exact q _ _ _ _ _ (a0.trans a4) (v4.back a0.st)
    · rename_i hi
      cases h4
      obtain ⟨a, vs, rfl, d1, k | k⟩ := vr_its a3.e v1'.v hi
      · refine .inr (.inl ⟨a, vs, rfl, k.2.1, fun hz => ?_, fun _ p np => ?_⟩)
        · have hd : ∀ ds : List Da, vs.length = ds.length → cutD ds l u = ds := fun ds hl => by
            unfold cutD
            rw [← hl, hz.1, hz.2, List.drop_zero, Nat.sub_zero, List.take_of_length_le (by rw [hl]; exact Nat.le_refl _)]
          rw [hd _ (dxs_len d1)] at q
          exact q _ _ _ _ _ a0 (.d k.2.2)
        · obtain ⟨a4, v4⟩ := a3.e.newT np (same_new np) upd_same (dxs_cut d1 l u)
          exact q _ _ _ _ _ (a0.trans a4) (v4.back a0.st)
      · cases k.1
    · cases h4
end
end Tw

/-! a sorted list of texts is told by its texts -/
namespace Tw
open PySem PySem.Spec PyProof.Rows L2
def leS (a b : Str) : Prop := a.cps.toList ≤ b.cps.toList
theorem leS_of {a b : Str} (h : (!ltCps b.cps.toList a.cps.toList) = true) : leS a b := by
  rw [ltCps_eq] at h
  have : ¬ b.cps.toList < a.cps.toList := by
    intro z
    rw [decide_eq_true z] at h
    cases h
  exact this
theorem leS_trans {a b c : Str} (h : leS a b) (k : leS b c) : leS a c := List.le_trans h k
theorem str_ext {a b : Str} (h : a.cps.toList = b.cps.toList) : a = b := by
  obtain ⟨a⟩ := a
  obtain ⟨b⟩ := b
  dsimp only at h
  congr 1
  exact Array.toList_inj.mp h
theorem leS_anti {a b : Str} (h : leS a b) (k : leS b a) : a = b := str_ext (List.le_antisymm h k)
theorem rising_pw : ∀ (l : List Str) (p : Str), risingS p l = true → (p :: l).Pairwise leS
  | [], p, _ => by simp
  | x :: r, p, h => by
    have h' : (!ltCps x.cps.toList p.cps.toList && risingS x r) = true := h
    obtain ⟨h1, h2⟩ := Bool.and_eq_true_iff.mp h'
    have ih := rising_pw r x h2
    have px := leS_of h1
    refine List.pairwise_cons.mpr ⟨fun y hy => ?_, ih⟩
    rcases List.mem_cons.mp hy with rfl | hy
    · exact px
    · exact leS_trans px ((List.pairwise_cons.mp ih).1 y hy)
theorem sorted_pw {l : List Str} (h : sortedS l = true) : l.Pairwise leS := by
  cases l with
  | nil => exact .nil
  | cons x r => exact rising_pw r x h
theorem sorted_one : ∀ {l m : List Str}, l.Pairwise leS → m.Pairwise leS → l.Perm m → l = m
  | [], m, _, _, p => (List.perm_nil.mp p.symm).symm
  | x :: r, [], _, _, p => List.perm_nil.mp p
  | x :: r, y :: t, hl, hm, p => by
    have hx : x ∈ y :: t := p.mem_iff.mp List.mem_cons_self
    have hy : y ∈ x :: r := p.mem_iff.mpr List.mem_cons_self
    have e : x = y := by
      rcases List.mem_cons.mp hx with h | h
      · exact h
      · rcases List.mem_cons.mp hy with h' | h'
        · exact h'.symm
        · exact leS_anti ((List.pairwise_cons.mp hl).1 y h') ((List.pairwise_cons.mp hm).1 x h)
    subst e
    rw [sorted_one (List.pairwise_cons.mp hl).2 (List.pairwise_cons.mp hm).2 (List.Perm.cons_inv p)]
theorem srt_unique {l m k : List Str} (hl : sortedS l = true) (hm : sortedS m = true) (p : l.Perm k) (p' : m.Perm k) : l = m := sorted_one (sorted_pw hl) (sorted_pw hm) (p.trans p'.symm)
theorem eqv_strs : ∀ zs : List Str, PyData.eqvAll (zs.map PyData.str) (zs.map PyData.str) = true
  | [] => rfl
  | z :: r => by
    show (PyData.eqv (.str z) (.str z) && PyData.eqvAll (r.map PyData.str) (r.map PyData.str)) = true
    rw [eqv_strs r]
    show ((z == z) && true) = true
    simp
end Tw

/-! built-ins -/
namespace Tw
open PySem PySem.Spec PyProof.Rows L2
section
variable {M : Md} {X : Cx} {σ : L2.St} {H D H' D' : Hp} {s s' : S} {fp fp' : Nat → List Addr}
abbrev FA := List RV → WE
abbrev RA := List V → Hp → VK → Prop
def SimC (M : Md) (r : RA) (F : FA) : Prop := ∀ σ H D s fp vs rs f r' s' Q, EnvR M σ H D s fp → VRs M σ H D s vs rs f → Free D s fp f → F rs s = some (r', s') → (∀ v H' D' fp' f, Aft M σ H D s fp H' D' s' fp' → Val M σ H s fp H' D' s' fp' v r' f → Q v H') → r vs H Q
def wCB (F : FA) (w : WA) : WE := fun s => (w s).bind fun p => F p.1 p.2
theorem sim_cb {r : RA} {F : FA} {w : WA} (h : SimC M r F) : ∀ σ H Q, tW M (wCB F w) σ H Q → tCB r (tWA M w) σ H Q := fun σ H Q ⟨D, s, fp, e, r, s', hw, q⟩ => by
  simp only [wCB, Option.bind_eq_some_iff] at hw
  obtain ⟨⟨r1, s1⟩, h1, h2⟩ := hw
  refine ⟨D, s, fp, e, r1, s1, h1, fun v H1 D1 fp1 f1 a1 v1 => ?_⟩
  exact h _ _ _ _ _ _ _ _ _ _ _ a1.e v1.v v1.fr h2 fun w H3 D3 fp3 f3 a3 v3 => q _ _ _ _ _ (a1.trans a3) (v3.back a1.st)
section
variable {x : Str} {p pos : Pos} {e : Expr} {es : List Expr} {w : WA} {id T : String} {r : RA} {F : FA}
theorem j_callB (hc : M.at X → CallR X (.builtin id) r) (h : SimC M r F) (hg : Gl X x) (hm : M.mg x = none) (hv : bootBuiltins x = some (.builtin id)) (ja : JA M X (e :: es) w) (hn : x ≠ "__name__" := by decide) (hdb : (x == ("__debug__" : Str)) = false := by decide)
    (he : starEach (e :: es) X.env = (false, eval e X.env) :: starEach es X.env := by rfl) (hpl : (backTo pos (starEach es X.env)).any (·.1) = false := by rfl) : J M X (.Call (.Name x p) (e :: es) [] pos) (wCB F w) := fun hM => pe_mono (pe_callB (hc hM) hg (by rw [hM.mg]; exact hm) hv (ja hM) hn hdb he hpl) (sim_cb h)
theorem j_callTy (hc : M.at X → CallR X (.type T) r) (h : SimC M r F) (hg : Gl X x) (hm : M.mg x = none) (hv : bootBuiltins x = some (.type T)) (ja : JA M X (e :: es) w) (hn : x ≠ "__name__" := by decide) (hdb : (x == ("__debug__" : Str)) = false := by decide)
    (he : starEach (e :: es) X.env = (false, eval e X.env) :: starEach es X.env := by rfl) (hpl : (backTo pos (starEach es X.env)).any (·.1) = false := by rfl) : J M X (.Call (.Name x p) (e :: es) [] pos) (wCB F w) := fun hM => pe_mono (pe_callTy (hc hM) hg (by rw [hM.mg]; exact hm) hv (ja hM) hn hdb he hpl) (sim_cb h)
end
/-- of one argument -/
def SimC1 (M : Md) (r : RA) (F : RV → WE) : Prop := ∀ σ H D s fp v rv f r' s' Q, EnvR M σ H D s fp → VR M σ H D s v rv f → Free D s fp f → F rv s = some (r', s') → (∀ v H' D' fp' f, Aft M σ H D s fp H' D' s' fp' → Val M σ H s fp H' D' s' fp' v r' f → Q v H') → r [v] H Q
def f1 (F : RV → WE) : FA := fun rs => match rs with
  | [r] => F r
  | _ => fun _ => none
theorem SimC1.c {r : RA} {F : RV → WE} (h : SimC1 M r F) : SimC M r (f1 F) := fun σ H D s fp vs rs f r' s' Q e hv hf hw q => by
  unfold f1 at hw
  split at hw
  · cases hv with
    | cons h1 h2 _ =>
      cases h2
      rw [List.append_nil] at hf
      exact h σ H D s fp _ _ _ r' s' Q e h1 hf hw q
  · cases hw
theorem SimC1.or {r r' : RA} {F G : RV → WE} (h : SimC1 M r F) (h' : SimC1 M r' G) : SimC1 M (fun xs H Q => r xs H Q ∨ r' xs H Q) (fun x s => match F x s with | some p => some p | none => G x s) := fun σ H D s fp v rv f r2 s' Q e hv hf hw q => by
  cases hF : F rv s with
  | some p =>
    simp only [hF] at hw
    exact .inl (h σ H D s fp v rv f r2 s' Q e hv hf (hF.trans hw) q)
  | none =>
    simp only [hF] at hw
    exact .inr (h' σ H D s fp v rv f r2 s' Q e hv hf hw q)
/-! ### len -/
def lenOf : Da → Option Nat
  | .str z => some z.length
  | .lst ds => some ds.length
  | .tup ds => some ds.length
  | .scr ds => some ds.length
  | .dct kvs => some kvs.length
  | _ => none
def fLen (x : RV) : WE := fun s => match dv s x with
  | some d => match lenOf d with
    | some n => some (.d (.int n), s)
    | none => none
  | none => none
def rLenA (K : PySem.W.Frag) : RA := fun xs H Q => (∃ x n, xs = [x] ∧ LenV K x H n ∧ Q (.int n) H) ∨ ∃ a kvs, xs = [V.ref a] ∧ H a = some (.dK kvs) ∧ Q (.int kvs.length) H
theorem call_lenA : CallR X (.builtin "len") (rLenA X.K) := call_len.or call_lenD
theorem sim_len : SimC1 M (rLenA M.K) fLen := fun σ H D s fp v rv f r' s' Q e hv hf hw q => by
  unfold fLen at hw
  split at hw
  · rename_i d hd
    split at hw
    · rename_i n hn
      cases hw
      have hx := dv_ok e hv hd
      have fin := fun n => q (.int n) H D fp [] (aft_refl e)
      cases hx with
      | str h =>
        cases hn
        exact .inl ⟨_, _, rfl, ⟨h.2, rfl⟩, q _ _ _ _ _ (aft_refl e) (.d (.int _))⟩
      | lst h k =>
        cases hn
        exact .inl ⟨_, _, rfl, .inl ⟨_, SqL.of h, (dxs_len k).symm⟩, q _ _ _ _ _ (aft_refl e) (.d (.int _))⟩
      | scr h k =>
        cases hn
        exact .inl ⟨_, _, rfl, .inl ⟨_, h, (dxs_len k).symm⟩, q _ _ _ _ _ (aft_refl e) (.d (.int _))⟩
      | tup h k =>
        cases hn
        exact .inl ⟨_, _, rfl, .inr ⟨_, h, (dxs_len k).symm⟩, q _ _ _ _ _ (aft_refl e) (.d (.int _))⟩
      | dct h _ k =>
        cases hn
        have hl := dxs_len k
        rw [List.length_map] at hl
        refine .inr ⟨_, _, rfl, h, q _ _ _ _ [] (aft_refl e) (.d ?_)⟩
        rw [List.length_zip, List.length_map, ← hl, Nat.min_self]
        exact .int _
      | _ => cases hn
    · cases hw
  · cases hw
/-! ### abs, int -/
def fAbs (x : RV) : WE := fun s => match x with
  | .d (.int i) => some (.d (.int (if i < 0 then -i else i)), s)
  | _ => none
theorem sim_abs : SimC1 M (fun xs H Q => ∃ i, xs = [.int i] ∧ Q (.int (if i < 0 then -i else i)) H) fAbs := fun σ H D s fp v rv f r' s' Q e hv hf hw q => by
  unfold fAbs at hw
  split at hw
  · cases hw
    exact ⟨_, by rw [vr_int hv], q _ _ _ _ _ (aft_refl e) (.d (.int _))⟩
  · cases hw
def fInt (x : RV) : WE := fun s => match x with
  | .d (.int i) => some (.d (.int i), s)
  | .d (.bl b) => some (.d (.int (if b then 1 else 0)), s)
  | _ => none
theorem sim_int : SimC1 M (fun xs H Q => (∃ i, xs = [.int i] ∧ Q (.int i) H) ∨ ∃ k, xs = [.bl k] ∧ Q (.int (if k then 1 else 0)) H) fInt := fun σ H D s fp v rv f r' s' Q e hv hf hw q => by
  unfold fInt at hw
  split at hw
  · cases hw
    exact .inl ⟨_, by rw [vr_int hv], q _ _ _ _ _ (aft_refl e) (.d (.int _))⟩
  · cases hw
    exact .inr ⟨_, by rw [vr_bl hv], q _ _ _ _ _ (aft_refl e) (.d (.int _))⟩
  · cases hw
/-! ### list, tuple -/
def fList (x : RV) : WE := fun s => match x with
  | .d (.scr ds) => some (.n (.lst ds), s)
  | x => match its s x with
    | some (_, ds) => some (.n (.lst ds), s)
    | none => none
theorem sim_list : SimC1 M (rLstU M.K) fList := fun σ H D s fp v rv f r' s' Q e hv hf hw q => by
  unfold fList at hw
  split at hw
  · cases hw
    have hx := vr_dx hv
    cases hx with
    | scr k1 k2 =>
      refine ⟨_, _, rfl, .inl (e.sub.seq k1), fun l H' nl sm hp => ?_⟩
      obtain ⟨a4, v4⟩ := e.newL nl sm hp k2
      exact q _ _ _ _ _ a4 v4
  · split at hw
    · rename_i hi
      cases hw
      obtain ⟨a, vs, rfl, d1, k⟩ := vr_its e hv hi
      refine ⟨a, vs, rfl, k.elim (fun k => .inr k.2.1) fun k => .inl (SqL.of k.2), fun l H' nl sm hp => ?_⟩
      obtain ⟨a4, v4⟩ := e.newL nl sm hp d1
      exact q _ _ _ _ _ a4 v4
    · cases hw
def fTuple (x : RV) : WE := fun s => match its s x with
  | some (_, ds) => some (.d (.tup ds), s)
  | none => none
theorem sim_tuple : SimC1 M (fun xs H Q => ∃ p ys, xs = [.ref p] ∧ ((SqL M.K H p ys ∧ ∀ l, H l = none → Q (.ref l) (upd H l (.tup ys))) ∨ (SqT M.K H p ys ∧ Q (.ref p) H))) fTuple := fun σ H D s fp v rv f r' s' Q e hv hf hw q => by
  unfold fTuple at hw
  split at hw
  · rename_i hi
    cases hw
    obtain ⟨a, vs, rfl, d1, k | k⟩ := vr_its e hv hi
    · exact ⟨a, vs, rfl, .inr ⟨k.2.1, q _ _ _ _ _ (aft_refl e) (.d k.2.2)⟩⟩
    · refine ⟨a, vs, rfl, .inl ⟨SqL.of k.2, fun l nl => ?_⟩⟩
      obtain ⟨a4, v4⟩ := e.newT nl (same_new nl) upd_same d1
      exact q _ _ _ _ _ a4 v4
  · cases hw
/-! ### all, any, sum, sorted -/
def blsD : List Da → Option (List Bool)
  | [] => some []
  | .bl b :: r => (blsD r).bind fun l => some (b :: l)
  | _ => none
def intsD : List Da → Option (List Int)
  | [] => some []
  | .int b :: r => (intsD r).bind fun l => some (b :: l)
  | _ => none
def strsD : List Da → Option (List Str)
  | [] => some []
  | .str b :: r => (strsD r).bind fun l => some (b :: l)
  | _ => none
theorem dxs_bls : ∀ {vs : List V} {ds : List Da} {l : List Bool}, Dxs M D vs ds → blsD ds = some l → vs = l.map V.bl
  | _, _, _, .nil, h => by
    cases h
    rfl
  | _, _, _, .cons h r, k => by
    cases h with
    | bl b =>
      simp only [blsD, Option.bind_eq_some_iff, Option.some.injEq] at k
      obtain ⟨l, k1, rfl⟩ := k
      rw [dxs_bls r k1]
      rfl
    | _ => cases k
theorem dxs_ints : ∀ {vs : List V} {ds : List Da} {l : List Int}, Dxs M D vs ds → intsD ds = some l → vs = l.map V.int
  | _, _, _, .nil, h => by
    cases h
    rfl
  | _, _, _, .cons h r, k => by
    cases h with
    | int b =>
      simp only [intsD, Option.bind_eq_some_iff, Option.some.injEq] at k
      obtain ⟨l, k1, rfl⟩ := k
      rw [dxs_ints r k1]
      rfl
    | _ => cases k
theorem dxs_strs : ∀ {vs : List V} {ds : List Da} {l : List Str}, Dxs M D vs ds → strsD ds = some l → vs = l.map V.str ∧ ∀ x ∈ l, SOk x
  | _, _, _, .nil, h => by
    cases h
    exact ⟨rfl, fun _ h => by simp at h⟩
  | _, _, _, .cons h r, k => by
    cases h with
    | str b =>
      simp only [strsD, Option.bind_eq_some_iff, Option.some.injEq] at k
      obtain ⟨l, k1, rfl⟩ := k
      obtain ⟨a, c⟩ := dxs_strs r k1
      refine ⟨by rw [a]; rfl, fun x hx => ?_⟩
      rcases List.mem_cons.mp hx with rfl | hx
      · exact b
      · exact c x hx
    | _ => cases k
theorem strs_dxs : ∀ {l : List Str}, (∀ x ∈ l, SOk x) → Dxs M D (l.map V.str) (l.map Da.str)
  | [], _ => .nil
  | x :: r, h => .cons (.str (h x (by simp))) (strs_dxs fun y hy => h y (List.mem_cons_of_mem _ hy))
def fOfL {α : Type} (g : List Da → Option (List α)) (k : List α → Da) (x : RV) : WE := fun s => match its s x with
  | some (false, ds) => match g ds with
    | some l => some (.d (k l), s)
    | none => none
  | _ => none
theorem sim_all : SimC1 M (rAll M.K) (fOfL blsD fun l => .bl (l.all id)) := fun σ H D s fp v rv f r' s' Q e hv hf hw q => by
  unfold fOfL at hw
  split at hw
  · rename_i hi
    split at hw
    · rename_i l hl
      cases hw
      obtain ⟨a, vs, rfl, d1, k | k⟩ := vr_its e hv hi
      · cases k.1
      · refine ⟨a, l, rfl, ?_, q _ _ _ _ _ (aft_refl e) (.d (.bl _))⟩
        rw [← dxs_bls d1 hl]
        exact SqL.of k.2
    · cases hw
  · cases hw
theorem sim_any : SimC1 M (rAny M.K) (fOfL blsD fun l => .bl (l.any id)) := fun σ H D s fp v rv f r' s' Q e hv hf hw q => by
  unfold fOfL at hw
  split at hw
  · rename_i hi
    split at hw
    · rename_i l hl
      cases hw
      obtain ⟨a, vs, rfl, d1, k | k⟩ := vr_its e hv hi
      · cases k.1
      · refine ⟨a, l, rfl, ?_, q _ _ _ _ _ (aft_refl e) (.d (.bl _))⟩
        rw [← dxs_bls d1 hl]
        exact SqL.of k.2
    · cases hw
  · cases hw
theorem sim_sum : SimC1 M (rSum M.K) (fOfL intsD fun l => .int l.sum) := fun σ H D s fp v rv f r' s' Q e hv hf hw q => by
  unfold fOfL at hw
  split at hw
  · rename_i hi
    split at hw
    · rename_i l hl
      cases hw
      obtain ⟨a, vs, rfl, d1, k | k⟩ := vr_its e hv hi
      · cases k.1
      · refine ⟨a, l, rfl, ?_, q _ _ _ _ _ (aft_refl e) (.d (.int _))⟩
        rw [← dxs_ints d1 hl]
        exact SqL.of k.2
    · cases hw
  · cases hw
/-- texts, rising -/
def insS (x : Str) : List Str → List Str
  | [] => [x]
  | y :: r => if sLt y x then y :: insS x r else x :: y :: r
def srtS : List Str → List Str
  | [] => []
  | x :: r => insS x (srtS r)
theorem insS_perm (x : Str) : ∀ l, (insS x l).Perm (x :: l)
  | [] => List.Perm.refl _
  | y :: r => by
    unfold insS
    split
    · exact (List.Perm.cons y (insS_perm x r)).trans (List.Perm.swap x y r)
    · exact List.Perm.refl _
theorem srtS_perm : ∀ l, (srtS l).Perm l
  | [] => List.Perm.refl _
  | x :: r => (insS_perm x (srtS r)).trans (List.Perm.cons x (srtS_perm r))
theorem leS_of_not {a b : Str} (h : sLt a b = false) : leS b a := of_decide_eq_false h
theorem leS_of_lt {a b : Str} (h : sLt a b = true) : leS a b := List.le_of_lt (of_decide_eq_true h)
theorem insS_pw (x : Str) : ∀ l, l.Pairwise leS → (insS x l).Pairwise leS
  | [], _ => by simp [insS]
  | y :: r, h => by
    have h' := List.pairwise_cons.mp h
    unfold insS
    split
    · rename_i q
      refine List.pairwise_cons.mpr ⟨fun z hz => ?_, insS_pw x r h'.2⟩
      rcases List.mem_cons.mp ((insS_perm x r).mem_iff.mp hz) with rfl | hz
      · exact leS_of_lt q
      · exact h'.1 z hz
    · rename_i q
      have q' : leS x y := leS_of_not (by simpa using q)
      refine List.pairwise_cons.mpr ⟨fun z hz => ?_, h⟩
      rcases List.mem_cons.mp hz with rfl | hz
      · exact q'
      · exact leS_trans q' (h'.1 z hz)
theorem srtS_pw : ∀ l, (srtS l).Pairwise leS
  | [] => .nil
  | x :: r => insS_pw x _ (srtS_pw r)
theorem srtS_is {l m : List Str} (h : sortedS m = true) (p : m.Perm l) : m = srtS l := sorted_one (sorted_pw h) (srtS_pw l) (p.trans (srtS_perm l).symm)
def fSorted (x : RV) : WE := fun s => match its s x with
  | some (false, ds) => match strsD ds with
    | some l => if l.length < 64 then some (.n (.lst ((srtS l).map Da.str)), s) else none
    | none => none
  | _ => none
theorem sim_sorted : SimC1 M (rSortedS M.K) fSorted := fun σ H D s fp v rv f r' s' Q e hv hf hw q => by
  unfold fSorted at hw
  split at hw
  · rename_i hi
    split at hw
    · rename_i l hl
      split at hw
      · rename_i h64
        cases hw
        obtain ⟨a, vs, rfl, d1, k | k⟩ := vr_its e hv hi
        · cases k.1
        · obtain ⟨e1, e2⟩ := dxs_strs d1 hl
          subst e1
          refine ⟨a, l, rfl, SqL.of k.2, h64, fun ys p pm so np => ?_⟩
          have es := srtS_is so pm
          subst es
          obtain ⟨a4, v4⟩ := e.newL np (same_new np) upd_same (strs_dxs fun x hx => e2 x (pm.mem_iff.mp hx))
          exact q _ _ _ _ _ a4 v4
      · cases hw
    · cases hw
  · cases hw
/-! ### max, min of two -/
def fMax2 : FA := fun rs s => match rs with
  | [.d (.int i), .d (.int j)] => some (.d (.int (if j > i then j else i)), s)
  | _ => none
def fMin2 : FA := fun rs s => match rs with
  | [.d (.int i), .d (.int j)] => some (.d (.int (if j < i then j else i)), s)
  | _ => none
theorem vrs_two {vs : List V} {x y : RV} {f : List Addr} (h : VRs M σ H D s vs [x, y] f) : ∃ a b f1 f2, vs = [a, b] ∧ VR M σ H D s a x f1 ∧ VR M σ H D s b y f2 := by
  cases h with
  | cons h1 h2 _ =>
    cases h2 with
    | cons h2 h3 _ =>
      cases h3
      exact ⟨_, _, _, _, rfl, h1, h2⟩
theorem sim_max2 : SimC M (fun xs H Q => ∃ i j, xs = [.int i, .int j] ∧ Q (.int (if j > i then j else i)) H) fMax2 := fun σ H D s fp vs rs f r' s' Q e hv hf hw q => by
  unfold fMax2 at hw
  split at hw
  · cases hw
    obtain ⟨a, b, _, _, rfl, h1, h2⟩ := vrs_two hv
    exact ⟨_, _, by rw [vr_int h1, vr_int h2], q _ _ _ _ _ (aft_refl e) (.d (.int _))⟩
  · cases hw
theorem sim_min2 : SimC M (fun xs H Q => ∃ i j, xs = [.int i, .int j] ∧ Q (.int (if j < i then j else i)) H) fMin2 := fun σ H D s fp vs rs f r' s' Q e hv hf hw q => by
  unfold fMin2 at hw
  split at hw
  · cases hw
    obtain ⟨a, b, _, _, rfl, h1, h2⟩ := vrs_two hv
    exact ⟨_, _, by rw [vr_int h1, vr_int h2], q _ _ _ _ _ (aft_refl e) (.d (.int _))⟩
  · cases hw
/-! ### the forms that one uses -/
section
variable {p pos : Pos} {e : Expr} {es : List Expr} {w : WA}
abbrev HE (X : Cx) (e : Expr) (es : List Expr) : Prop := starEach (e :: es) X.env = (false, eval e X.env) :: starEach es X.env
abbrev HP (X : Cx) (pos : Pos) (es : List Expr) : Prop := (backTo pos (starEach es X.env)).any (·.1) = false
theorem j_len (hm : M.mg "len" = none) (ja : JA M X (e :: es) w) (hg : Gl X "len" := by rfl) (he : HE X e es := by rfl) (hpl : HP X pos es := by rfl) : J M X (.Call (.Name "len" p) (e :: es) [] pos) (wCB (f1 fLen) w) := j_callB (fun hM => by rw [← hM.K]; exact call_lenA) sim_len.c hg hm PySem.boot_len ja (he := he) (hpl := hpl)
theorem j_abs (hm : M.mg "abs" = none) (ja : JA M X (e :: es) w) (hg : Gl X "abs" := by rfl) (he : HE X e es := by rfl) (hpl : HP X pos es := by rfl) : J M X (.Call (.Name "abs" p) (e :: es) [] pos) (wCB (f1 fAbs) w) := j_callB (fun hM => call_abs) sim_abs.c hg hm boot_abs ja (he := he) (hpl := hpl)
theorem j_toint (hm : M.mg "int" = none) (ja : JA M X (e :: es) w) (hg : Gl X "int" := by rfl) (he : HE X e es := by rfl) (hpl : HP X pos es := by rfl) : J M X (.Call (.Name "int" p) (e :: es) [] pos) (wCB (f1 fInt) w) := j_callTy (fun hM => call_int1) sim_int.c hg hm PyProof.Rows.boot_int ja (he := he) (hpl := hpl)
theorem j_list (hm : M.mg "list" = none) (ja : JA M X (e :: es) w) (hg : Gl X "list" := by rfl) (he : HE X e es := by rfl) (hpl : HP X pos es := by rfl) : J M X (.Call (.Name "list" p) (e :: es) [] pos) (wCB (f1 fList) w) := j_callTy (fun hM => by rw [← hM.K]; exact call_lstU) sim_list.c hg hm PyProof.Rows.boot_list ja (he := he) (hpl := hpl)
theorem j_tuple (hm : M.mg "tuple" = none) (ja : JA M X (e :: es) w) (hg : Gl X "tuple" := by rfl) (he : HE X e es := by rfl) (hpl : HP X pos es := by rfl) : J M X (.Call (.Name "tuple" p) (e :: es) [] pos) (wCB (f1 fTuple) w) := j_callTy (fun hM => by rw [← hM.K]; exact call_tuple_of) sim_tuple.c hg hm PyProof.Rows.boot_tuple ja (he := he) (hpl := hpl)
theorem j_all (hc : X.calm = true) (hm : M.mg "all" = none) (ja : JA M X (e :: es) w) (hg : Gl X "all" := by rfl) (he : HE X e es := by rfl) (hpl : HP X pos es := by rfl) : J M X (.Call (.Name "all" p) (e :: es) [] pos) (wCB (f1 (fOfL blsD fun l => .bl (l.all id))) w) := j_callB (fun hM => by rw [← hM.K]; exact cr_all hc) sim_all.c hg hm boot_all ja (he := he) (hpl := hpl)
theorem j_any (hc : X.calm = true) (hm : M.mg "any" = none) (ja : JA M X (e :: es) w) (hg : Gl X "any" := by rfl) (he : HE X e es := by rfl) (hpl : HP X pos es := by rfl) : J M X (.Call (.Name "any" p) (e :: es) [] pos) (wCB (f1 (fOfL blsD fun l => .bl (l.any id))) w) := j_callB (fun hM => by rw [← hM.K]; exact cr_any hc) sim_any.c hg hm boot_any ja (he := he) (hpl := hpl)
theorem j_sum (hc : X.calm = true) (hm : M.mg "sum" = none) (ja : JA M X (e :: es) w) (hg : Gl X "sum" := by rfl) (he : HE X e es := by rfl) (hpl : HP X pos es := by rfl) : J M X (.Call (.Name "sum" p) (e :: es) [] pos) (wCB (f1 (fOfL intsD fun l => .int l.sum)) w) := j_callB (fun hM => by rw [← hM.K]; exact cr_sum hc) sim_sum.c hg hm boot_sum ja (he := he) (hpl := hpl)
theorem j_max2 (hc : X.calm = true) (hm : M.mg "max" = none) (ja : JA M X (e :: es) w) (hg : Gl X "max" := by rfl) (he : HE X e es := by rfl) (hpl : HP X pos es := by rfl) : J M X (.Call (.Name "max" p) (e :: es) [] pos) (wCB fMax2 w) := j_callB (fun hM => call_max2 hc) sim_max2 hg hm boot_max ja (he := he) (hpl := hpl)
theorem j_min2 (hc : X.calm = true) (hm : M.mg "min" = none) (ja : JA M X (e :: es) w) (hg : Gl X "min" := by rfl) (he : HE X e es := by rfl) (hpl : HP X pos es := by rfl) : J M X (.Call (.Name "min" p) (e :: es) [] pos) (wCB fMin2 w) := j_callB (fun hM => call_min2 hc) sim_min2 hg hm boot_min ja (he := he) (hpl := hpl)
theorem j_sorted (hm : M.mg "sorted" = none) (ja : JA M X (e :: es) w) (hg : Gl X "sorted" := by rfl) (he : HE X e es := by rfl) (hpl : HP X pos es := by rfl) : J M X (.Call (.Name "sorted" p) (e :: es) [] pos) (wCB (f1 fSorted) w) := j_callB (fun hM => by rw [← hM.K]; exact cr_sortedS) sim_sorted.c hg hm PyProof.Rows.boot_sorted ja (he := he) (hpl := hpl)
end
/-! ### isinstance -/
def isA (T : String) : Da → Bool
  | .bl _ => T == "bool" || T == "int"
  | .int _ => T == "int"
  | .str _ => T == "str"
  | .lst _ => T == "list"
  | .scr _ => T == "list"
  | .tup _ => T == "tuple"
  | _ => false
def isOk : Da → Bool
  | .non | .bl _ | .int _ | .str _ | .lst _ | .scr _ | .tup _ => true
  | _ => false
def Kinds : List String := ["bool", "int", "str", "list", "tuple"]
def tyD : Da → String
  | .non => "NoneType" | .bl _ => "bool" | .int _ => "int" | .str _ => "str" | .lst _ => "list" | .scr _ => "list" | .tup _ => "tuple" | _ => ""
theorem dx_ty {v : V} {d : Da} (h : Dx M H v d) (k : isOk d = true) : TyX M.K H v (.type (tyD d)) := by
  cases h with
  | non => exact .base .non
  | bl b => exact .base (.bl b)
  | int i => exact .base (.int i)
  | str x => exact .base (.str _)
  | lst h _ => exact sqL_ty (SqL.of h)
  | scr h _ => exact sqL_ty h
  | tup h _ => exact sqT_ty h
  | _ => cases k
theorem kit_isA {T : String} (h : T ∈ Kinds) {d : Da} (k : isOk d = true) : kitB (tyD d) T = some (isA T d) := by
  cases d with
  | non => exact (by decide +kernel : ∀ T ∈ Kinds, kitB "NoneType" T = some false) T h
  | bl b => exact (by decide +kernel : ∀ T ∈ Kinds, kitB "bool" T = some (T == "bool" || T == "int")) T h
  | int b => exact (by decide +kernel : ∀ T ∈ Kinds, kitB "int" T = some (T == "int")) T h
  | str b => exact (by decide +kernel : ∀ T ∈ Kinds, kitB "str" T = some (T == "str")) T h
  | lst b => exact (by decide +kernel : ∀ T ∈ Kinds, kitB "list" T = some (T == "list")) T h
  | scr b => exact (by decide +kernel : ∀ T ∈ Kinds, kitB "list" T = some (T == "list")) T h
  | tup b => exact (by decide +kernel : ∀ T ∈ Kinds, kitB "tuple" T = some (T == "tuple")) T h
  | _ => cases k
def wIsi (Ts : List String) (w : WE) : WE := fun s => (w s).bind fun p => match dv p.2 p.1 with
  | some d => if isOk d = true then some (.d (.bl (Ts.any fun T => isA T d)), p.2) else none
  | none => none
theorem j_isi {T : String} {x : Str} {e : Expr} {p p2 pos : Pos} {w : WE} (hm : M.mg "isinstance" = none) (hmT : M.mg x = none) (hT : T ∈ Kinds) (hb : bootBuiltins x = some (.type T)) (j : J M X e w) (hg : Gl X "isinstance" := by rfl) (hgx : Gl X x := by rfl)
    (hn : x ≠ "__name__" := by decide) (hd : (x == ("__debug__" : Str)) = false := by decide) (he1 : starEach [e, .Name x p2] X.env = (false, eval e X.env) :: starEach [.Name x p2] X.env := by rfl) : J M X (.Call (.Name "isinstance" p) [e, .Name x p2] [] pos) (wIsi [T] w) := fun hM => by
  refine pe_mono (pe_callB call_isi hg (by rw [hM.mg]; exact hm) boot_isinstance (pa_cons (j hM) (pa_cons (pe_bltn (v := .ty T) hgx (by rw [hM.mg]; exact hmT) hb rfl hn hd) pa_nil rfl) he1) (he := he1)) fun σ H Q ⟨D, s, fp, e, r, s', hw, q⟩ => ?_
  simp only [wIsi, Option.bind_eq_some_iff] at hw
  obtain ⟨⟨r1, s1⟩, h1, h2⟩ := hw
  refine ⟨D, s, fp, e, r1, s1, h1, fun v H1 D1 fp1 f1 a1 v1 => ?_⟩
  simp only at h2
  split at h2
  · rename_i d hd
    split at h2
    · rename_i ok
      cases h2
      have hx := dv_ok a1.e v1.v hd
      refine ⟨v, .ty T, _, _, isA T d, rfl, .ty _, by rw [hM.K]; exact dx_ty hx ok, kit_ty (kit_isA hT ok), q _ _ _ _ [] a1 (.d ?_)⟩
      simp only [List.any_cons, List.any_nil, Bool.or_false]
      exact .bl _
    · cases h2
  · cases h2
theorem j_isi2 {T U : String} {x y : Str} {e : Expr} {p p2 p3 p4 pos : Pos} {k : Nat} {w : WE} (hm : M.mg "isinstance" = none) (hmT : M.mg x = none) (hmU : M.mg y = none) (hT : T ∈ Kinds) (hU : U ∈ Kinds) (hb : bootBuiltins x = some (.type T)) (hb2 : bootBuiltins y = some (.type U)) (j : J M X e w) (hg : Gl X "isinstance" := by rfl) (hgx : Gl X x := by rfl) (hgy : Gl X y := by rfl)
    (hn : x ≠ "__name__" := by decide) (hd : (x == ("__debug__" : Str)) = false := by decide) (hn2 : y ≠ "__name__" := by decide) (hd2 : (y == ("__debug__" : Str)) = false := by decide) (he1 : starEach [e, .Tuple [.Name x p2, .Name y p3] k p4] X.env = (false, eval e X.env) :: starEach [.Tuple [.Name x p2, .Name y p3] k p4] X.env := by rfl) : J M X (.Call (.Name "isinstance" p) [e, .Tuple [.Name x p2, .Name y p3] k p4] [] pos) (wIsi [T, U] w) := fun hM => by
  refine pe_mono (pe_callB call_isiT hg (by rw [hM.mg]; exact hm) boot_isinstance (pa_cons (j hM) (pa_cons (pe_tupU (pa_cons (pe_bltn (v := .ty T) hgx (by rw [hM.mg]; exact hmT) hb rfl hn hd) (pa_cons (pe_bltn (v := .ty U) hgy (by rw [hM.mg]; exact hmU) hb2 rfl hn2 hd2) pa_nil rfl) rfl)) pa_nil rfl) he1) (he := he1)) fun σ H Q ⟨D, s, fp, e, r, s', hw, q⟩ => ?_
  simp only [wIsi, Option.bind_eq_some_iff] at hw
  obtain ⟨⟨r1, s1⟩, h1, h2⟩ := hw
  refine ⟨D, s, fp, e, r1, s1, h1, fun v H1 D1 fp1 f1 a1 v1 => ?_⟩
  simp only at h2
  split at h2
  · rename_i d hd
    split at h2
    · rename_i ok
      cases h2
      refine ⟨show 2 ≤ 100000 by decide, fun tp H2 np sm hp => ?_⟩
      have hx := dx_mono sm (dv_ok a1.e v1.v hd)
      obtain ⟨e2, st2⟩ := a1.e.hide sm
      refine ⟨v, tp, _, _, [.type T, .type U], _, rfl, hp, .cons (.ty _) (.cons (.ty _) .nil), by rw [hM.K]; exact dx_ty hx ok, any2 (kit_isA hT ok) (kit_isA hU ok), q _ _ _ _ [] (a1.trans ⟨e2, st2, Kin.refl _⟩) (.d ?_)⟩
      simp only [List.any_cons, List.any_nil, Bool.or_false]
      exact .bl _
    · cases h2
  · cases h2
end
end Tw

/-! statements -/
namespace Tw
open PySem PySem.Spec PyProof.Rows L2
inductive Fl where
  | nx
  | bk
  | ct
  | rt (r : RV)
abbrev WS := S → Option (Fl × S)
/-- behind a statement: slots off T stand -/
structure AftS (M : Md) (σ : L2.St) (H D : Hp) (s : S) (fp : Nat → List Addr) (T : List Nat) (σ' : L2.St) (H' D' : Hp) (s' : S) (fp' : Nat → List Addr) : Prop where
  e : EnvR M σ' H' D' s' fp'
  st : Step H D s fp H' D' s' fp'
  len : s'.length = s.length
  off : ∀ i, i ∉ T → σ'[i]? = σ[i]?
section
variable {M : Md} {X : Cx} {σ σ' : L2.St} {H D H' D' : Hp} {s s' : S} {fp fp' : Nat → List Addr}
theorem Aft.toS (a : Aft M σ H D s fp H' D' s' fp') : AftS M σ H D s fp [] σ H' D' s' fp' := ⟨a.e, a.st, a.k.1, fun _ _ => rfl⟩
theorem AftS.trans {σ2 : L2.St} {H2 D2 : Hp} {s2 : S} {f2 : Nat → List Addr} {T U : List Nat} (a : AftS M σ H D s fp T σ' H' D' s' fp') (b : AftS M σ' H' D' s' fp' U σ2 H2 D2 s2 f2) : AftS M σ H D s fp (T ++ U) σ2 H2 D2 s2 f2 :=
  ⟨b.e, a.st.trans b.st, b.len.trans a.len, fun i hi => (b.off i fun z => hi (List.mem_append_right _ z)).trans (a.off i fun z => hi (List.mem_append_left _ z))⟩
theorem AftS.mem {T U : List Nat} (a : AftS M σ H D s fp T σ' H' D' s' fp') (h : ∀ i ∈ T, i ∈ U) : AftS M σ H D s fp U σ' H' D' s' fp' := ⟨a.e, a.st, a.len, fun i hi => a.off i fun z => hi (h i z)⟩
theorem aftS_refl (e : EnvR M σ H D s fp) {T : List Nat} : AftS M σ H D s fp T σ H D s fp := ⟨e, Step.refl _ _ _ _, rfl, fun _ _ => rfl⟩
def endW (E : Ends) (M : Md) (σ : L2.St) (H0 : Hp) (s0 : S) (fp0 : Nat → List Addr) (H D : Hp) (s : S) (fp : Nat → List Addr) : Fl → Prop
  | .nx => E.nx σ H
  | .bk => E.bk σ H
  | .ct => E.ct σ H
  | .rt r => ∀ v f, Val M σ H0 s0 fp0 H D s fp v r f → E.rt v H
def tWS (M : Md) (w : WS) (T : List Nat) : TS := fun E σ H => ∃ D s fp, EnvR M σ H D s fp ∧ ∃ fl s', w s = some (fl, s') ∧ ∀ σ' H' D' fp', AftS M σ H D s fp T σ' H' D' s' fp' → endW E M σ' H s fp H' D' s' fp' fl
def JS (M : Md) (X : Cx) (st : Stmt) (w : WS) (T : List Nat) : Prop := M.at X → PS X st (tWS M w T)
def JSs (M : Md) (X : Cx) (st : List Stmt) (w : WS) (T : List Nat) : Prop := M.at X → PSs X st (tWS M w T)
theorem ps_mono {st : Stmt} {t u : TS} (h : PS X st t) (k : ∀ E σ H, u E σ H → t E σ H) : PS X st u := ⟨fun pins s σ H E I q => h.run pins s σ H E I (k E σ H q)⟩
theorem pss_mono {st : List Stmt} {t u : TS} (h : PSs X st t) (k : ∀ E σ H, u E σ H → t E σ H) : PSs X st u := ⟨fun pins s σ H E I q => h.run pins s σ H E I (k E σ H q)⟩
theorem endW_back {E : Ends} {σ2 : L2.St} {H2 D2 : Hp} {s2 : S} {f2 : Nat → List Addr} {fl : Fl} (b : Step H D s fp H' D' s' fp') (h : endW E M σ2 H s fp H2 D2 s2 f2 fl) : endW E M σ2 H' s' fp' H2 D2 s2 f2 fl := by
  cases fl with
  | rt r => exact fun v f hv => h v f (hv.back b)
  | _ => exact h
/-! ### rows of statements -/
def wNext : WS := fun s => some (.nx, s)
def wSeq (w u : WS) : WS := fun s => (w s).bind fun p => match p.1 with
  | .nx => u p.2
  | fl => some (fl, p.2)
theorem js_nil : JSs M X [] wNext [] := fun _ => pss_mono pss_nil fun E σ H ⟨D, s, fp, e, r, s', hw, q⟩ => by
  cases hw
  exact q _ _ _ _ (aftS_refl e)
theorem js_one {st : Stmt} {w : WS} {T : List Nat} (h : JS M X st w T) : JSs M X [st] w T := fun hM => pss_one (h hM)
theorem js_cons {st : Stmt} {rest : List Stmt} {w u : WS} {T U : List Nat} (h : JS M X st w T) (k : JSs M X rest u U) : JSs M X (st :: rest) (wSeq w u) (T ++ U) := fun hM => pss_mono (pss_cons (h hM) (k hM)) fun E σ H ⟨D, s, fp, e, r, s', hw, q⟩ => by
  simp only [wSeq, Option.bind_eq_some_iff] at hw
  obtain ⟨⟨fl, s1⟩, h1, h2⟩ := hw
  refine ⟨D, s, fp, e, fl, s1, h1, fun σ1 H1 D1 fp1 a1 => ?_⟩
  simp only at h2
  split at h2
  · exact ⟨D1, s1, fp1, a1.e, r, s', h2, fun σ2 H2 D2 fp2 a2 => endW_back a1.st (q _ _ _ _ (a1.trans a2))⟩
  · cases h2
    have := q _ _ _ _ (a1.mem fun i hi => List.mem_append_left _ hi)
    rename_i hn
    cases r with
    | nx => exact (hn rfl).elim
    | _ => exact this
def wDrop (w : WE) : WS := fun s => (w s).bind fun p => some (.nx, p.2)
def wRet (w : WE) : WS := fun s => (w s).bind fun p => some (.rt p.1, p.2)
def wRetN : WS := fun s => some (.rt (.d .non), s)
def wBk : WS := fun s => some (.bk, s)
def wCt : WS := fun s => some (.ct, s)
def wIf (c : WT) (w u : WS) : WS := fun s => (c s).bind fun p => if p.1 then w p.2 else u p.2
section
variable {e : Expr} {pos : Pos} {w u : WE}
theorem js_expr (h : J M X e w) (hs : swapsWith e none pos.line X.env = pure false := by rfl) : JS M X (.Expr e pos) (wDrop w) [] := fun hM => ps_mono (ps_expr (h hM) hs) fun E σ H ⟨D, s, fp, e, r, s', hw, q⟩ => by
  simp only [wDrop, Option.bind_eq_some_iff, Option.some.injEq, Prod.mk.injEq] at hw
  obtain ⟨⟨r1, s1⟩, h1, rfl, rfl⟩ := hw
  exact ⟨D, s, fp, e, r1, s1, h1, fun v H1 D1 fp1 f1 a1 v1 => q _ _ _ _ a1.toS⟩
theorem js_ret (h : J M X e w) : JS M X (.Return (some e) pos) (wRet w) [] := fun hM => ps_mono (ps_ret (h hM)) fun E σ H ⟨D, s, fp, e, r, s', hw, q⟩ => by
  simp only [wRet, Option.bind_eq_some_iff, Option.some.injEq, Prod.mk.injEq] at hw
  obtain ⟨⟨r1, s1⟩, h1, rfl, rfl⟩ := hw
  exact ⟨D, s, fp, e, r1, s1, h1, fun v H1 D1 fp1 f1 a1 v1 => q _ _ _ _ a1.toS v f1 v1⟩
theorem js_retN : JS M X (.Return none pos) wRetN [] := fun hM => ps_mono ps_retN fun E σ H ⟨D, s, fp, e, r, s', hw, q⟩ => by
  cases hw
  exact q _ _ _ _ (aftS_refl e) _ _ (.d .non)
theorem js_pass : JS M X (.Pass pos) wNext [] := fun hM => ps_mono ps_pass fun E σ H ⟨D, s, fp, e, r, s', hw, q⟩ => by
  cases hw
  exact q _ _ _ _ (aftS_refl e)
theorem js_break : JS M X (.Break pos) wBk [] := fun hM => ps_mono ps_break fun E σ H ⟨D, s, fp, e, r, s', hw, q⟩ => by
  cases hw
  exact q _ _ _ _ (aftS_refl e)
theorem js_continue : JS M X (.Continue pos) wCt [] := fun hM => ps_mono ps_continue fun E σ H ⟨D, s, fp, e, r, s', hw, q⟩ => by
  cases hw
  exact q _ _ _ _ (aftS_refl e)
theorem js_if {c : Expr} {a b : List Stmt} {wc : WT} {wa wb : WS} {T U : List Nat} (hc : JT M X c wc) (ha : JSs M X a wa T) (hb : JSs M X b wb U) : JS M X (.If c a b pos) (wIf wc wa wb) (T ++ U) := fun hM => ps_mono (ps_if (hc hM) (ha hM) (hb hM)) fun E σ H ⟨D, s, fp, e, r, s', hw, q⟩ => by
  simp only [wIf, Option.bind_eq_some_iff] at hw
  obtain ⟨⟨r1, s1⟩, h1, h2⟩ := hw
  refine ⟨D, s, fp, e, r1, s1, h1, fun H1 D1 fp1 a1 => ?_⟩
  cases r1 with
  | true => exact ⟨D1, s1, fp1, a1.e, r, s', h2, fun σ2 H2 D2 fp2 a2 => endW_back a1.st (q _ _ _ _ ((a1.toS.trans a2).mem fun i hi => List.mem_append_left _ hi))⟩
  | false => exact ⟨D1, s1, fp1, a1.e, r, s', h2, fun σ2 H2 D2 fp2 a2 => endW_back a1.st (q _ _ _ _ ((a1.toS.trans a2).mem fun i hi => List.mem_append_right _ hi))⟩
end
/-! ### slots -/
theorem EnvR.bindD (e : EnvR M σ H D s fp) {v : V} {d : Da} (h : Dx M D v d) (i : Nat) : EnvR M (σ.set i (some v)) H D (s.set i (.dat d)) fp := by
  refine ⟨e.sub, by rw [List.length_set, List.length_set]; exact e.len, fun j c hj => ?_, fun j c hj => ?_, fun j k c c' hj hk => ?_⟩
  · rcases set_get hj with ⟨rfl, q⟩ | ⟨ne, q⟩
    · cases q
      have hl := (List.getElem?_eq_some_iff.mp hj).1
      rw [List.length_set, e.len] at hl
      exact ⟨v, by rw [List.getElem?_set, if_pos rfl, if_pos hl], h⟩
    · obtain ⟨u, a, b⟩ := e.dt j c q
      exact ⟨u, by rw [List.getElem?_set, if_neg ne]; exact a, b⟩
  · rcases set_get hj with ⟨_, q⟩ | ⟨ne, q⟩
    · cases q
    · obtain ⟨u, a, b⟩ := e.ow j c q
      exact ⟨u, by rw [List.getElem?_set, if_neg ne]; exact a, b⟩
  · rcases set_get hj with ⟨_, q⟩ | ⟨_, hj⟩
    · cases q
    · rcases set_get hk with ⟨_, q⟩ | ⟨_, hk⟩
      · cases q
      · exact e.dj j k c c' hj hk
theorem EnvR.bindN (e : EnvR M σ H D s fp) {v : V} {d : Da} {f : List Addr} (h : OwR M H D v d f) (hf : Free D s fp f) (i : Nat) : EnvR M (σ.set i (some v)) H D (s.set i (.own d)) (fun j => if j = i then f else fp j) := by
  refine ⟨e.sub, by rw [List.length_set, List.length_set]; exact e.len, fun j c hj => ?_, fun j c hj => ?_, fun j k c c' hj hk hjk a ha ha' => ?_⟩
  · rcases set_get hj with ⟨_, q⟩ | ⟨ne, q⟩
    · cases q
    · obtain ⟨u, a, b⟩ := e.dt j c q
      exact ⟨u, by rw [List.getElem?_set, if_neg ne]; exact a, b⟩
  · rcases set_get hj with ⟨rfl, q⟩ | ⟨ne, q⟩
    · cases q
      have hl := (List.getElem?_eq_some_iff.mp hj).1
      rw [List.length_set, e.len] at hl
      exact ⟨v, by rw [List.getElem?_set, if_pos rfl, if_pos hl], by rw [if_pos rfl]; exact h, fun a ha => (hf a (by rw [if_pos rfl] at ha; exact ha)).1⟩
    · obtain ⟨u, a, b⟩ := e.ow j c q
      exact ⟨u, by rw [List.getElem?_set, if_neg ne]; exact a, by rw [if_neg (fun z => ne z.symm)]; exact b⟩
  · rcases set_get hj with ⟨rfl, _⟩ | ⟨ne, hj⟩
    · rcases set_get hk with ⟨rfl, _⟩ | ⟨ne', hk⟩
      · exact hjk rfl
      · rw [if_pos rfl] at ha
        rw [if_neg (fun z => ne' z.symm)] at ha'
        exact (hf a ha).2 ⟨k, c', hk, ha'⟩
    · rw [if_neg (fun z => ne z.symm)] at ha
      rcases set_get hk with ⟨rfl, _⟩ | ⟨ne', hk⟩
      · rw [if_pos rfl] at ha'
        exact (hf a ha').2 ⟨j, c, hj, ha⟩
      · rw [if_neg (fun z => ne' z.symm)] at ha'
        exact e.dj j k c c' hj hk hjk a ha ha'
theorem own_bindN {i : Nat} {d : Da} {f : List Addr} {a : Addr} (h : Own (s.set i (.own d)) (fun j => if j = i then f else fp j) a) : Own s fp a ∨ a ∈ f := by
  obtain ⟨j, c, hj, ha⟩ := h
  rcases set_get hj with ⟨rfl, _⟩ | ⟨ne, hj⟩
  · simp only [if_pos] at ha
    exact .inr ha
  · have ha : a ∈ (if j = i then f else fp j) := ha
    rw [if_neg (fun z => ne z.symm)] at ha
    exact .inl ⟨j, c, hj, ha⟩
section
variable {σ0 : L2.St} {H0 D0 : Hp} {s0 : S} {fp0 : Nat → List Addr} {T : List Nat}
theorem AftS.bindD (a : AftS M σ0 H0 D0 s0 fp0 T σ H D s fp) {v : V} {d : Da} (h : Dx M D v d) (i : Nat) : AftS M σ0 H0 D0 s0 fp0 (T ++ [i]) (σ.set i (some v)) H D (s.set i (.dat d)) fp :=
  ⟨a.e.bindD h i, ⟨a.st.dd, a.st.kp, fun x hx => a.st.nw x (own_set_dat hx), a.st.nd, a.st.tr⟩, by rw [List.length_set]; exact a.len, fun j hj => by
    rw [List.getElem?_set, if_neg (fun z => hj (by rw [← z]; simp))]
    exact a.off j fun z => hj (List.mem_append_left _ z)⟩
theorem AftS.bindN (a : AftS M σ0 H0 D0 s0 fp0 T σ H D s fp) {v : V} {d : Da} {f : List Addr} (h : OwR M H D v d f) (hf : Free D s fp f) (hn : Nu H0 s0 fp0 f) (i : Nat) : AftS M σ0 H0 D0 s0 fp0 (T ++ [i]) (σ.set i (some v)) H D (s.set i (.own d)) (fun j => if j = i then f else fp j) :=
  ⟨a.e.bindN h hf i, ⟨a.st.dd, a.st.kp, fun x hx => (own_bindN hx).elim (a.st.nw x) (hn x), a.st.nd, a.st.tr⟩, by rw [List.length_set]; exact a.len, fun j hj => by
    rw [List.getElem?_set, if_neg (fun z => hj (by rw [← z]; simp))]
    exact a.off j fun z => hj (List.mem_append_left _ z)⟩
theorem AftS.put {f : List Addr} (a : AftS M σ0 H0 D0 s0 fp0 T σ H D s fp) (p : Put M σ H D s fp f D' s') (n : Nu H0 s0 fp0 f) : AftS M σ0 H0 D0 s0 fp0 T σ H D' s' fp := by
  refine ⟨p.e, ⟨same_trans a.st.dd p.dd, a.st.kp, fun x h => a.st.nw x (p.nw x h), fun x h => ?_, a.st.tr⟩, p.k.1.trans a.len, a.off⟩
  rcases p.nd x h with q | q | q
  · exact a.st.nd x q
  · exact .inr (a.st.nw x q)
  · exact .inr (n x q)
end
/-! ### targets -/
structure StepF (f : List Addr) (H D : Hp) (s : S) (fp : Nat → List Addr) (H' D' : Hp) (s' : S) (fp' : Nat → List Addr) : Prop where
  dd : Same D D'
  kp : ∀ a o, H a = some o → ¬ Own s fp a → a ∉ f → H' a = some o
  nw : ∀ a, Own s' fp' a → Own s fp a ∨ a ∈ f ∨ H a = none
  nd : ∀ a, D' a ≠ none → D a ≠ none ∨ Own s fp a ∨ a ∈ f ∨ H a = none
  tr : ∀ a, H a ≠ none → H' a ≠ none
/-- a slot keeps its kind, but what is its own may become data -/
def KinAt (s s' : S) (i : Nat) : Prop := (∀ d, s[i]? = some (SV.own d) → (∃ e, s'[i]? = some (SV.own e)) ∨ ∃ e, s'[i]? = some (SV.dat e)) ∧ (∀ d, s[i]? = some (SV.dat d) → s'[i]? = some (SV.dat d)) ∧ (s[i]? = some SV.un → s'[i]? = some SV.un)
theorem KinAt.refl (s : S) (i : Nat) : KinAt s s i := (Kin.refl s).2 i
theorem KinAt.trans {a b c : S} {i : Nat} (h : KinAt a b i) (k : KinAt b c i) : KinAt a c i := by
  refine ⟨fun d e => ?_, fun d e => k.2.1 d (h.2.1 d e), fun e => k.2.2 (h.2.2 e)⟩
  rcases h.1 d e with ⟨x, e⟩ | ⟨x, e⟩
  · exact k.1 x e
  · exact .inr ⟨x, k.2.1 _ e⟩
theorem KinAt.set {s : S} {i j : Nat} {x : SV} (h : j ≠ i) : KinAt s (s.set i x) j := by
  have e : (s.set i x)[j]? = s[j]? := by rw [List.getElem?_set, if_neg (fun z => h z.symm)]
  rw [KinAt, e]
  exact KinAt.refl s j
/-- behind a store of a value whose own new parts lie at f -/
structure AftG (M : Md) (σ : L2.St) (H D : Hp) (s : S) (fp : Nat → List Addr) (f : List Addr) (T : List Nat) (σ' : L2.St) (H' D' : Hp) (s' : S) (fp' : Nat → List Addr) : Prop where
  e : EnvR M σ' H' D' s' fp'
  st : StepF f H D s fp H' D' s' fp'
  len : s'.length = s.length
  off : ∀ i, i ∉ T → σ'[i]? = σ[i]?
  kn : ∀ i, i ∉ T → KinAt s s' i
section
variable {σ0 σ2 : L2.St} {H0 D0 H2 D2 : Hp} {s0 s2 : S} {fp0 f2 : Nat → List Addr} {T U : List Nat} {f g : List Addr}
theorem StepF.trans (a : StepF f H D s fp H' D' s' fp') (b : StepF g H' D' s' fp' H2 D2 s2 f2) : StepF (f ++ g) H D s fp H2 D2 s2 f2 where
  dd := same_trans a.dd b.dd
  kp := fun x o h n hx => by
    refine b.kp x o (a.kp x o h n fun z => hx (List.mem_append_left _ z)) (fun z => ?_) fun z => hx (List.mem_append_right _ z)
    rcases a.nw x z with q | q | q
    · exact n q
    · exact hx (List.mem_append_left _ q)
    · rw [h] at q
      cases q
  nw := fun x h => by
    rcases b.nw x h with q | q | q
    · exact (a.nw x q).imp id fun q => q.imp (List.mem_append_left _) id
    · exact .inr (.inl (List.mem_append_right _ q))
    · exact .inr (.inr (Classical.byContradiction fun z => a.tr x z q))
  nd := fun x h => by
    rcases b.nd x h with q | q | q | q
    · exact (a.nd x q).imp id fun q => q.imp id fun q => q.imp (List.mem_append_left _) id
    · exact .inr ((a.nw x q).imp id fun q => q.imp (List.mem_append_left _) id)
    · exact .inr (.inr (.inl (List.mem_append_right _ q)))
    · exact .inr (.inr (.inr (Classical.byContradiction fun z => a.tr x z q)))
  tr := fun x h => b.tr x (a.tr x h)
theorem Step.toF (a : Step H D s fp H' D' s' fp') : StepF [] H D s fp H' D' s' fp' := ⟨a.dd, fun x o h n _ => a.kp x o h n, fun x h => (a.nw x h).imp id .inr, fun x h => (a.nd x h).imp id fun q => q.imp id .inr, a.tr⟩
theorem AftG.trans (a : AftG M σ H D s fp f T σ' H' D' s' fp') (b : AftG M σ' H' D' s' fp' g U σ2 H2 D2 s2 f2) : AftG M σ H D s fp (f ++ g) (T ++ U) σ2 H2 D2 s2 f2 :=
  ⟨b.e, a.st.trans b.st, b.len.trans a.len, fun i hi => (b.off i fun z => hi (List.mem_append_right _ z)).trans (a.off i fun z => hi (List.mem_append_left _ z)), fun i hi => (a.kn i fun z => hi (List.mem_append_left _ z)).trans (b.kn i fun z => hi (List.mem_append_right _ z))⟩
theorem aftG_refl (e : EnvR M σ H D s fp) : AftG M σ H D s fp f T σ H D s fp := ⟨e, ⟨Same.refl _, fun _ _ h _ _ => h, fun _ h => .inl h, fun _ h => .inl h, fun _ h => h⟩, rfl, fun _ _ => rfl, fun i _ => KinAt.refl s i⟩
theorem Aft.toG (a : Aft M σ H D s fp H' D' s' fp') : AftG M σ H D s fp [] [] σ H' D' s' fp' := ⟨a.e, a.st.toF, a.k.1, fun _ _ => rfl, fun i _ => a.k.2 i⟩
theorem AftG.mem (a : AftG M σ H D s fp f T σ' H' D' s' fp') (h : ∀ i ∈ T, i ∈ U) (k : ∀ x ∈ f, x ∈ g) : AftG M σ H D s fp g U σ' H' D' s' fp' :=
  ⟨a.e, ⟨a.st.dd, fun x o h n z => a.st.kp x o h n fun q => z (k x q), fun x h => (a.st.nw x h).imp id fun q => q.imp (k x) id, fun x h => (a.st.nd x h).imp id fun q => q.imp id fun q => q.imp (k x) id, a.st.tr⟩, a.len, fun i hi => a.off i fun z => hi (h i z), fun i hi => a.kn i fun z => hi (h i z)⟩
/-- a store behind a piece of a run -/
theorem AftS.store (a : AftS M σ0 H0 D0 s0 fp0 T σ H D s fp) (n : Nu H0 s0 fp0 f) (b : AftG M σ H D s fp f U σ' H' D' s' fp') : AftS M σ0 H0 D0 s0 fp0 (T ++ U) σ' H' D' s' fp' := by
  refine ⟨b.e, ⟨same_trans a.st.dd b.st.dd, fun x o h nn => ?_, fun x h => ?_, fun x h => ?_, fun x h => b.st.tr x (a.st.tr x h)⟩, b.len.trans a.len, fun i hi => (b.off i fun z => hi (List.mem_append_right _ z)).trans (a.off i fun z => hi (List.mem_append_left _ z))⟩
  · refine b.st.kp x o (a.st.kp x o h nn) (fun z => ?_) fun z => ?_
    · exact (a.st.nw x z).elim nn fun q => by rw [h] at q; cases q
    · exact (n x z).elim nn fun q => by rw [h] at q; cases q
  · rcases b.st.nw x h with q | q | q
    · exact a.st.nw x q
    · exact n x q
    · exact .inr (Classical.byContradiction fun z => a.st.tr x z q)
  · rcases b.st.nd x h with q | q | q | q
    · exact a.st.nd x q
    · exact .inr (a.st.nw x q)
    · exact .inr (n x q)
    · exact .inr (.inr (Classical.byContradiction fun z => a.st.tr x z q))
theorem Put.toG (p : Put M σ H D s fp f D' s') : AftG M σ H D s fp f [] σ H D' s' fp := ⟨p.e, ⟨p.dd, fun _ _ h _ _ => h, fun x h => .inl (p.nw x h), fun x h => (p.nd x h).imp id fun q => q.imp id .inl, fun _ h => h⟩, p.k.1, fun _ _ => rfl, fun i _ => p.k.2 i⟩
theorem EnvR.gD (e : EnvR M σ H D s fp) {v : V} {d : Da} (h : Dx M D v d) (i : Nat) : AftG M σ H D s fp [] [i] (σ.set i (some v)) H D (s.set i (.dat d)) fp :=
  ⟨e.bindD h i, ⟨Same.refl _, fun _ _ h _ _ => h, fun x hx => .inl (own_set_dat hx), fun _ h => .inl h, fun _ h => h⟩, by rw [List.length_set], fun j hj => by rw [List.getElem?_set, if_neg (fun z => hj (by rw [← z]; simp))], fun j hj => KinAt.set fun z => hj (by rw [z]; simp)⟩
theorem EnvR.gN (e : EnvR M σ H D s fp) {v : V} {d : Da} (h : OwR M H D v d f) (hf : Free D s fp f) (i : Nat) : AftG M σ H D s fp f [i] (σ.set i (some v)) H D (s.set i (.own d)) (fun j => if j = i then f else fp j) :=
  ⟨e.bindN h hf i, ⟨Same.refl _, fun _ _ h _ _ => h, fun x hx => (own_bindN hx).imp id .inl, fun _ h => .inl h, fun _ h => h⟩, by rw [List.length_set], fun j hj => by rw [List.getElem?_set, if_neg (fun z => hj (by rw [← z]; simp))], fun j hj => KinAt.set fun z => hj (by rw [z]; simp)⟩
end
/-- x = r -/
def bindV (i : Nat) (r : RV) (s : S) : Option S := match r with
  | .n d => some (s.set i (.own d))
  | r => (sto r s).bind fun q => some (q.2.set i (.dat q.1))
theorem EnvR.bindV (e : EnvR M σ H D s fp) {v : V} {r : RV} {f : List Addr} (h : VR M σ H D s v r f) (hf : Free D s fp f) {i : Nat} (hb : Tw.bindV i r s = some s') : ∃ D' fp', AftG M σ H D s fp f [i] (σ.set i (some v)) H D' s' fp' := by
  unfold Tw.bindV at hb
  split at hb
  · cases hb
    cases h with
    | n h => exact ⟨_, _, e.gN h hf i⟩
  · simp only [Option.bind_eq_some_iff, Option.some.injEq] at hb
    obtain ⟨⟨d, s1⟩, h1, rfl⟩ := hb
    obtain ⟨D1, p1, x1⟩ := sto_ok h e (fun a ha => (hf a ha).2) h1
    exact ⟨_, _, (p1.toG.trans (p1.e.gD x1 i)).mem (fun _ h => by simpa using h) fun _ h => by simpa using h⟩
abbrev WG := RV → S → Option S
abbrev WGs := List RV → S → Option S
def tWG (M : Md) (w : WG) (T : List Nat) : TG := fun v σ H Q => ∃ D s fp r f, EnvR M σ H D s fp ∧ VR M σ H D s v r f ∧ Free D s fp f ∧ ∃ s', w r s = some s' ∧ ∀ σ' H' D' fp', AftG M σ H D s fp f T σ' H' D' s' fp' → Q σ' H'
def cn : RV → Bool
  | .d _ => true
  | .n _ => true
  | _ => false
def tWGs (M : Md) (w : WGs) (T : List Nat) : TGs := fun vs σ H Q => ∃ D s fp rs f, EnvR M σ H D s fp ∧ VRs M σ H D s vs rs f ∧ rs.all cn = true ∧ Free D s fp f ∧ ∃ s', w rs s = some s' ∧ ∀ σ' H' D' fp', AftG M σ H D s fp f T σ' H' D' s' fp' → Q σ' H'
def JG (M : Md) (X : Cx) (tg : Expr) (w : WG) (T : List Nat) : Prop := M.at X → PG X tg (tWG M w T)
def JGs (M : Md) (X : Cx) (tg : List Expr) (w : WGs) (T : List Nat) : Prop := M.at X → PGs X tg (tWGs M w T)
theorem pg_mono {tg : Expr} {t u : TG} (h : PG X tg t) (k : ∀ v σ H Q, u v σ H Q → t v σ H Q) : PG X tg u := ⟨fun pins s σ H v uu Q I r q => h.run pins s σ H v uu Q I r (k v σ H Q q)⟩
theorem pgs_mono {tg : List Expr} {t u : TGs} (h : PGs X tg t) (k : ∀ v σ H Q, u v σ H Q → t v σ H Q) : PGs X tg u := ⟨fun pins s σ H v uu Q I r q => h.run pins s σ H v uu Q I r (k v σ H Q q)⟩
theorem jg_name {i : Nat} {x : Str} {pos : Pos} (hN : X.N.Nodup) (hi : X.N[i]? = some x) (hx : Loc X.env.scope x) (hf : X.fn x = true ∨ X.env.scope.names.lookup x = some .local := by first | exact .inl rfl | exact .inr rfl | assumption) : JG M X (.Name x pos) (bindV i) [i] := fun _ => pg_mono (pg_name hN hi hx hf) fun v σ H Q ⟨D, s, fp, r, f, e, hv, hf, s', hw, q⟩ => by
  obtain ⟨D', fp', a⟩ := e.bindV hv hf hw
  exact q _ _ _ _ a
def wgNil : WGs := fun rs s => match rs with
  | [] => some s
  | _ => none
def wgCons (w : WG) (u : WGs) : WGs := fun rs s => match rs with
  | r :: rest => (w r s).bind fun s1 => u rest s1
  | [] => none
theorem jgs_nil : JGs M X [] wgNil [] := fun _ => pgs_mono pgs_nil fun v σ H Q ⟨D, s, fp, r, f, e, hv, hc, hf, s', hw, q⟩ => by
  unfold wgNil at hw
  split at hw
  · cases hw
    cases hv
    exact ⟨rfl, q _ _ _ _ (aftG_refl e)⟩
  · cases hw
theorem VRs.cn {f : List Addr} {g : List Addr} {T : List Nat} (a : AftG M σ H D s fp g T σ' H' D' s' fp') : ∀ {vs : List V} {rs : List RV} {f : List Addr}, VRs M σ H D s vs rs f → rs.all Tw.cn = true → Free D s fp f → (∀ x ∈ g, x ∉ f) → VRs M σ' H' D' s' vs rs f ∧ Free D' s' fp' f
  | _, _, _, .nil, _, _, _ => ⟨.nil, fun _ h => by simp at h⟩
  | _, _, _, .cons h r z, hc, hf, hg => by
    simp only [List.all_cons, Bool.and_eq_true] at hc
    obtain ⟨r', fr'⟩ := VRs.cn (f := f) a r hc.2 hf.right fun x h q => hg x h (List.mem_append_right _ q)
    have hh := h.here
    have hl := hf.left
    have fr1 : Free D' s' fp' _ := fun x hx => ⟨Classical.byContradiction fun z => by
      rcases a.st.nd x z with q | q | q | q
      · exact q (hl x hx).1
      · exact (hl x hx).2 q
      · exact hg x q (List.mem_append_left _ hx)
      · exact hh x hx q, fun z => by
      rcases a.st.nw x z with q | q | q
      · exact (hl x hx).2 q
      · exact hg x q (List.mem_append_left _ hx)
      · exact hh x hx q⟩
    refine ⟨.cons ?_ r' z, fr1.app fr'⟩
    cases h with
    | d h => exact .d (dx_mono a.st.dd h)
    | n h => exact .n (h.mono (fun x hx o q => a.st.kp x o q (hl x hx).2 fun z => hg x z (List.mem_append_left _ hx)) a.st.dd)
    | _ => cases hc.1
theorem jgs_cons {e : Expr} {es : List Expr} {w : WG} {u : WGs} {T U : List Nat} (h1 : JG M X e w T) (h2 : JGs M X es u U) (hs : (assignEach (e :: es) X.env).map (·.2) = assign e X.env :: (assignEach es X.env).map (·.2) := by rfl) : JGs M X (e :: es) (wgCons w u) (T ++ U) := fun hM => pgs_mono (pgs_cons (h1 hM) (h2 hM) hs) fun v σ H Q ⟨D, s, fp, r, f, e, hv, hc, hf, s', hw, q⟩ => by
  unfold wgCons at hw
  split at hw
  · simp only [Option.bind_eq_some_iff] at hw
    obtain ⟨s1, h1, h2⟩ := hw
    cases hv with
    | cons k1 k2 kz =>
      simp only [List.all_cons, Bool.and_eq_true] at hc
      refine ⟨_, _, rfl, D, s, fp, _, _, e, k1, hf.left, s1, h1, fun σ1 H1 D1 fp1 a1 => ?_⟩
      obtain ⟨k2', fr'⟩ := VRs.cn (f := []) a1 k2 hc.2 hf.right kz
      exact ⟨D1, s1, fp1, _, _, a1.e, k2', hc.2, fr', s', h2, fun σ2 H2 D2 fp2 a2 => q _ _ _ _ (a1.trans a2)⟩
  · cases hw
/-- things to be put into several names: what is a name's own is data from now on -/
def prep : List RV → S → Option (List RV × S)
  | [], s => some ([], s)
  | r :: rs, s => if cn r = true then (prep rs s).bind fun q => some (r :: q.1, q.2) else (sto r s).bind fun p => (prep rs p.2).bind fun q => some (.d p.1 :: q.1, q.2)
theorem prep_ok : ∀ {vs : List V} {rs : List RV} {f : List Addr} {D : Hp} {s s' : S} {rs' : List RV}, VRs M σ H D s vs rs f → EnvR M σ H D s fp → Free D s fp f → prep rs s = some (rs', s') → ∃ D' f', Put M σ H D s fp f D' s' ∧ VRs M σ H D' s' vs rs' f' ∧ rs'.all cn = true ∧ (∀ x ∈ f', x ∈ f) ∧ ∀ x ∈ f', D' x = none
  | _, _, _, D, s, s', _, .nil, e, _, q => by
    cases q
    exact ⟨D, [], put_refl e, .nil, rfl, fun _ h => h, fun _ h => by simp at h⟩
  | _, r :: rs, _, D, s, s', _, .cons h k z, e, hf, q => by
    unfold prep at q
    split at q
    · rename_i hc
      simp only [Option.bind_eq_some_iff, Option.some.injEq, Prod.mk.injEq] at q
      obtain ⟨⟨rs1, s1⟩, q1, rfl, rfl⟩ := q
      obtain ⟨D1, f1, p1, k1, c1, m1, n1⟩ := prep_ok k e hf.right q1
      have h' := h.monoD p1.dd p1.k
      refine ⟨D1, _, p1.mem fun x hx => List.mem_append_right _ hx, .cons h' k1 fun x hx hx' => z x hx (m1 x hx'), by simp [hc, c1], fun x hx => ?_, fun x hx => ?_⟩
      · rcases List.mem_append.mp hx with hx | hx
        · exact List.mem_append_left _ hx
        · exact List.mem_append_right _ (m1 x hx)
      · rcases List.mem_append.mp hx with hx | hx
        · refine Classical.byContradiction fun w => ?_
          rcases p1.nd x w with q | q | q
          · exact q (hf.left x hx).1
          · exact (hf.left x hx).2 q
          · exact z x hx q
        · exact n1 x hx
    · simp only [Option.bind_eq_some_iff, Option.some.injEq, Prod.mk.injEq] at q
      obtain ⟨⟨d1, s1⟩, q1, ⟨rs1, s2⟩, q2, rfl, rfl⟩ := q
      obtain ⟨D1, p1, x1⟩ := sto_ok h e (fun a ha => (hf.left a ha).2) q1
      have fr : Free D1 s1 fp _ := fun x hx => ⟨Classical.byContradiction fun w => by
        rcases p1.nd x w with q | q | q
        · exact q (hf.right x hx).1
        · exact (hf.right x hx).2 q
        · exact z x q hx, fun w => (hf.right x hx).2 (p1.nw x w)⟩
      obtain ⟨D2, f2, p2, k2, c2, m2, n2⟩ := prep_ok (k.monoD p1.dd p1.k) p1.e fr q2
      exact ⟨D2, f2, p1.trans p2, VRs.cons (f := []) (.d (dx_mono p2.dd x1)) k2 (fun _ h => by simp at h), by simp [c2]; rfl, fun x hx => List.mem_append_right _ (m2 x hx), n2⟩
/-- (a, b, ..) = r -/
def wgTupT (n : Nat) (u : WGs) : WG := fun r s => match r with
  | .d (.tup ds) => if ds.length = n then u (ds.map RV.d) s else none
  | .t rs => if rs.length = n then (prep rs s).bind fun p => u p.1 p.2 else none
  | _ => none
theorem vrs_data : ∀ {vs : List V} {ds : List Da}, Dxs M D vs ds → VRs M σ H D s vs (ds.map RV.d) []
  | _, _, .nil => .nil
  | _, _, .cons h r => VRs.cons (f := []) (.d h) (vrs_data r) fun _ h => by simp at h
theorem jg_tupT {es : List Expr} {k n : Nat} {pos : Pos} {u : WGs} {T : List Nat} (hc : X.calm = true) (h : JGs M X es u T) (hn : (assignEach es X.env).length = n := by rfl) (hst : (assignEach es X.env).findIdx? (·.1) = none := by rfl) : JG M X (.Tuple es k pos) (wgTupT n u) T := fun hM => pg_mono (pg_tup hc (h hM) hn hst) fun v σ H Q ⟨D, s, fp, r, f, e, hv, hf, s', hw, q⟩ => by
  unfold wgTupT at hw
  split at hw
  · split at hw
    · rename_i ds hl
      obtain ⟨a, vs, rfl, k1, k2⟩ := dx_tup (vr_dx hv)
      refine ⟨a, vs, rfl, by rw [hM.K]; exact same_sqt e.sub k1, by rw [dxs_len k2]; exact hl, D, s, fp, _, [], e, vrs_data k2, ?_, fun _ h => by simp at h, s', hw, fun σ' H' D' fp' a => q _ _ _ _ (a.mem (fun _ h => h) fun _ h => by simp at h)⟩
      simp [cn]
    · cases hw
  · split at hw
    · rename_i rs hl
      simp only [Option.bind_eq_some_iff] at hw
      obtain ⟨⟨rs1, s1⟩, h1, h2⟩ := hw
      cases hv with
      | t k1 k2 =>
        obtain ⟨D1, f1, p1, k3, c3, m3, n3⟩ := prep_ok k2 e hf h1
        refine ⟨_, _, rfl, by rw [hM.K]; exact same_sqt e.sub k1, by rw [k2.length]; exact hl, D1, s1, fp, rs1, f1, p1.e, k3, c3, fun x hx => ⟨n3 x hx, fun w => (hf x (m3 x hx)).2 (p1.nw x w)⟩, s', h2, fun σ' H' D' fp' a => q _ _ _ _ ((p1.toG.trans a).mem (fun _ h => by simpa using h) fun x hx => ?_)⟩
        rcases List.mem_append.mp hx with hx | hx
        · exact hx
        · exact m3 x hx
    · cases hw
  · cases hw
/-- (a, b, ..) = a tuple or a list -/
def wgTup (n : Nat) (u : WGs) : WG := fun r s => match r with
  | .n (.lst ds) => if ds.length = n then u (ds.map RV.d) s else none
  | .d (.lst ds) => if ds.length = n then u (ds.map RV.d) s else none
  | r => wgTupT n u r s
theorem jg_tup {es : List Expr} {k n : Nat} {pos : Pos} {u : WGs} {T : List Nat} (hc : X.calm = true) (h : JGs M X es u T) (hn : (assignEach es X.env).length = n := by rfl) (hst : (assignEach es X.env).findIdx? (·.1) = none := by rfl) : JG M X (.Tuple es k pos) (wgTup n u) T := fun hM => ⟨fun pins s0 σ H v uu Q I r h' => by
  obtain ⟨D, s, fp, rr, f, e, hv, hf, s', hw, q⟩ := h'
  unfold wgTup at hw
  split at hw
  · split at hw
    · rename_i ds hl
      cases hv with
      | n ho =>
        cases ho with
        | lst ha k2 =>
          refine (pg_unl hc (h hM) hn hst).run pins s0 σ H _ uu Q I r ⟨_, _, rfl, SqL.of ha, by rw [dxs_len k2]; exact hl, D, s, fp, _, [], e, vrs_data k2, by simp [cn], fun _ h => by simp at h, s', hw, fun σ' H' D' fp' a => q _ _ _ _ (a.mem (fun _ h => h) fun _ h => by simp at h)⟩
    · cases hw
  · split at hw
    · rename_i ds hl
      have hx := vr_dx hv
      cases hx with
      | lst ha k2 =>
        refine (pg_unl hc (h hM) hn hst).run pins s0 σ H _ uu Q I r ⟨_, _, rfl, SqL.of (e.sub _ _ ha), by rw [dxs_len k2]; exact hl, D, s, fp, _, [], e, vrs_data k2, by simp [cn], fun _ h => by simp at h, s', hw, fun σ' H' D' fp' a => q _ _ _ _ (a.mem (fun _ h => h) fun _ h => by simp at h)⟩
    · cases hw
  · exact ((jg_tupT hc h hn hst) hM).run pins s0 σ H v uu Q I r ⟨D, s, fp, rr, f, e, hv, hf, s', hw, q⟩⟩
/-! ### assignments -/
def wAsg (w : WE) (g : WG) : WS := fun s => (w s).bind fun p => (g p.1 p.2).bind fun s1 => some (.nx, s1)
theorem sim_asg {w : WE} {g : WG} {T : List Nat} : ∀ E σ H, tWS M (wAsg w g) T E σ H → tAsg (tW M w) (tWG M g T) E σ H := fun E σ H ⟨D, s, fp, e, r, s', hw, q⟩ => by
  simp only [wAsg, Option.bind_eq_some_iff, Option.some.injEq, Prod.mk.injEq] at hw
  obtain ⟨⟨r1, s1⟩, h1, s2, h2, rfl, rfl⟩ := hw
  refine ⟨D, s, fp, e, r1, s1, h1, fun v H1 D1 fp1 f1 a1 v1 => ⟨D1, s1, fp1, r1, f1, a1.e, v1.v, v1.fr, s2, h2, fun σ2 H2 D2 fp2 a2 => ?_⟩⟩
  exact q _ _ _ _ ((a1.toS.store v1.nu a2).mem fun i hi => by simpa using hi)
section
variable {tg e : Expr} {pos pos' : Pos} {w : WE} {g : WG} {T : List Nat} {i : Nat} {x : Str}
theorem js_asg (h : J M X e w) (k : JG M X tg g T) (hs : swapsWithSole [tg] e pos.line X.env = pure false := by rfl) (hw : swappedStores [tg] e X.env = pure none := by rfl) (h1 : (assignEach [tg] X.env).map (·.2) = [assign tg X.env] := by rfl) : JS M X (.Assign [tg] e pos) (wAsg w g) T := fun hM => ps_mono (ps_asg (h hM) (k hM) hs hw h1) sim_asg
theorem js_set (hN : X.N.Nodup) (hi : X.N[i]? = some x) (hx : Loc X.env.scope x) (h : J M X e w) (hs : swapsWith e (some (.Name x pos')) pos.line X.env = pure false := by rfl) (hf : X.fn x = true ∨ X.env.scope.names.lookup x = some .local := by first | exact .inl rfl | exact .inr rfl | assumption) : JS M X (.Assign [.Name x pos'] e pos) (wAsg w (bindV i)) [i] := fun hM => ps_mono (ps_set hN hi hx (h hM) hs hf) fun E σ H hw => by
  obtain ⟨D, s, fp, e, r, s', hw, q⟩ := hw
  simp only [wAsg, Option.bind_eq_some_iff, Option.some.injEq, Prod.mk.injEq] at hw
  obtain ⟨⟨r1, s1⟩, h1, s2, h2, rfl, rfl⟩ := hw
  refine ⟨D, s, fp, e, r1, s1, h1, fun v H1 D1 fp1 f1 a1 v1 => ?_⟩
  obtain ⟨D', fp', a⟩ := a1.e.bindV v1.v v1.fr h2
  exact q _ _ _ _ ((a1.toS.store v1.nu a).mem fun i hi => by simpa using hi)
end
/-- a, b = x, y and a, b, c = x, y, z of plain names: put one by one -/
def bindAll : List Nat → List RV → S → Option S
  | [], [], s => some s
  | i :: is, r :: rs, s => (bindV i r s).bind fun s1 => bindAll is rs s1
  | _, _, _ => none
def wPar (is : List Nat) (w : WA) : WS := fun s => (w s).bind fun p => (prep p.1 p.2).bind fun q => (bindAll is q.1 q.2).bind fun s1 => some (.nx, s1)
def setAll : List Nat → List V → L2.St → L2.St
  | i :: is, v :: vs, σ => setAll is vs (σ.set i (some v))
  | _, _, σ => σ
theorem bindAll_ok : ∀ {is : List Nat} {vs : List V} {rs : List RV} {f : List Addr} {σ : L2.St} {D : Hp} {s s' : S} {fp : Nat → List Addr}, VRs M σ H D s vs rs f → rs.all cn = true → EnvR M σ H D s fp → Free D s fp f → bindAll is rs s = some s' → vs.length = is.length ∧ ∃ D' fp', AftG M σ H D s fp f is (setAll is vs σ) H D' s' fp'
  | [], _, _, _, σ, D, s, s', fp, .nil, _, e, _, q => by
    cases q
    exact ⟨rfl, D, fp, (aftG_refl e)⟩
  | i :: is, _, r :: rs, _, σ, D, s, s', fp, .cons h k z, hc, e, hf, q => by
    simp only [bindAll, Option.bind_eq_some_iff] at q
    obtain ⟨s1, q1, q2⟩ := q
    simp only [List.all_cons, Bool.and_eq_true] at hc
    obtain ⟨D1, fp1, a1⟩ := e.bindV h hf.left q1
    obtain ⟨k', fr'⟩ := VRs.cn (f := []) a1 k hc.2 hf.right z
    obtain ⟨hl, D2, fp2, a2⟩ := bindAll_ok k' hc.2 a1.e fr' q2
    exact ⟨congrArg Nat.succ hl, D2, fp2, (a1.trans a2).mem (fun _ h => by simpa using h) fun _ h => h⟩
  | [], _, _ :: _, _, _, _, _, _, _, _, _, _, _, q => by cases q
  | _ :: _, _, [], _, _, _, _, _, _, .nil, _, _, _, q => by cases q
theorem sim_par {is : List Nat} {w : WA} : ∀ E σ H, tWS M (wPar is w) is E σ H → tWA M w σ H fun vs H1 => vs.length = is.length ∧ E.nx (setAll is vs σ) H1 := fun E σ H ⟨D, s, fp, e, r, s', hw, q⟩ => by
  simp only [wPar, Option.bind_eq_some_iff, Option.some.injEq, Prod.mk.injEq] at hw
  obtain ⟨⟨rs, s1⟩, h1, ⟨rs2, s2⟩, h2, s3, h3, rfl, rfl⟩ := hw
  refine ⟨D, s, fp, e, rs, s1, h1, fun v H1 D1 fp1 f1 a1 v1 => ?_⟩
  obtain ⟨D2, f2, p2, k2, c2, m2, n2⟩ := prep_ok v1.v a1.e v1.fr h2
  obtain ⟨hl, D3, fp3, a3⟩ := bindAll_ok k2 c2 p2.e (fun x hx => ⟨n2 x hx, fun w => (v1.fr x (m2 x hx)).2 (p2.nw x w)⟩) h3
  refine ⟨hl, q _ _ _ _ ((a1.toS.store v1.nu ((p2.toG.trans a3).mem (g := f1) (fun _ h => h) fun x hx => ?_)).mem fun i hi => by simpa using hi)⟩
  rcases List.mem_append.mp hx with hx | hx
  · exact hx
  · exact m2 x hx
section
variable {i j l : Nat} {x y z : Str} {a b c : Expr} {w : WA} {px py pz pt pos : Pos} {kt k2 pt2}
theorem js_par (hc : X.calm = true) (hN : X.N.Nodup) (hi : X.N[i]? = some x) (hj : X.N[j]? = some y) (hij : i ≠ j) (hx : X.env.scope.names.lookup x = some .local) (hy : X.env.scope.names.lookup y = some .local) (ja : JA M X [a, b] w)
    (hw : swappedStores [.Tuple [.Name x px, .Name y py] kt pt] (.Tuple [a, b] k2 pt2) X.env = pure (some [x, y])) (hs : swapsWithSole [.Tuple [.Name x px, .Name y py] kt pt] (.Tuple [a, b] k2 pt2) pos.line X.env = pure false := by rfl) :
    JS M X (.Assign [.Tuple [.Name x px, .Name y py] kt pt] (.Tuple [a, b] k2 pt2) pos) (wPar [i, j] w) [i, j] := fun hM => ps_mono (ps_par hc hN hi hj hij hx hy (ja hM) hw hs) fun E σ H h => by
  obtain ⟨D, s, fp, e, r, s', hw, q⟩ := sim_par E σ H h
  refine ⟨D, s, fp, e, r, s', hw, fun v H' D' fp' f a1 v1 => ?_⟩
  obtain ⟨hl, qn⟩ := q v H' D' fp' f a1 v1
  match v, hl with
  | [v1, v2], _ => exact ⟨v1, v2, rfl, qn⟩
theorem js_par3 (hc : X.calm = true) (hN : X.N.Nodup) (hi : X.N[i]? = some x) (hj : X.N[j]? = some y) (hl : X.N[l]? = some z) (hij : i ≠ j) (hil : i ≠ l) (hjl : j ≠ l) (hx : X.env.scope.names.lookup x = some .local) (hy : X.env.scope.names.lookup y = some .local) (hz : X.env.scope.names.lookup z = some .local) (ja : JA M X [a, b, c] w)
    (hw : swappedStores [.Tuple [.Name x px, .Name y py, .Name z pz] kt pt] (.Tuple [a, b, c] k2 pt2) X.env = pure (some [x, y, z])) (hs : swapsWithSole [.Tuple [.Name x px, .Name y py, .Name z pz] kt pt] (.Tuple [a, b, c] k2 pt2) pos.line X.env = pure false := by rfl) :
    JS M X (.Assign [.Tuple [.Name x px, .Name y py, .Name z pz] kt pt] (.Tuple [a, b, c] k2 pt2) pos) (wPar [i, j, l] w) [i, j, l] := fun hM => ps_mono (ps_par3 hc hN hi hj hl hij hil hjl hx hy hz (ja hM) hw hs) fun E σ H h => by
  obtain ⟨D, s, fp, e, r, s', hw, q⟩ := sim_par E σ H h
  refine ⟨D, s, fp, e, r, s', hw, fun v H' D' fp' f a1 v1 => ?_⟩
  obtain ⟨hl, qn⟩ := q v H' D' fp' f a1 v1
  match v, hl with
  | [v1, v2, v3], _ => exact ⟨v1, v2, v3, rfl, qn⟩
end
end
end Tw

/-! zip of any two things that hand out items: here a tuple and a list -/
namespace Tw
open PySem PySem.Spec PyProof.Rows L2
/-- an iterator it over what lies at l: its own state is St k, what lies there is told by Src -/
structure Hands (prog : Program) (w : World) (it l : Addr) (St : Nat → Heap → Prop) (Src : Heap → Array Value → Prop) : Prop where
  there : ∀ {k : Nat} {h : Heap}, St k h → ∃ o, h.get? it = some o ∧ ∀ v, o.data ≠ .cell v
  keep : ∀ {k : Nat} {h h' : Heap}, St k h → (∀ o, h.get? it = some o → h'.get? it = some o) → St k h'
  keepS : ∀ {its : Array Value} {h h' : Heap}, Src h its → (∀ o, h.get? l = some o → h'.get? l = some o) → Src h' its
  item : ∀ {A : Around} {E : Value → Shared → Prop} {s : Shared} {k : Nat} {its : Array Value} {x : Value} {Q : Value → Shared → Prop}, St k s.heap → Src s.heap its → its[k]? = some x → (∀ h', St (k + 1) h' → Heap.SameBut it s.heap h' → Q x { s with heap := h' }) → wpAny (model prog w) A (Builtin.SmallTypes.nextOf (.ref it)) Q E s
  done : ∀ {A : Around} {E : Value → Shared → Prop} {s : Shared} {k : Nat} {its : Array Value} {Q : Value → Shared → Prop}, A.handled = none → St k s.heap → Src s.heap its → its[k]? = none →
    (∀ h' e, Heap.ExtBut it s.heap h' → (∃ o, h'.get? e = some o ∧ o.cls = .type "StopIteration") → E (.ref e) { s with heap := h' }) → wpAny (model prog w) A (Builtin.SmallTypes.nextOf (.ref it)) Q E s
theorem hands_list {prog : Program} {w : World} (it l : Addr) : Hands prog w it l (fun k h => h.IsListIter it l k) (fun h its => h.IsList l its) where
  there := fun ⟨o, e, _, d⟩ => ⟨o, e, fun v q => by rw [d] at q; cases q⟩
  keep := fun st e => st.at e
  keepS := fun ⟨o, e, r⟩ k => ⟨o, k _ e, r⟩
  item := fun st sr hx q => wpAny_nextOf_list_item st sr hx q
  done := fun hh st sr hx q => wpAny_nextOf_list_end hh st sr hx q
theorem hands_tup {prog : Program} {w : World} (it l : Addr) : Hands prog w it l (fun k h => h.IsTupleIter it l k) (fun h its => h.IsTuple l its) where
  there := fun ⟨o, e, _, d⟩ => ⟨o, e, fun v q => by rw [d] at q; cases q⟩
  keep := fun st e => st.at e
  keepS := fun ⟨o, e, r⟩ k => ⟨o, k _ e, r⟩
  item := fun st sr hx q => RZ.nextOf_tuple_item st sr hx q
  done := fun hh st sr hx q => RZ.nextOf_tuple_end hh st sr hx q
section
variable {prog : Program} {w : World} {A : Around} {E : Value → Shared → Prop} {s : Shared} {i1 i2 l1 l2 z TI TO : Addr} {S1 S2 : Nat → Heap → Prop} {R1 R2 : Heap → Array Value → Prop} {k1 k2 : Nat} {xs ys : Array Value} {x y a b : Value}
/-- the pair is drawn -/
theorem zx_item {Q : Value → Shared → Prop} (Z1 : Hands prog w i1 l1 S1 R1) (Z2 : Hands prog w i2 l2 S2 R2) (D : ZipApart z TI TO i1 i2 l1 l2) (hz : IsZip s.heap z TI TO .none) (hI : IsPair s.heap TI (.ref i1) (.ref i2)) (hO : IsPair s.heap TO a b)
    (a1 : S1 k1 s.heap) (a2 : S2 k2 s.heap) (r1 : R1 s.heap xs) (r2 : R2 s.heap ys) (hx : xs[k1]? = some x) (hy : ys[k2]? = some y)
    (hQ : ∀ h', IsZip h' z TI TO (rawInt s.heap.objs.size) → IsPair h' TO x y → S1 (k1 + 1) h' → S2 (k2 + 1) h' → IsPair h' s.heap.objs.size x y → h'.objs.size = s.heap.objs.size + 1 → (∀ c o, c ≠ z ∧ c ≠ TO ∧ c ≠ i1 ∧ c ≠ i2 → s.heap.get? c = some o → h'.get? c = some o) → Q (.ref s.heap.objs.size) { s with heap := h' }) :
    wpAny (model prog w) A (Builtin.«zip.__next__» ⟨[.ref z], []⟩) (fun fin s' => ∃ v, fin = .done (.ret v) ∧ Q v s') E s := by
  show wpAny _ _ (field (.ref z) 2 >>= _) _ _ _
  refine wpAny_bind (wpAny_field hz rfl (x := .bool false) rfl (show wpAny _ _ (field (.ref z) 3 >>= _) _ _ _ from wpAny_bind (wpAny_field hz rfl (x := .ref TI) rfl (wpAny_bind (wpAny_seqItems hI rfl ?_)))))
  refine wpAny_bind (m := Builtin.SmallTypes.ownedTupleIsFree (.ref z)) (wpAny_bind (wpAny_field hz rfl (x := .none) rfl (wpAny_pure ?_)))
  simp only [if_true]
  refine wpAny_bind (wpAny_rule (wpAny_bind (wpAny_field hz rfl (x := .ref TO) rfl (wpAny_bind (wpAny_setField_rec hz (by simp) fun g1 hz1 e1 => wpAny_bind ?_)))))
  have hz1 : IsZip g1 z TI TO .ellipsis := hz1
  simp only [List.zipIdx_cons, List.zipIdx_nil, List.forIn_cons, List.forIn_nil]
  -- the first one
  refine wpAny_bind (wpAny_bind (wpAny_onRaise (show wpAny _ _ (Builtin.SmallTypes.nextOf (.ref i1) >>= _) _ _ _ from wpAny_bind (Z1.item (Z1.keep a1 fun o => e1.extBut _ o D.i1z) (Z1.keepS r1 fun o => e1.extBut _ o D.l1z) hx fun g2 b1 e2 => wpAny_pure ?_))))
  have o2 : IsPair g2 TO a b := e2.extBut _ _ D.TOi1 (e1.extBut _ _ D.TOz hO)
  refine wpAny_bind (wpAny_seqItems o2 rfl (wpAny_bind (wpAny_updateSeq_pair o2 fun g3 o3 e3 => wpAny_bind (wpAny_letGo (wpAny_pure ?_)))))
  have o3 : IsPair g3 TO x b := o3
  -- the second one
  have up3 : ∀ c o, c ≠ z ∧ c ≠ TO ∧ c ≠ i1 → s.heap.get? c = some o → g3.get? c = some o := fun c o n e => e3.extBut _ _ n.2.1 (e2.extBut _ _ n.2.2 (e1.extBut _ _ n.1 e))
  refine wpAny_bind (wpAny_bind (wpAny_onRaise (show wpAny _ _ (Builtin.SmallTypes.nextOf (.ref i2) >>= _) _ _ _ from wpAny_bind (Z2.item (Z2.keep a2 fun o => up3 _ o ⟨D.i2z, D.TOi2.symm, D.i12.symm⟩) (Z2.keepS r2 fun o => up3 _ o ⟨D.l2z, D.l2TO, D.l2i1⟩) hy fun g4 b2 e4 => wpAny_pure ?_))))
  have o4 : IsPair g4 TO x b := e4.extBut _ _ D.TOi2 o3
  refine wpAny_bind (wpAny_seqItems o4 rfl (wpAny_bind (wpAny_updateSeq_pair o4 fun g5 o5 e5 => wpAny_bind (wpAny_letGo (wpAny_pure (wpAny_pure ?_))))))
  have o5 : IsPair g5 TO x y := o5
  -- handed out
  refine wpAny_bind (wpAny_seqItems o5 rfl (wpAny_bind (wpAny_newTuple ?_)))
  have n5 : g5.objs.size = s.heap.objs.size := by rw [e5.1, e4.1, e3.1, e2.1, e1.1]
  have up5 : ∀ c o, c ≠ z ∧ c ≠ TO ∧ c ≠ i1 ∧ c ≠ i2 → s.heap.get? c = some o → g5.get? c = some o := fun c o n e => e5.extBut _ _ n.2.1 (e4.extBut _ _ n.2.2.2 (up3 c o ⟨n.1, n.2.1, n.2.2.1⟩ e))
  have z5 : IsZip g5 z TI TO .ellipsis := e5.extBut _ _ D.TOz.symm (e4.extBut _ _ D.i2z.symm (e3.extBut _ _ D.TOz.symm (e2.extBut _ _ D.i1z.symm hz1)))
  have c1 : S1 (k1 + 1) g5 := Z1.keep b1 fun o e => e5.extBut _ _ D.TOi1.symm (e4.extBut _ _ D.i12 (e3.extBut _ _ D.TOi1.symm e))
  have c2 : S2 (k2 + 1) g5 := Z2.keep b2 fun o e => e5.extBut _ _ D.TOi2.symm e
  have lz : z < g5.objs.size := Heap.lt_size z5
  refine wpAny_bind (m := Builtin.SmallTypes.ownedTupleHandOut (.ref z) (.ref g5.objs.size)) (wpAny_bind (wpAny_setField_rec (show IsZip (g5.push { cls := .type "tuple", data := .seq #[x, y] }) z TI TO .ellipsis from Heap.get?_push_of_some _ z5) (by simp) fun g7 z7 e7 => ?_))
  have z7 : IsZip g7 z TI TO (rawInt g5.objs.size) := z7
  refine wpAny_setField_rec z7 (by simp) fun g8 z8 e8 => wpAny_pure ⟨_, rfl, ?_⟩
  have z8 : IsZip g8 z TI TO (rawInt g5.objs.size) := z8
  have up8 : ∀ c o, c ≠ z → g5.get? c = some o → g8.get? c = some o := fun c o n e => e8.extBut _ _ n (e7.extBut _ _ n (Heap.get?_push_of_some _ e))
  have t8 : IsPair g8 g5.objs.size x y := e8.extBut _ _ (Nat.ne_of_gt lz) (e7.extBut _ _ (Nat.ne_of_gt lz) (Heap.get?_push_size _ rfl))
  have n8 : g8.objs.size = g5.objs.size + 1 := by rw [e8.1, e7.1, Heap.size_push]
  show Q (.ref g5.objs.size) _
  rw [n5] at z8 t8 n8 ⊢
  exact hQ g8 z8 (up8 _ _ D.TOz o5) (Z1.keep c1 fun o => up8 _ o D.i1z) (Z2.keep c2 fun o => up8 _ o D.i2z) t8 n8 fun c o n e => up8 c o n.1 (up5 c o n e)
/-- one of the two is at its end -/
theorem zx_end {Q : Fin → Shared → Prop} (hh : A.handled = none) (Z1 : Hands prog w i1 l1 S1 R1) (Z2 : Hands prog w i2 l2 S2 R2) (D : ZipApart z TI TO i1 i2 l1 l2) (hz : IsZip s.heap z TI TO .none) (hI : IsPair s.heap TI (.ref i1) (.ref i2)) (hO : IsPair s.heap TO a b)
    (a1 : S1 k1 s.heap) (a2 : S2 k2 s.heap) (r1 : R1 s.heap xs) (r2 : R2 s.heap ys) (he : xs[k1]? = none ∨ ys[k2]? = none)
    (hE : ∀ h' e, (∀ c o, c ≠ z ∧ c ≠ TO ∧ c ≠ i1 ∧ c ≠ i2 → s.heap.get? c = some o → h'.get? c = some o) → (∃ o, h'.get? e = some o ∧ o.cls = .type "StopIteration") → E (.ref e) { s with heap := h' }) :
    wpAny (model prog w) A (Builtin.«zip.__next__» ⟨[.ref z], []⟩) Q E s := by
  show wpAny _ _ (field (.ref z) 2 >>= _) _ _ _
  refine wpAny_bind (wpAny_field hz rfl (x := .bool false) rfl (show wpAny _ _ (field (.ref z) 3 >>= _) _ _ _ from wpAny_bind (wpAny_field hz rfl (x := .ref TI) rfl (wpAny_bind (wpAny_seqItems hI rfl ?_)))))
  refine wpAny_bind (m := Builtin.SmallTypes.ownedTupleIsFree (.ref z)) (wpAny_bind (wpAny_field hz rfl (x := .none) rfl (wpAny_pure ?_)))
  simp only [if_true]
  refine wpAny_bind (wpAny_rule (wpAny_bind (wpAny_field hz rfl (x := .ref TO) rfl (wpAny_bind (wpAny_setField_rec hz (by simp) fun g1 hz1 e1 => wpAny_bind ?_)))))
  have hz1 : IsZip g1 z TI TO .ellipsis := hz1
  simp only [List.zipIdx_cons, List.zipIdx_nil, List.forIn_cons, List.forIn_nil]
  have b1 := Z1.keep a1 fun o => e1.extBut _ o D.i1z
  have q1 := Z1.keepS r1 fun o => e1.extBut _ o D.l1z
  cases hx : xs[k1]? with
  | none =>
    refine wpAny_bind (wpAny_bind (wpAny_onRaise (show wpAny _ _ (Builtin.SmallTypes.nextOf (.ref i1) >>= _) _ _ _ from wpAny_bind (Z1.done hh b1 q1 hx fun g2 e f2 ⟨oe, h1, h2⟩ => ?_))))
    have z2 : IsZip g2 z TI TO .ellipsis := f2 _ _ D.i1z.symm hz1
    have ne : e ≠ z := fun q => by
      rw [q, z2] at h1
      cases h1
      simp at h2
    exact wpAny_setField_rec z2 (by simp) fun g3 _ e3 => hE g3 e (fun c o n q => e3.extBut _ _ n.1 (f2 _ _ n.2.2.1 (e1.extBut _ _ n.1 q))) ⟨oe, e3.extBut _ _ ne h1, h2⟩
  | some x =>
    have hy : ys[k2]? = none := by
      rcases he with q | q
      · rw [hx] at q
        cases q
      · exact q
    refine wpAny_bind (wpAny_bind (wpAny_onRaise (show wpAny _ _ (Builtin.SmallTypes.nextOf (.ref i1) >>= _) _ _ _ from wpAny_bind (Z1.item b1 q1 hx fun g2 _ e2 => wpAny_pure ?_))))
    have o2 : IsPair g2 TO a b := e2.extBut _ _ D.TOi1 (e1.extBut _ _ D.TOz hO)
    refine wpAny_bind (wpAny_seqItems o2 rfl (wpAny_bind (wpAny_updateSeq_pair o2 fun g3 o3 e3 => wpAny_bind (wpAny_letGo (wpAny_pure ?_)))))
    have up3 : ∀ c o, c ≠ z ∧ c ≠ TO ∧ c ≠ i1 → s.heap.get? c = some o → g3.get? c = some o := fun c o n e => e3.extBut _ _ n.2.1 (e2.extBut _ _ n.2.2 (e1.extBut _ _ n.1 e))
    refine wpAny_bind (wpAny_bind (wpAny_onRaise (show wpAny _ _ (Builtin.SmallTypes.nextOf (.ref i2) >>= _) _ _ _ from wpAny_bind (Z2.done hh (Z2.keep a2 fun o => up3 _ o ⟨D.i2z, D.TOi2.symm, D.i12.symm⟩) (Z2.keepS r2 fun o => up3 _ o ⟨D.l2z, D.l2TO, D.l2i1⟩) hy fun g4 e f4 ⟨oe, h1, h2⟩ => ?_))))
    have z4 : IsZip g4 z TI TO .ellipsis := f4 _ _ D.i2z.symm (e3.extBut _ _ D.TOz.symm (e2.extBut _ _ D.i1z.symm hz1))
    have ne : e ≠ z := fun q => by
      rw [q, z4] at h1
      cases h1
      simp at h2
    exact wpAny_setField_rec z4 (by simp) fun g5 _ e5 => hE g5 e (fun c o n q => e5.extBut _ _ n.1 (f4 _ _ n.2.2.2 (up3 c o ⟨n.1, n.2.1, n.2.2.1⟩ q))) ⟨oe, e5.extBut _ _ ne h1, h2⟩
theorem zx_next {Q : Option Value → Shared → Prop} (Z1 : Hands prog w i1 l1 S1 R1) (Z2 : Hands prog w i2 l2 S2 R2) (D : ZipApart z TI TO i1 i2 l1 l2) (hz : IsZip s.heap z TI TO .none) (hI : IsPair s.heap TI (.ref i1) (.ref i2)) (hO : IsPair s.heap TO a b)
    (a1 : S1 k1 s.heap) (a2 : S2 k2 s.heap) (r1 : R1 s.heap xs) (r2 : R2 s.heap ys) (hx : xs[k1]? = some x) (hy : ys[k2]? = some y)
    (hQ : ∀ h', IsZip h' z TI TO (rawInt s.heap.objs.size) → IsPair h' TO x y → S1 (k1 + 1) h' → S2 (k2 + 1) h' → IsPair h' s.heap.objs.size x y → h'.objs.size = s.heap.objs.size + 1 → (∀ c o, c ≠ z ∧ c ≠ TO ∧ c ≠ i1 ∧ c ≠ i2 → s.heap.get? c = some o → h'.get? c = some o) → Q (some (.ref s.heap.objs.size)) { s with heap := h' }) :
    wpAny (model prog w) A (pyNext (.ref z)) Q E s := by
  have hT : s.TypeIs (.ref z) "zip" := ⟨_, hz, rfl⟩
  exact wpAny_bind (wpAny_attempt (wpAny_callSpecial?_slot (name := Str.ofString "__next__") hT F.slot_zip_next (wpAny_call_entry F.slot_zip_next hT F.entry_zip_next (zx_item Z1 Z2 D hz hI hO a1 a2 r1 r2 hx hy fun h' u1 u2 u3 u4 u5 u6 u7 => wpAny_pure (hQ h' u1 u2 u3 u4 u5 u6 u7)) (F.args_zip_next_1 _))))
theorem zx_stop {Q : Option Value → Shared → Prop} (hh : A.handled = none) (Z1 : Hands prog w i1 l1 S1 R1) (Z2 : Hands prog w i2 l2 S2 R2) (D : ZipApart z TI TO i1 i2 l1 l2) (hz : IsZip s.heap z TI TO .none) (hI : IsPair s.heap TI (.ref i1) (.ref i2)) (hO : IsPair s.heap TO a b)
    (a1 : S1 k1 s.heap) (a2 : S2 k2 s.heap) (r1 : R1 s.heap xs) (r2 : R2 s.heap ys) (he : xs[k1]? = none ∨ ys[k2]? = none)
    (hQ : ∀ h', (∀ c o, c ≠ z ∧ c ≠ TO ∧ c ≠ i1 ∧ c ≠ i2 → s.heap.get? c = some o → h'.get? c = some o) → Q none { s with heap := h' }) : wpAny (model prog w) A (pyNext (.ref z)) Q E s := by
  have hT : s.TypeIs (.ref z) "zip" := ⟨_, hz, rfl⟩
  refine wpAny_bind (wpAny_attempt (wpAny_callSpecial?_slot (name := Str.ofString "__next__") hT F.slot_zip_next (wpAny_call_entry F.slot_zip_next hT F.entry_zip_next (zx_end hh Z1 Z2 D hz hI hO a1 a2 r1 r2 he fun h' e hk he => ?_) (F.args_zip_next_1 _))))
  obtain ⟨o, ho, hc⟩ := he
  exact wpAny_bind (wpAny_isInstance (T := "StopIteration") (b := true) ⟨o, ho, hc⟩ isSubtype_stop (wpAny_pure (hQ _ hk)))
end
/-- zip(a tuple, a list) is made -/
def zxH (h : Heap) (l1 l2 : Addr) : Heap :=
  ((((h.push { cls := .type "tuple_iterator", data := .fields #[.ref l1, .int 0 0] }).push { cls := .type "list_iterator", data := .fields #[.ref l2, .int 0 0] }).push { cls := .type "tuple", data := .seq #[.ref h.objs.size, .ref (h.push { cls := .type "tuple_iterator", data := .fields #[.ref l1, .int 0 0] }).objs.size] }).push { cls := .type "tuple", data := .seq #[.none, .none] })
def zxN (h : Heap) (l1 l2 : Addr) : Nat := ((h.push { cls := .type "tuple_iterator", data := .fields #[.ref l1, .int 0 0] }).push { cls := .type "list_iterator", data := .fields #[.ref l2, .int 0 0] }).objs.size
def zxM (h : Heap) (l1 l2 : Addr) : Nat := (((h.push { cls := .type "tuple_iterator", data := .fields #[.ref l1, .int 0 0] }).push { cls := .type "list_iterator", data := .fields #[.ref l2, .int 0 0] }).push { cls := .type "tuple", data := .seq #[.ref h.objs.size, .ref (h.push { cls := .type "tuple_iterator", data := .fields #[.ref l1, .int 0 0] }).objs.size] }).objs.size
theorem meets_zx (l1 l2 : Addr) (xs ys : Array Value) :
    Meets (Builtin.«zip.__new__» ⟨[.type "zip", .ref l1, .ref l2], []⟩) (fun _ R s => s.heap.IsTuple l1 xs ∧ s.heap.IsList l2 ys ∧
      R (.ok (.ret (.ref (zxH s.heap l1 l2).objs.size))) { s with heap := (zxH s.heap l1 l2).push { cls := .type "zip", data := .fields #[.none, .bool false, .bool false, .ref (zxN s.heap l1 l2), .ref (zxM s.heap l1 l2)] } }) :=
  .of_wp fun prog w A R s h => by
    obtain ⟨hp, g, d, tk, os⟩ := s
    obtain ⟨q1, q2, h⟩ := h
    have hsub := sub_zip
    have t1 : Heap.IsTuple (Shared.heap ⟨hp, g, d, tk, os⟩) l1 xs := q1
    have t2 : Heap.IsList (Shared.heap ⟨hp.push { cls := .type "tuple_iterator", data := .fields #[.ref l1, .int 0 0] }, g, d, tk, os⟩) l2 ys := Heap.IsList.push q2 _
    wp_walk using wpAny_pyIter_tuple t1, wpAny_pyIter_list t2
    exact ⟨_, rfl, h⟩
section
variable {prog : Program} {w : World} {A : Around} {E : Value → Shared → Prop} {s : Shared}
theorem call_zx {l1 l2 : Addr} {xs ys : Array Value} {Q : Value → Shared → Prop} (q1 : s.heap.IsTuple l1 xs) (q2 : s.heap.IsList l2 ys)
    (h : ∀ h', IsZip h' (s.heap.objs.size + 4) (s.heap.objs.size + 2) (s.heap.objs.size + 3) .none → IsPair h' (s.heap.objs.size + 2) (.ref s.heap.objs.size) (.ref (s.heap.objs.size + 1)) → IsPair h' (s.heap.objs.size + 3) .none .none →
      h'.IsTupleIter s.heap.objs.size l1 0 → h'.IsListIter (s.heap.objs.size + 1) l2 0 → (∀ c o, s.heap.get? c = some o → h'.get? c = some o) → Q (.ref (s.heap.objs.size + 4)) { s with heap := h' }) :
    wpAny (model prog w) A (call (.type "zip") [.ref l1, .ref l2]) Q E s := by
  refine callType_new F.called_zip (by decide) (F.typeCall_zip_2 _ _) (F.newCall_zip_2 _ _) (fun obj => F.args_object_init_3 obj _ _) F.entry_zip_new (meets_zx l1 l2 xs ys) ⟨q1, q2, ?_⟩
  generalize hA : s.heap.push { cls := .type "tuple_iterator", data := .fields #[.ref l1, .int 0 0] } = hA'
  have sA : hA'.objs.size = s.heap.objs.size + 1 := by rw [← hA]; exact Heap.size_push ..
  have gA : hA'.get? s.heap.objs.size = some { cls := .type "tuple_iterator", data := .fields #[.ref l1, .int 0 0] } := by rw [← hA]; exact Heap.get?_push_size _ rfl
  have uA : ∀ c o, s.heap.get? c = some o → hA'.get? c = some o := fun c o e => by rw [← hA]; exact Heap.get?_push_of_some _ e
  generalize hB : hA'.push { cls := .type "list_iterator", data := .fields #[.ref l2, .int 0 0] } = hB'
  have sB : hB'.objs.size = s.heap.objs.size + 2 := by rw [← hB, Heap.size_push, sA]
  have gB : hB'.get? (s.heap.objs.size + 1) = some { cls := .type "list_iterator", data := .fields #[.ref l2, .int 0 0] } := by rw [← hB, ← sA]; exact Heap.get?_push_size _ rfl
  have uB : ∀ c o, hA'.get? c = some o → hB'.get? c = some o := fun c o e => by rw [← hB]; exact Heap.get?_push_of_some _ e
  generalize hC : hB'.push { cls := .type "tuple", data := .seq #[.ref s.heap.objs.size, .ref (s.heap.objs.size + 1)] } = hC'
  have sC : hC'.objs.size = s.heap.objs.size + 3 := by rw [← hC, Heap.size_push, sB]
  have gC : IsPair hC' (s.heap.objs.size + 2) (.ref s.heap.objs.size) (.ref (s.heap.objs.size + 1)) := by rw [← hC, ← sB]; exact Heap.get?_push_size _ rfl
  have uC : ∀ c o, hB'.get? c = some o → hC'.get? c = some o := fun c o e => by rw [← hC]; exact Heap.get?_push_of_some _ e
  generalize hD : hC'.push { cls := .type "tuple", data := .seq #[.none, .none] } = hD'
  have sD : hD'.objs.size = s.heap.objs.size + 4 := by rw [← hD, Heap.size_push, sC]
  have gD : IsPair hD' (s.heap.objs.size + 3) .none .none := by rw [← hD, ← sC]; exact Heap.get?_push_size _ rfl
  have uD : ∀ c o, hC'.get? c = some o → hD'.get? c = some o := fun c o e => by rw [← hD]; exact Heap.get?_push_of_some _ e
  have eN : zxN s.heap l1 l2 = s.heap.objs.size + 2 := by unfold zxN; rw [hA, hB, sB]
  have eM : zxM s.heap l1 l2 = s.heap.objs.size + 3 := by unfold zxM; rw [hA, hB, sA, hC, sC]
  have eH : zxH s.heap l1 l2 = hD' := by unfold zxH; rw [hA, hB, sA, hC, hD]
  rw [eN, eM, eH]
  generalize hE : hD'.push { cls := .type "zip", data := .fields #[.none, .bool false, .bool false, .ref (s.heap.objs.size + 2), .ref (s.heap.objs.size + 3)] } = hE'
  have gE : IsZip hE' (s.heap.objs.size + 4) (s.heap.objs.size + 2) (s.heap.objs.size + 3) .none := by rw [← hE, ← sD]; exact Heap.get?_push_size _ rfl
  have uE : ∀ c o, hD'.get? c = some o → hE'.get? c = some o := fun c o e => by rw [← hE]; exact Heap.get?_push_of_some _ e
  show _ ∧ _
  rw [sD]
  exact ⟨⟨_, gE, rfl⟩, h _ gE (uE _ _ (uD _ _ gC)) (uE _ _ gD) ⟨_, uE _ _ (uD _ _ (uC _ _ (uB _ _ gA))), rfl, rfl⟩ ⟨_, uE _ _ (uD _ _ (uC _ _ gB)), rfl, rfl⟩ fun c o e => uE _ _ (uD _ _ (uC _ _ (uB _ _ (uA _ _ e))))⟩
end
/-- the tuple at a and the list at b as they stand at each turn, the items in new pairs -/
def ItzM (K : PySem.W.Frag) (a b : Addr) : It :=
  ⟨fun i H => ∃ (xs ys : List V) (x y : V), SqT K H a xs ∧ SqL K H b ys ∧ xs[i]? = some x ∧ ys[i]? = some y,
    fun i H v H' => ∃ T x y, v = .ref T ∧ H T = none ∧ H' = upd H T (.tup [x, y]) ∧ (∀ xs, SqT K H a xs → xs[i]? = some x) ∧ ∀ ys, SqL K H b ys → ys[i]? = some y,
    fun i H => ∃ xs ys : List V, SqT K H a xs ∧ SqL K H b ys ∧ (xs.length ≤ i ∨ ys.length ≤ i)⟩
theorem turn_zipM {P : Program} {w : World} {K : PySem.W.Frag} {elts : List Expr} {kk : Nat} {tpos : Pos} {a b z TI TO i1 i2 : Addr} (D : ZipApart z TI TO i1 i2 a b) :
    Turn P w K (.Tuple elts kk tpos) (ItzM K a b) [z, TI, TO, i1, i2] z (fun i h => IsZip h z TI TO .none ∧ IsPair h TI (.ref i1) (.ref i2) ∧ (∃ x y, IsPair h TO x y) ∧ h.IsTupleIter i1 a i ∧ h.IsListIter i2 b i) := by
  have mm : ∀ {c : Addr}, c ∈ [z, TI, TO, i1, i2] → c = z ∨ c = TI ∨ c = TO ∨ c = i1 ∨ c = i2 := fun h => by simpa using h
  have fr : ∀ {c : Addr}, c ∉ [z, TI, TO, i1, i2] → c ≠ z ∧ c ≠ TO ∧ c ≠ i1 ∧ c ≠ i2 := fun h => ⟨fun q => h (by simp [q]), fun q => h (by simp [q]), fun q => h (by simp [q]), fun q => h (by simp [q])⟩
  refine ⟨by simp, ?_, ?_, ?_, ?_, fun A i s Q E st h => wpAny_pyIter_zip st.1 h⟩
  · rintro i h ⟨hz, hI, ⟨x, y, hO⟩, h1, h2⟩ c hc
    rcases mm hc with q | q | q | q | q <;> rw [q]
    · exact ⟨_, hz, fun v q => nomatch q⟩
    · exact ⟨_, hI, fun v q => nomatch q⟩
    · exact ⟨_, hO, fun v q => nomatch q⟩
    · exact (hands_tup (prog := P) (w := w) i1 a).there h1
    · exact (hands_list (prog := P) (w := w) i2 b).there h2
  · rintro i h h' ⟨hz, hI, ⟨x, y, hO⟩, h1, h2⟩ k
    exact ⟨k z (by simp) _ hz, k TI (by simp) _ hI, ⟨x, y, k TO (by simp) _ hO⟩, h1.at (k i1 (by simp)), h2.at (k i2 (by simp))⟩
  · intro X hP hw hK hc i pins s σ H E I hf st hg
    subst hP hw hK
    obtain ⟨hz, hI, ⟨x0, y0, hO⟩, h1, h2⟩ := st
    obtain ⟨xs, ys, x, y, sx, sy, hx, hy⟩ := hg
    obtain ⟨its, rv, p, _⟩ := I.tuple sx
    obtain ⟨jts, rw', p2, _⟩ := I.list sy
    obtain ⟨u, hu, ru⟩ := rv.get hx
    obtain ⟨u2, hu2, ru2⟩ := rw'.get hy
    have lz : z < s.heap.objs.size := Heap.lt_size hz
    refine zx_next (hands_tup i1 a) (hands_list i2 b) D hz hI hO h1 h2 p p2.isList (x := u) (y := u2) (by simpa using hu) (by simpa using hu2) fun g z' O' b1 b2 T' n' up => ⟨_, rfl, wpAny_letOwnedTupleGo_zip (s := { s with heap := g }) z' fun g2 z2 sb => ?_⟩
    have T2 : g2.get? s.heap.objs.size = some { cls := .type "tuple", data := .seq #[u, u2] } := (sb.2 _ (Nat.ne_of_gt lz)).trans T'
    have new : ObjOk X.prog X.w (upd H s.heap.objs.size (.tup [x, y])) g2 s.heap.objs.size (.tup [x, y]) := ⟨by show 2 ≤ sizeLine; decide, [u, u2], .cons ru (.cons ru2 .nil), ⟨_, T2, rfl, _, rfl⟩⟩
    have I1 : Inv X pins σ (upd H s.heap.objs.size (.tup [x, y])) { s with heap := g2 } := I.turnedNew (t' := s.toks) (ch := [z, TI, TO, i1, i2]) (fun c o hb q => (sb.2 c (fr hb).1).trans (up c o (fr hb) q)) hf (Nat.le_refl _) new
    refine ⟨.ref s.heap.objs.size, _, I1, rfl, ⟨_, x, y, rfl, I.hok.fresh (Nat.le_refl _), rfl, fun l hl => by rw [I.tuple_inj hl sx]; exact hx, fun l hl => by rw [I.list_inj hl sy]; exact hy⟩, ⟨z2, (sb.2 _ D.TIz).trans (up _ _ ⟨D.TIz, D.TITO, D.TIi1, D.TIi2⟩ hI), ⟨u, u2, (sb.2 _ D.TOz).trans O'⟩, b1.at fun o q => (sb.2 _ D.i1z).trans q, b2.at fun o q => (sb.2 _ D.i2z).trans q⟩, fun c hcm => ?_⟩
    have hlt : c < s.heap.objs.size := by
      rcases mm hcm with q | q | q | q | q <;> rw [q]
      · exact lz
      · exact Heap.lt_size hI
      · exact Heap.lt_size hO
      · exact Heap.lt_size h1.choose_spec.1
      · exact Heap.lt_size h2.choose_spec.1
    rw [upd_ne (Nat.ne_of_lt hlt)]
    exact (hf c hcm).1
  · intro X hP hw hK hc i pins s σ H E I hf st hg
    subst hP hw hK
    obtain ⟨hz, hI, ⟨x0, y0, hO⟩, h1, h2⟩ := st
    obtain ⟨xs, ys, sx, sy, hend⟩ := hg
    obtain ⟨its, rv, p, _⟩ := I.tuple sx
    obtain ⟨jts, rw', p2, _⟩ := I.list sy
    have he : its.toArray[i]? = none ∨ jts.toArray[i]? = none := by
      have n1 := rv.length
      have n2 := rw'.length
      rcases hend with q | q
      · exact .inl (by simp; omega)
      · exact .inr (by simp; omega)
    exact zx_stop (I.ok.hd hc) (hands_tup i1 a) (hands_list i2 b) D hz hI hO h1 h2 p p2.isList he fun g up => ⟨rfl, I.turnedL (t' := s.toks) (ch := [z, TI, TO, i1, i2]) (fun c o hb q => up c o (fr hb) q) hf⟩
def iZipM (K : PySem.W.Frag) (ta : TA) : TI := fun σ H R => ta σ H fun vs H1 => ∃ a b xs ys, vs = [.ref a, .ref b] ∧ SqT K H1 a xs ∧ SqL K H1 b ys ∧ R (ItzM K a b) H1
theorem pi_zipM {X : Cx} {e e2 : Expr} {ta : TA} {p pos tpos : Pos} {elts : List Expr} {kk : Nat} (K : PySem.W.Frag) (hg : Gl X "zip") (hm : X.mg "zip" = none) (ha : PA X [e, e2] ta) (hK : X.K = K := by rfl)
    (hs : starEach [e, e2] X.env = (false, eval e X.env) :: starEach [e2] X.env := by rfl) (hpl : (backTo pos (starEach [e2] X.env)).any (·.1) = false := by rfl) :
    PI X (.Tuple elts kk tpos) (.Call (.Name "zip" p) [e, e2] [] pos) (iZipM K ta) := by
  subst hK
  refine ⟨fun pins s σ H R I h => Call_ (ld_blt I hg hm PyProof.Rows.boot_zip (PyProof.Rows.callWith_type1 (thn (ha.run pos pins s σ H _ I h) fun us s1 ⟨vs, H1, I1, r1, q1⟩ => ?_) hs hpl))⟩
  obtain ⟨a, b, xs, ys, rfl, sx, sy, q⟩ := q1
  cases r1 with
  | cons r rr =>
    cases rr with
    | cons r' rr =>
      cases rr
      cases r
      cases r'
      obtain ⟨its, rv, p1, _⟩ := I1.tuple sx
      obtain ⟨jts, rv2, p2, _⟩ := I1.list sy
      have p1l : a < s1.heap.objs.size := Heap.lt_size p1.choose_spec.1
      refine call_zx (show s1.heap.IsTuple a its.toArray from p1) p2.isList fun g hz hI hO h1 h2 up => wpAny_pyIter_zip hz ?_
      refine ⟨s1.heap.objs.size + 4, [s1.heap.objs.size + 4, s1.heap.objs.size + 2, s1.heap.objs.size + 3, s1.heap.objs.size, s1.heap.objs.size + 1], _, _, H1, rfl, I1.kept (t' := s1.toks) up, turn_zipM (PySem.W.ktu_apart s1.heap.objs.size a b p1l p2.lt), ⟨hz, hI, ⟨_, _, hO⟩, h1, h2⟩, fun c hc => ?_, q⟩
      have hle : s1.heap.objs.size ≤ c := by
        have e : c = s1.heap.objs.size + 4 ∨ c = s1.heap.objs.size + 2 ∨ c = s1.heap.objs.size + 3 ∨ c = s1.heap.objs.size ∨ c = s1.heap.objs.size + 1 := by simpa using hc
        rcases e with q | q | q | q | q <;> rw [q] <;> first | exact Nat.le_refl _ | exact Nat.le_add_right _ _
      exact I1.fpOk hle (I1.hok.fresh hle)
end Tw

/-! loops -/
namespace Tw
open PySem PySem.Spec PyProof.Rows L2
abbrev WI := S → Option (List Da × S)
/-- an iterator hands out these, while what is data stands -/
structure Feed (M : Md) (J : It) (D0 : Hp) (ds : List Da) : Prop where
  go : ∀ i H, i < ds.length → Same D0 H → J.go i H
  stop : ∀ H, Same D0 H → J.stop ds.length H
  yld : ∀ (i : Nat) H v H' d D, ds[i]? = some d → Same D0 D → Same D H → J.yld i H v H' → Same H H' ∧ ∃ D', Same D D' ∧ Same D' H' ∧ (∀ a, D' a ≠ none → D a ≠ none ∨ H a = none) ∧ Dx M D' v d
def tWI (M : Md) (w : WI) : TI := fun σ H R => ∃ D s fp, EnvR M σ H D s fp ∧ ∃ ds s', w s = some (ds, s') ∧ ∀ J H' D' fp', Aft M σ H D s fp H' D' s' fp' → Feed M J D' ds → R J H'
def JI (M : Md) (X : Cx) (tg iter : Expr) (w : WI) : Prop := M.at X → PI X tg iter (tWI M w)
section
variable {M : Md} {X : Cx} {σ σ' : L2.St} {H D H' D' : Hp} {s s' : S} {fp fp' : Nat → List Addr}
theorem pi_mono {tg iter : Expr} {t u : TI} (h : PI X tg iter t) (k : ∀ σ H R, u σ H R → t σ H R) : PI X tg iter u := ⟨fun pins s σ H R I q => h.run pins s σ H R I (k σ H R q)⟩
theorem PI.or {tg iter : Expr} {t u : TI} (h : PI X tg iter t) (k : PI X tg iter u) : PI X tg iter (fun σ H R => t σ H R ∨ u σ H R) := ⟨fun pins s σ H R I q => q.elim (h.run pins s σ H R I) (k.run pins s σ H R I)⟩
theorem feed_walk {J : It} {xs : List V} {ds : List Da} {G : Hp → Prop} {D0 : Hp} (W : Walk J xs.length G (YAt xs)) (hx : Dxs M D0 xs ds) (hG : ∀ H, Same D0 H → G H) : Feed M J D0 ds := by
  have hl := dxs_len hx
  refine ⟨fun i H hi k => W.goes i H (by omega) (hG H k), fun H k => ?_, fun i H v H' d D hd k1 k2 y => ?_⟩
  · rw [← hl]
    exact W.stops H (hG H k)
  · have hi : i < xs.length := by
      have := (List.getElem?_eq_some_iff.mp hd).1
      omega
    obtain ⟨rfl, hv⟩ := W.yields i H v H' hi (hG H (same_trans k1 k2)) y
    obtain ⟨u, h1, h2⟩ := dxs_get hx hd
    rw [hv] at h1
    cases h1
    exact ⟨Same.refl _, D, Same.refl _, k2, fun _ h => .inl h, dx_mono k1 h2⟩
theorem feed_pair {J : It} {n : Nat} {xs ys : Nat → Option V} {ds : List Da} {G : Hp → Prop} {D0 : Hp} (W : Walk J n G (YPair xs ys)) (hn : n = ds.length) (hG : ∀ H, Same D0 H → G H) (hx : ∀ (i : Nat) x y d, ds[i]? = some d → xs i = some x → ys i = some y → ∃ c e, d = .tup [c, e] ∧ Dx M D0 x c ∧ Dx M D0 y e) : Feed M J D0 ds := by
  refine ⟨fun i H hi k => W.goes i H (by omega) (hG H k), fun H k => by rw [← hn]; exact W.stops H (hG H k), fun i H v H' d D hd k1 k2 y => ?_⟩
  have hi : i < n := by
    have := (List.getElem?_eq_some_iff.mp hd).1
    omega
  obtain ⟨T, x, z, rfl, hT, rfl, h1, h2⟩ := W.yields i H v H' hi (hG H (same_trans k1 k2)) y
  obtain ⟨c, e, rfl, x1, x2⟩ := hx i x z d hd h1 h2
  have hd : D T = none := k2.free hT
  have k3 : Same D (upd D T (.tup [x, z])) := same_new hd
  refine ⟨same_new hT, _, k3, fun a o ha => ?_, fun a ha => ?_, .tup (SqT.of upd_same) (.cons (dx_mono (same_trans k1 k3) x1) (.cons (dx_mono (same_trans k1 k3) x2) .nil))⟩
  · by_cases q : a = T
    · subst q
      rw [upd_same] at ha ⊢
      exact ha
    · rw [upd_ne q] at ha ⊢
      exact k2 _ _ ha
  · by_cases q : a = T
    · subst q
      exact .inr hT
    · rw [upd_ne q] at ha
      exact .inl ha
/-! ### what is walked -/
def chars (z : Str) : List Da := z.cps.toList.map fun c => .str ⟨#[c]⟩
def seqD : Da → Option (List Da)
  | .lst ds => some ds
  | .tup ds => some ds
  | .scr ds => some ds
  | .str z => some (chars z)
  | _ => none
def wIt (w : WE) : WI := fun s => (w s).bind fun p => (sto p.1 p.2).bind fun q => (seqD q.1).bind fun ds => some (ds, q.2)
theorem sok_mem {z : Str} {c : Nat} (h : SOk z) (k : c ∈ z.cps.toList) : SOk ⟨#[c]⟩ := by
  have h1 := h.1
  unfold PyData.strOk at h1
  rw [← Array.all_toList, List.all_eq_true] at h1
  refine ⟨?_, Nat.le_trans (show 1 ≤ 1 from Nat.le_refl _) (by decide)⟩
  unfold PyData.strOk
  rw [← Array.all_toList, List.all_eq_true]
  intro x hx
  simp at hx
  subst hx
  exact h1 _ k
theorem dxs_chars {z : Str} (h : SOk z) : Dxs M D (z.cps.toList.map fun c => V.str ⟨#[c]⟩) (chars z) := by
  unfold chars
  have : ∀ l : List Nat, (∀ c ∈ l, c ∈ z.cps.toList) → Dxs M D (l.map fun c => V.str ⟨#[c]⟩) (l.map fun c => Da.str ⟨#[c]⟩) := fun l => by
    induction l with
    | nil => exact fun _ => .nil
    | cons c r ih => exact fun k => .cons (.str (sok_mem h (k c (by simp)))) (ih fun x hx => k x (List.mem_cons_of_mem _ hx))
  exact this _ fun _ h => h
theorem ji_it {tg e : Expr} {w : WE} (h : J M X e w) : JI M X tg e (wIt w) := fun hM => by
  have hl := pi_mono (u := fun σ H R => ((tW M w) σ H fun x H1 => ∃ a, x = .ref a ∧ (∃ xs, SqL M.K H1 a xs) ∧ R (Itl M.K a) H1)) (pi_list (tg := tg) (h hM)) (by rw [hM.K]; exact fun _ _ _ h => h)
  have ht := pi_mono (u := fun σ H R => ((tW M w) σ H fun x H1 => ∃ a, x = .ref a ∧ (∃ xs, SqT M.K H1 a xs) ∧ R (Itt M.K a) H1)) (pi_tup (tg := tg) (h hM)) (by rw [hM.K]; exact fun _ _ _ h => h)
  have hs := pi_str (tg := tg) (h hM)
  refine pi_mono (PI.or hl (PI.or ht hs)) fun σ H R ⟨D, s, fp, e, ds, s', hw, q⟩ => ?_
  simp only [wIt, Option.bind_eq_some_iff, Option.some.injEq, Prod.mk.injEq] at hw
  obtain ⟨⟨r1, s1⟩, h1, ⟨d, s2⟩, h2, ds', h3, rfl, rfl⟩ := hw
  have key : ∀ v H1 D1 fp1 f1, Aft M σ H D s fp H1 D1 s1 fp1 → Val M σ H s fp H1 D1 s1 fp1 v r1 f1 → ∃ D2, Aft M σ H D s fp H1 D2 s2 fp1 ∧ Dx M D2 v d := fun v H1 D1 fp1 f1 a1 v1 => v1.sto a1 h2
  cases d with
  | lst ds =>
    cases h3
    refine .inl ⟨D, s, fp, e, r1, s1, h1, fun v H1 D1 fp1 f1 a1 v1 => ?_⟩
    obtain ⟨D2, a2, x2⟩ := key v H1 D1 fp1 f1 a1 v1
    obtain ⟨a, vs, rfl, k1, k2⟩ := dx_lst x2
    exact ⟨a, rfl, ⟨vs, SqL.of (a2.e.sub _ _ k1)⟩, q _ _ _ _ a2 (feed_walk (walk_list (K := M.K) (a := a) (xs := vs)) k2 fun H' k => SqL.of (k _ _ k1))⟩
  | scr ds =>
    cases h3
    refine .inl ⟨D, s, fp, e, r1, s1, h1, fun v H1 D1 fp1 f1 a1 v1 => ?_⟩
    obtain ⟨D2, a2, x2⟩ := key v H1 D1 fp1 f1 a1 v1
    cases x2 with
    | scr k1 k2 => exact ⟨_, rfl, ⟨_, a2.e.sub.seq k1⟩, q _ _ _ _ a2 (feed_walk (walk_list (K := M.K)) k2 fun H' k => k.seq k1)⟩
  | tup ds =>
    cases h3
    refine .inr (.inl ⟨D, s, fp, e, r1, s1, h1, fun v H1 D1 fp1 f1 a1 v1 => ?_⟩)
    obtain ⟨D2, a2, x2⟩ := key v H1 D1 fp1 f1 a1 v1
    obtain ⟨a, vs, rfl, k1, k2⟩ := dx_tup x2
    exact ⟨a, rfl, ⟨vs, same_sqt a2.e.sub k1⟩, q _ _ _ _ a2 (feed_walk (walk_tup (K := M.K) (a := a) (xs := vs)) k2 fun H' k => same_sqt k k1)⟩
  | str z =>
    cases h3
    refine .inr (.inr ⟨D, s, fp, e, r1, s1, h1, fun v H1 D1 fp1 f1 a1 v1 => ?_⟩)
    obtain ⟨D2, a2, x2⟩ := key v H1 D1 fp1 f1 a1 v1
    cases x2 with
    | str k =>
      have W := (walk_str (z := z)).mono (Y' := YAt (z.cps.toList.map fun c => V.str ⟨#[c]⟩)) (fun _ h => h) fun i H x H' hi _ y => by
        obtain ⟨e1, c, hc, rfl⟩ := y
        refine ⟨e1, ?_⟩
        rw [List.getElem?_map]
        have : z.cps.toList[i]? = some c := by simpa using hc
        rw [this]
        rfl
      have hn : z.cps.size = (z.cps.toList.map fun c => V.str ⟨#[c]⟩).length := by simp
      rw [hn] at W
      exact ⟨z, rfl, q _ _ _ _ a2 (feed_walk W (dxs_chars k) fun _ _ => trivial)⟩
  | _ => cases h3
/-! range -/
def rngD (lo : Int) (n : Nat) : List Da := (List.range n).map fun i => .int (lo + (i : Nat))
theorem dxs_rng (lo : Int) (n : Nat) : Dxs M D ((List.range n).map fun i => V.int (lo + (i : Nat))) (rngD lo n) := by
  unfold rngD
  induction List.range n with
  | nil => exact .nil
  | cons a r ih => exact .cons (.int _) ih
theorem walk_rngV {lo : Int} {n : Nat} : Walk (Itr lo n) ((List.range n).map fun i => V.int (lo + (i : Nat))).length (fun _ => True) (YAt ((List.range n).map fun i => V.int (lo + (i : Nat)))) := by
  rw [List.length_map, List.length_range]
  refine (walk_range (lo := lo) (n := n)).mono (fun _ h => h) fun i H x H' hi _ y => ⟨y.1, ?_⟩
  rw [List.getElem?_map, List.getElem?_range hi, y.2]
  rfl
def small (j : Int) : Bool := decide (-(2 ^ 62) ≤ j) && decide (j < 2 ^ 62)
def wRange1 (w : WA) : WI := fun s => (w s).bind fun p => match p.1 with
  | [.d (.int j)] => if small j = true then some (rngD 0 j.toNat, p.2) else none
  | _ => none
def wRange2 (w : WA) : WI := fun s => (w s).bind fun p => match p.1 with
  | [.d (.int i), .d (.int j)] => if (small i && small j) = true then some (rngD i (j - i).toNat, p.2) else none
  | _ => none
theorem ji_range1 {tg a : Expr} {p pos : Pos} {w : WA} (hm : M.mg "range" = none) (h : JA M X [a] w) (hg : Gl X "range" := by rfl) (hs : starEach [a] X.env = [(false, eval a X.env)] := by rfl) : JI M X tg (.Call (.Name "range" p) [a] [] pos) (wRange1 w) := fun hM => pi_mono (pi_range1 hg (by rw [hM.mg]; exact hm) (h hM) hs) fun σ H R ⟨D, s, fp, e, ds, s', hw, q⟩ => by
  simp only [wRange1, Option.bind_eq_some_iff] at hw
  obtain ⟨⟨r1, s1⟩, h1, h2⟩ := hw
  refine ⟨D, s, fp, e, r1, s1, h1, fun v H1 D1 fp1 f1 a1 v1 => ?_⟩
  simp only at h2
  split at h2
  · split at h2
    · rename_i j hj
      cases h2
      simp only [small, Bool.and_eq_true, decide_eq_true_eq] at hj
      have hv := v1.v
      cases hv with
      | cons k1 k2 _ =>
        cases k2
        exact ⟨j, by rw [vr_int k1], hj.1, hj.2, q _ _ _ _ a1 (feed_walk walk_rngV (dxs_rng 0 j.toNat) fun _ _ => trivial)⟩
    · cases h2
  · cases h2
theorem ji_range2 {tg a b : Expr} {p pos : Pos} {w : WA} (hm : M.mg "range" = none) (h : JA M X [a, b] w) (hg : Gl X "range" := by rfl) (hs : starEach [a, b] X.env = [(false, eval a X.env), (false, eval b X.env)] := by rfl) (hs2 : starEach [b] X.env = [(false, eval b X.env)] := by rfl) : JI M X tg (.Call (.Name "range" p) [a, b] [] pos) (wRange2 w) := fun hM => pi_mono (pi_range2 hg (by rw [hM.mg]; exact hm) (h hM) hs hs2) fun σ H R ⟨D, s, fp, e, ds, s', hw, q⟩ => by
  simp only [wRange2, Option.bind_eq_some_iff] at hw
  obtain ⟨⟨r1, s1⟩, h1, h2⟩ := hw
  refine ⟨D, s, fp, e, r1, s1, h1, fun v H1 D1 fp1 f1 a1 v1 => ?_⟩
  simp only at h2
  split at h2
  · split at h2
    · rename_i i j hj
      cases h2
      simp only [small, Bool.and_eq_true, decide_eq_true_eq] at hj
      obtain ⟨x, y, _, _, rfl, k1, k2⟩ := vrs_two v1.v
      exact ⟨i, j, by rw [vr_int k1, vr_int k2], ⟨hj.1.1, hj.1.2, hj.2.1, hj.2.2⟩, q _ _ _ _ a1 (feed_walk walk_rngV (dxs_rng i (j - i).toNat) fun _ _ => trivial)⟩
    · cases h2
  · cases h2
/-! enumerate, zip -/
def enumD : Nat → List Da → List Da
  | _, [] => []
  | i, d :: r => .tup [.int (i : Nat), d] :: enumD (i + 1) r
theorem enumD_get : ∀ (ds : List Da) (k i : Nat) (d : Da), (enumD k ds)[i]? = some d → ∃ e, ds[i]? = some e ∧ d = .tup [.int ((k + i : Nat) : Int), e]
  | [], _, _, _, h => by simp [enumD] at h
  | e :: r, k, 0, d, h => by
    simp [enumD] at h
    exact ⟨e, rfl, h.symm⟩
  | e :: r, k, i + 1, d, h => by
    simp only [enumD, List.getElem?_cons_succ] at h
    obtain ⟨c, h1, h2⟩ := enumD_get r (k + 1) i d h
    exact ⟨c, by simpa using h1, by rw [h2]; congr 3; omega⟩
theorem enumD_len : ∀ (ds : List Da) (k : Nat), (enumD k ds).length = ds.length
  | [], _ => rfl
  | _ :: r, k => congrArg Nat.succ (enumD_len r (k + 1))
def lstD : Da → Option (List Da)
  | .lst ds => some ds
  | _ => none
def wEnum (w : WA) : WI := fun s => (w s).bind fun p => (stos p.1 p.2).bind fun q => match q.1 with
  | [.lst ds] => some (enumD 0 ds, q.2)
  | _ => none
theorem ji_enum {e : Expr} {p pos tpos : Pos} {elts : List Expr} {kk : Nat} {w : WA} (hm : M.mg "enumerate" = none) (h : JA M X [e] w) (hg : Gl X "enumerate" := by rfl) (hs : starEach [e] X.env = [(false, eval e X.env)] := by rfl) : JI M X (.Tuple elts kk tpos) (.Call (.Name "enumerate" p) [e] [] pos) (wEnum w) := fun hM => pi_mono (pi_enum hg (by rw [hM.mg]; exact hm) (h hM) hs) fun σ H R ⟨D, s, fp, e, ds, s', hw, q⟩ => by
  simp only [wEnum, Option.bind_eq_some_iff] at hw
  obtain ⟨⟨r1, s1⟩, h1, ⟨ds1, s2⟩, h2, h3⟩ := hw
  refine ⟨D, s, fp, e, r1, s1, h1, fun v H1 D1 fp1 f1 a1 v1 => ?_⟩
  simp only at h3
  split at h3
  · rename_i es
    cases h3
    obtain ⟨D2, a2, x2⟩ := v1.stos a1 h2
    cases x2 with
    | cons x2 x3 =>
      cases x3
      obtain ⟨a, vs, rfl, k1, k2⟩ := dx_lst x2
      refine ⟨a, vs, rfl, SqL.of (a2.e.sub _ _ k1), q _ _ _ _ a2 (feed_pair (by rw [hM.K]; exact walk_enum (K := M.K) (a := a) (xs := vs)) (by rw [enumD_len, dxs_len k2]) (fun H k => SqL.of (k _ _ k1)) fun i x y d hd hx hy => ?_)⟩
      obtain ⟨c, h4, rfl⟩ := enumD_get _ _ _ _ hd
      obtain ⟨u, h5, h6⟩ := dxs_get k2 h4
      rw [hy] at h5
      cases h5
      cases hx
      rw [Nat.zero_add]
      exact ⟨_, _, rfl, .int _, h6⟩
  · cases h3
def zipD : List Da → List Da → List Da
  | a :: r, b :: t => .tup [a, b] :: zipD r t
  | _, _ => []
theorem zipD_get : ∀ (as bs : List Da) (i : Nat) (d : Da), (zipD as bs)[i]? = some d → ∃ x y, as[i]? = some x ∧ bs[i]? = some y ∧ d = .tup [x, y]
  | [], _, _, _, h => by simp [zipD] at h
  | _ :: _, [], _, _, h => by simp [zipD] at h
  | a :: r, b :: t, 0, d, h => by
    simp [zipD] at h
    exact ⟨a, b, rfl, rfl, h.symm⟩
  | a :: r, b :: t, i + 1, d, h => by
    simp only [zipD, List.getElem?_cons_succ] at h
    obtain ⟨x, y, h1, h2, h3⟩ := zipD_get r t i d h
    exact ⟨x, y, by simpa using h1, by simpa using h2, h3⟩
theorem zipD_len : ∀ (as bs : List Da), (zipD as bs).length = min as.length bs.length
  | [], _ => by simp [zipD]
  | _ :: _, [] => by simp [zipD]
  | a :: r, b :: t => by
    simp only [zipD, List.length_cons, zipD_len r t]
    omega
theorem walk_zipT {K : PySem.W.Frag} {a b : Addr} {xs ys : List V} {n : Nat} (hn : n = min xs.length ys.length) : Walk (RZ.ItzT K a b) n (fun H => SqT K H a xs ∧ SqT K H b ys) (YPair (fun i => xs[i]?) (fun i => ys[i]?)) := by
  refine ⟨fun i H hi h => ?_, fun H h => ?_, fun i H x H' hi h y => ?_⟩
  · exact ⟨xs, ys, xs[i], ys[i], h.1, h.2, List.getElem?_eq_getElem (by omega), List.getElem?_eq_getElem (by omega)⟩
  · exact ⟨xs, ys, h.1, h.2, by omega⟩
  · obtain ⟨T, x, y, e, hT, eH, h1, h2⟩ := y
    exact ⟨T, x, y, e, hT, eH, h1 xs h.1, h2 ys h.2⟩
theorem walk_zipM {K : PySem.W.Frag} {a b : Addr} {xs ys : List V} {n : Nat} (hn : n = min xs.length ys.length) : Walk (ItzM K a b) n (fun H => SqT K H a xs ∧ SqL K H b ys) (YPair (fun i => xs[i]?) (fun i => ys[i]?)) := by
  refine ⟨fun i H hi h => ?_, fun H h => ?_, fun i H x H' hi h y => ?_⟩
  · exact ⟨xs, ys, xs[i], ys[i], h.1, h.2, List.getElem?_eq_getElem (by omega), List.getElem?_eq_getElem (by omega)⟩
  · exact ⟨xs, ys, h.1, h.2, by omega⟩
  · obtain ⟨T, x, y, e, hT, eH, h1, h2⟩ := y
    exact ⟨T, x, y, e, hT, eH, h1 xs h.1, h2 ys h.2⟩
def wZip (w : WA) : WI := fun s => (w s).bind fun p => (stos p.1 p.2).bind fun q => match q.1 with
  | [.lst as, .lst bs] => some (zipD as bs, q.2)
  | [.tup as, .tup bs] => some (zipD as bs, q.2)
  | [.tup as, .lst bs] => some (zipD as bs, q.2)
  | _ => none
theorem feed_zip {J : It} {xs ys : List V} {as bs : List Da} {G : Hp → Prop} {D0 : Hp} (W : Walk J (min xs.length ys.length) G (YPair (fun i => xs[i]?) (fun i => ys[i]?))) (hG : ∀ H, Same D0 H → G H) (hx : Dxs M D0 xs as) (hy : Dxs M D0 ys bs) : Feed M J D0 (zipD as bs) := by
  refine feed_pair W (by rw [zipD_len, dxs_len hx, dxs_len hy]) hG fun i x y d hd h1 h2 => ?_
  obtain ⟨c, e, k1, k2, rfl⟩ := zipD_get _ _ _ _ hd
  obtain ⟨u, h3, h4⟩ := dxs_get hx k1
  obtain ⟨u', h5, h6⟩ := dxs_get hy k2
  rw [h1] at h3
  rw [h2] at h5
  cases h3
  cases h5
  exact ⟨c, e, rfl, h4, h6⟩
theorem ji_zip {e e2 : Expr} {p pos tpos : Pos} {elts : List Expr} {kk : Nat} {w : WA} (hm : M.mg "zip" = none) (h : JA M X [e, e2] w) (hg : Gl X "zip" := by rfl) (hs : starEach [e, e2] X.env = (false, eval e X.env) :: starEach [e2] X.env := by rfl) (hpl : (backTo pos (starEach [e2] X.env)).any (·.1) = false := by rfl) : JI M X (.Tuple elts kk tpos) (.Call (.Name "zip" p) [e, e2] [] pos) (wZip w) := fun hM => by
  have hA := RZ.pi_zipA (elts := elts) (kk := kk) (tpos := tpos) (p := p) hg (by rw [hM.mg]; exact hm) (h hM) hs hpl
  have hB := pi_zipM (elts := elts) (kk := kk) (tpos := tpos) (p := p) M.K hg (by rw [hM.mg]; exact hm) (h hM) hM.K hs hpl
  refine pi_mono (PI.or hA hB) fun σ H R ⟨D, s, fp, e, ds, s', hw, q⟩ => ?_
  simp only [wZip, Option.bind_eq_some_iff] at hw
  obtain ⟨⟨r1, s1⟩, h1, ⟨ds1, s2⟩, h2, h3⟩ := hw
  simp only at h3
  split at h3
  · cases h3
    refine .inl ⟨D, s, fp, e, r1, s1, h1, fun v H1 D1 fp1 f1 a1 v1 => ?_⟩
    obtain ⟨D2, a2, x2⟩ := v1.stos a1 h2
    cases x2 with
    | cons x2 x3 =>
      cases x3 with
      | cons x3 x4 =>
        cases x4
        obtain ⟨a, vs, rfl, k1, k2⟩ := dx_lst x2
        obtain ⟨b, us, rfl, k3, k4⟩ := dx_lst x3
        exact ⟨a, b, vs, us, rfl, .inl ⟨SqL.of (a2.e.sub _ _ k1), SqL.of (a2.e.sub _ _ k3), q _ _ _ _ a2 (feed_zip (walk_zip rfl) (fun H k => ⟨SqL.of (k _ _ k1), SqL.of (k _ _ k3)⟩) k2 k4)⟩⟩
  · cases h3
    refine .inl ⟨D, s, fp, e, r1, s1, h1, fun v H1 D1 fp1 f1 a1 v1 => ?_⟩
    obtain ⟨D2, a2, x2⟩ := v1.stos a1 h2
    cases x2 with
    | cons x2 x3 =>
      cases x3 with
      | cons x3 x4 =>
        cases x4
        obtain ⟨a, vs, rfl, k1, k2⟩ := dx_tup x2
        obtain ⟨b, us, rfl, k3, k4⟩ := dx_tup x3
        rw [← hM.K] at k1 k3
        exact ⟨a, b, vs, us, rfl, .inr ⟨same_sqt a2.e.sub k1, same_sqt a2.e.sub k3, q _ _ _ _ a2 (feed_zip (walk_zipT rfl) (fun H k => ⟨same_sqt k k1, same_sqt k k3⟩) k2 k4)⟩⟩
  · cases h3
    refine .inr ⟨D, s, fp, e, r1, s1, h1, fun v H1 D1 fp1 f1 a1 v1 => ?_⟩
    obtain ⟨D2, a2, x2⟩ := v1.stos a1 h2
    cases x2 with
    | cons x2 x3 =>
      cases x3 with
      | cons x3 x4 =>
        cases x4
        obtain ⟨a, vs, rfl, k1, k2⟩ := dx_tup x2
        obtain ⟨b, us, rfl, k3, k4⟩ := dx_lst x3
        exact ⟨a, b, vs, us, rfl, same_sqt a2.e.sub k1, SqL.of (a2.e.sub _ _ k3), q _ _ _ _ a2 (feed_zip (walk_zipM rfl) (fun H k => ⟨same_sqt k k1, SqL.of (k _ _ k3)⟩) k2 k4)⟩
  · cases h3
/-! ### for -/
def loopS (g : WG) (b : WS) : List Da → S → Option (Fl × S)
  | [], s => some (.nx, s)
  | d :: r, s => (g (.d d) s).bind fun s1 => (b s1).bind fun p => match p.1 with
    | .nx => loopS g b r p.2
    | .ct => loopS g b r p.2
    | .bk => some (.nx, p.2)
    | .rt v => some (.rt v, p.2)
def wFor (wi : WI) (g : WG) (b : WS) : WS := fun s => (wi s).bind fun p => loopS g b p.1 p.2
theorem js_for {tg iter : Expr} {body : List Stmt} {pos : Pos} {wi : WI} {g : WG} {b : WS} {T U : List Nat} (hp : PassesOwn (model X.prog X.w) X.A X.env X.xe) (hc : X.calm = true) (hi : JI M X tg iter wi) (hg : JG M X tg g T) (hb : JSs M X body b U) (hs : ∀ x, foldedSetIterable iter X.env x = pure x := by intro _; rfl) :
    JS M X (.For tg iter body [] pos) (wFor wi g b) (T ++ U) := fun hM => ps_mono (ps_for hp hc (hi hM) (hg hM) (hb hM) hs) fun E σ H ⟨D, s, fp, e, fl, s', hw, q⟩ => by
  simp only [wFor, Option.bind_eq_some_iff] at hw
  obtain ⟨⟨ds, s1⟩, h1, h2⟩ := hw
  refine ⟨D, s, fp, e, ds, s1, h1, fun J H1 D1 fp1 a1 F => ?_⟩
  refine ⟨fun i m σ1 H1 => m = ds.length - i ∧ i ≤ ds.length ∧ ∃ D2 s2 fp2, AftS M σ H D s fp (T ++ U) σ1 H1 D2 s2 fp2 ∧ Same D1 D2 ∧ loopS g b (ds.drop i) s2 = some (fl, s'), ⟨ds.length, by simp, Nat.zero_le _, D1, s1, fp1, a1.toS.mem (fun _ h => by simp at h), Same.refl _, h2⟩, ?_⟩
  rintro i m σ2 H2 ⟨rfl, hi, D2, s2, fp2, a2, k2, h3⟩
  by_cases hlt : i < ds.length
  · have hd : ds[i]? = some ds[i] := List.getElem?_eq_getElem hlt
    rw [List.drop_eq_getElem_cons hlt] at h3
    simp only [loopS, Option.bind_eq_some_iff] at h3
    obtain ⟨s3, h3, ⟨fl2, s4⟩, h4, h5⟩ := h3
    refine .inr ⟨F.go i H2 hlt (same_trans k2 a2.e.sub), _, fun σ' H' hw => ⟨ds.length - (i + 1), by omega, hw⟩, fun v H3 y => ?_⟩
    obtain ⟨sm, D3, e1, e2, e3, x3⟩ := F.yld i H2 v H3 _ D2 hd k2 a2.e.sub y
    obtain ⟨e4, st4⟩ := a2.e.grow sm e1 e2 e3
    refine ⟨D3, s2, fp2, .d ds[i], [], e4, .d x3, fun _ h => by simp at h, s3, h3, fun σ5 H5 D5 fp5 a5 => ?_⟩
    have a4 : AftS M σ H D s fp (T ++ U) σ2 H3 D3 s2 fp2 := ⟨e4, a2.st.trans st4, a2.len, a2.off⟩
    have a5' := (a4.store (f := []) (fun _ h => by simp at h) a5).mem (U := T ++ U) fun j hj => by
      rcases List.mem_append.mp hj with hj | hj
      · exact hj
      · exact List.mem_append_left _ hj
    refine ⟨D5, s3, fp5, a5.e, fl2, s4, h4, fun σ6 H6 D6 fp6 a6 => ?_⟩
    have a6' := (a5'.trans a6).mem (U := T ++ U) fun j hj => by
      rcases List.mem_append.mp hj with hj | hj
      · exact hj
      · exact List.mem_append_right _ hj
    have k6 : Same D1 D6 := same_trans k2 (same_trans e1 (same_trans a5.st.dd a6.st.dd))
    simp only at h5
    split at h5
    · exact ⟨rfl, hlt, D6, s4, fp6, a6', k6, h5⟩
    · exact ⟨rfl, hlt, D6, s4, fp6, a6', k6, h5⟩
    · cases h5
      exact q _ _ _ _ a6'
    · cases h5
      intro v f hv
      exact q _ _ _ _ a6' v f (hv.back a5'.st)
  · have e : i = ds.length := by omega
    subst e
    rw [List.drop_length] at h3
    cases h3
    exact .inl ⟨F.stop H2 (same_trans k2 a2.e.sub), q _ _ _ _ a2⟩
/-! ### while -/
def loopW (c : WT) (b : WS) : Nat → S → Option (Fl × S)
  | 0, _ => none
  | n + 1, s => (c s).bind fun p => if p.1 = true then (b p.2).bind fun q => match q.1 with
    | .nx => loopW c b n q.2
    | .ct => loopW c b n q.2
    | .bk => some (.nx, q.2)
    | .rt v => some (.rt v, q.2)
    else some (.nx, p.2)
theorem js_while {c : Expr} {body : List Stmt} {pos : Pos} {wc : WT} {b : WS} {U : List Nat} (n : Nat) (hp : PassesOwn (model X.prog X.w) X.A X.env X.xe) (hc : JT M X c wc) (hb : JSs M X body b U) : JS M X (.While c body [] pos) (loopW wc b n) U := fun hM => ps_mono (ps_while hp (hc hM) (hb hM)) fun E σ H ⟨D, s, fp, e, fl, s', hw, q⟩ => by
  refine ⟨fun m σ1 H1 => ∃ D2 s2 fp2, AftS M σ H D s fp U σ1 H1 D2 s2 fp2 ∧ loopW wc b m s2 = some (fl, s'), ⟨n, D, s, fp, aftS_refl e, hw⟩, ?_⟩
  rintro m σ2 H2 ⟨D2, s2, fp2, a2, h3⟩
  cases m with
  | zero => cases h3
  | succ m =>
    simp only [loopW, Option.bind_eq_some_iff] at h3
    obtain ⟨⟨b1, s3⟩, h3, h4⟩ := h3
    refine ⟨D2, s2, fp2, a2.e, b1, s3, h3, fun H3 D3 fp3 a3 => ?_⟩
    have a3' := (a2.trans a3.toS).mem (U := U) fun j hj => by simpa using hj
    cases b1 with
    | true =>
      simp only [if_pos] at h4
      show (if true = true then _ else _)
      rw [if_pos rfl]
      simp only [Option.bind_eq_some_iff] at h4
      obtain ⟨⟨fl2, s4⟩, h4, h5⟩ := h4
      refine ⟨_, fun σ' H' hw => ⟨m, Nat.lt_succ_self m, hw⟩, D3, s3, fp3, a3.e, fl2, s4, h4, fun σ6 H6 D6 fp6 a6 => ?_⟩
      have a6' := (a3'.trans a6).mem (U := U) fun j hj => by simpa using hj
      simp only at h5
      split at h5
      · exact ⟨D6, s4, fp6, a6', h5⟩
      · exact ⟨D6, s4, fp6, a6', h5⟩
      · cases h5
        exact q _ _ _ _ a6'
      · cases h5
        intro v f hv
        exact q _ _ _ _ a6' v f (hv.back a3'.st)
    | false =>
      show (if false = true then _ else _)
      rw [if_neg Bool.false_ne_true]
      simp only [Bool.false_eq_true, if_false] at h4
      cases h4
      exact q _ _ _ _ a3'
end
end Tw

/-! list comprehensions -/
namespace Tw
open PySem PySem.Spec PyProof.Rows L2
def wipeS (s : S) : List Nat → S
  | [] => s
  | v :: vs => (wipeS s vs).set v .un
/-- the block's own slots as they were ahead of it -/
def backS (s0 : S) : List Nat → S → S
  | [], s => s
  | v :: vs, s => match s0[v]? with
    | some x => (backS s0 vs s).set v x
    | none => backS s0 vs s
theorem wipeS_len (s : S) : ∀ vs, (wipeS s vs).length = s.length
  | [] => rfl
  | v :: vs => by unfold wipeS; rw [List.length_set, wipeS_len s vs]
theorem backS_len (s0 s : S) : ∀ vs, (backS s0 vs s).length = s.length
  | [] => rfl
  | v :: vs => by
    unfold backS
    split
    · rw [List.length_set, backS_len s0 s vs]
    · exact backS_len s0 s vs
theorem wipeS_out {s : S} {i : Nat} : ∀ {vs : List Nat}, i ∉ vs → (wipeS s vs)[i]? = s[i]?
  | [], _ => rfl
  | v :: vs, h => by
    unfold wipeS
    rw [List.getElem?_set, if_neg (fun z => h (by rw [z]; simp))]
    exact wipeS_out fun z => h (List.mem_cons_of_mem _ z)
theorem wipeS_in {s : S} {i : Nat} {x : SV} : ∀ {vs : List Nat}, i ∈ vs → (wipeS s vs)[i]? = some x → x = .un
  | v :: vs, h, q => by
    unfold wipeS at q
    rcases set_get q with ⟨_, e⟩ | ⟨ne, q⟩
    · exact e
    · rcases List.mem_cons.mp h with z | z
      · exact absurd z.symm ne
      · exact wipeS_in z q
theorem backS_out {s0 s : S} {i : Nat} : ∀ {vs : List Nat}, i ∉ vs → (backS s0 vs s)[i]? = s[i]?
  | [], _ => rfl
  | v :: vs, h => by
    unfold backS
    split
    · rw [List.getElem?_set, if_neg (fun z => h (by rw [z]; simp))]
      exact backS_out fun z => h (List.mem_cons_of_mem _ z)
    · exact backS_out fun z => h (List.mem_cons_of_mem _ z)
theorem backS_in {s0 s : S} {i : Nat} (hl : s.length = s0.length) : ∀ {vs : List Nat}, i ∈ vs → (backS s0 vs s)[i]? = s0[i]?
  | v :: vs, h => by
    unfold backS
    by_cases z : v = i
    · subst z
      split
      · rename_i x hx
        have := (List.getElem?_eq_some_iff.mp hx).1
        rw [List.getElem?_set, if_pos rfl, if_pos (by rw [backS_len, hl]; exact this), hx]
      · rename_i hx
        rw [hx]
        have := List.getElem?_eq_none_iff.mp hx
        exact List.getElem?_eq_none_iff.mpr (by rw [backS_len, hl]; exact this)
    · have hm : i ∈ vs := (List.mem_cons.mp h).resolve_left fun q => z q.symm
      split
      · rw [List.getElem?_set, if_neg z]
        exact backS_in hl hm
      · exact backS_in hl hm
theorem wipe_in {σ : L2.St} {i : Nat} {x : Option V} : ∀ {vs : List Nat}, i ∈ vs → (wipe σ vs)[i]? = some x → x = none
  | v :: vs, h, q => by
    unfold wipe at q
    rcases set_get q with ⟨_, e⟩ | ⟨ne, q⟩
    · exact e
    · rcases List.mem_cons.mp h with z | z
      · exact absurd z.symm ne
      · exact wipe_in z q
theorem wipe_same {σ σ2 : L2.St} {vs : List Nat} (hl : σ2.length = σ.length) (h : ∀ i, i ∉ vs → σ2[i]? = σ[i]?) : wipe σ2 vs = wipe σ vs := by
  refine List.ext_getElem? fun i => ?_
  by_cases hi : i ∈ vs
  · cases q : (wipe σ2 vs)[i]? with
    | none =>
      have := List.getElem?_eq_none_iff.mp q
      rw [wipe_length] at this
      exact (List.getElem?_eq_none_iff.mpr (by rw [wipe_length]; omega)).symm
    | some x =>
      cases q' : (wipe σ vs)[i]? with
      | none =>
        have h1 := List.getElem?_eq_none_iff.mp q'
        have h2 := (List.getElem?_eq_some_iff.mp q).1
        rw [wipe_length] at h1 h2
        omega
      | some y => rw [wipe_in hi q, wipe_in hi q']
  · rw [wipe_out hi, wipe_out hi, h i hi]
section
variable {M : Md} {X : Cx} {σ σ' : L2.St} {H D H' D' : Hp} {s s' : S} {fp fp' : Nat → List Addr}
theorem own_wipe {vs : List Nat} {a : Addr} (h : Own (wipeS s vs) fp a) : Own s fp a := by
  obtain ⟨i, d, hi, ha⟩ := h
  by_cases z : i ∈ vs
  · cases wipeS_in z hi
  · rw [wipeS_out z] at hi
    exact ⟨i, d, hi, ha⟩
theorem EnvR.wipe (e : EnvR M σ H D s fp) (vs : List Nat) : EnvR M (wipe σ vs) H D (wipeS s vs) fp := by
  have key : ∀ {i x}, (wipeS s vs)[i]? = some x → x ≠ .un → i ∉ vs ∧ s[i]? = some x := fun {i x} h n => by
    by_cases z : i ∈ vs
    · exact absurd (wipeS_in z h) n
    · rw [wipeS_out z] at h
      exact ⟨z, h⟩
  refine ⟨e.sub, by rw [wipe_length, wipeS_len]; exact e.len, fun i d h => ?_, fun i d h => ?_, fun i j d c hi hj => ?_⟩
  · obtain ⟨z, h⟩ := key h (fun z => nomatch z)
    obtain ⟨v, a, b⟩ := e.dt i d h
    exact ⟨v, by rw [wipe_out z]; exact a, b⟩
  · obtain ⟨z, h⟩ := key h (fun z => nomatch z)
    obtain ⟨v, a, b⟩ := e.ow i d h
    exact ⟨v, by rw [wipe_out z]; exact a, b⟩
  · exact e.dj i j d c (key hi (fun z => nomatch z)).2 (key hj (fun z => nomatch z)).2
/-- none of these slots holds a thing of its own -/
def noOwn (s : S) (vs : List Nat) : Bool := vs.all fun v => match s[v]? with
  | some (SV.own _) => false
  | _ => true
theorem noOwn_at {vs : List Nat} (h : noOwn s vs = true) {i : Nat} (hi : i ∈ vs) {d : Da} : s[i]? ≠ some (SV.own d) := fun q => by
  have := List.all_eq_true.mp h i hi
  rw [q] at this
  cases this
theorem EnvR.back {vs : List Nat} (e0 : EnvR M σ H D s fp) (hn : noOwn s vs = true) (e : EnvR M (L2.wipe σ vs) H' D' s' fp') (hl : s'.length = s.length) (k : Same D D') : EnvR M σ H' D' (backS s vs s') fp' := by
  have key : ∀ {i d}, (backS s vs s')[i]? = some (SV.own d) → i ∉ vs ∧ s'[i]? = some (SV.own d) := fun {i d} h => by
    by_cases z : i ∈ vs
    · rw [backS_in hl z] at h
      exact absurd h (noOwn_at hn z)
    · rw [backS_out z] at h
      exact ⟨z, h⟩
  refine ⟨e.sub, by rw [backS_len, hl]; exact e0.len, fun i d h => ?_, fun i d h => ?_, fun i j d c hi hj => e.dj i j d c (key hi).2 (key hj).2⟩
  · by_cases z : i ∈ vs
    · rw [backS_in hl z] at h
      obtain ⟨v, a, b⟩ := e0.dt i d h
      exact ⟨v, a, dx_mono k b⟩
    · rw [backS_out z] at h
      obtain ⟨v, a, b⟩ := e.dt i d h
      exact ⟨v, by rw [wipe_out z] at a; exact a, b⟩
  · obtain ⟨z, h⟩ := key h
    obtain ⟨v, a, b⟩ := e.ow i d h
    exact ⟨v, by rw [wipe_out z] at a; exact a, b⟩
theorem own_back {vs : List Nat} (hn : noOwn s vs = true) (hl : s'.length = s.length) {a : Addr} (h : Own (backS s vs s') fp a) : Own s' fp a := by
  obtain ⟨i, d, hi, ha⟩ := h
  by_cases z : i ∈ vs
  · rw [backS_in hl z] at hi
    exact absurd hi (noOwn_at hn z)
  · rw [backS_out z] at hi
    exact ⟨i, d, hi, ha⟩
/-! ### tests of a comprehension -/
def JTs (M : Md) (X : Cx) (es : List Expr) (w : WT) : Prop := M.at X → PTs X es (tWT M w)
theorem pts_mono {es : List Expr} {t u : TT} (h : PTs X es t) (k : ∀ σ H Q, u σ H Q → t σ H Q) : PTs X es u := ⟨fun pins s σ H Q I q => h.run pins s σ H Q I (k σ H Q q)⟩
def wYes : WT := fun s => some (true, s)
theorem jts_nil : JTs M X [] wYes := fun _ => pts_mono pts_nil fun σ H Q ⟨D, s, fp, e, r, s', hw, q⟩ => by
  cases hw
  exact q _ _ _ (aft_refl e)
theorem jts_one {c : Expr} {w : WT} (h : JT M X c w) : JTs M X [c] w := fun hM => pts_one (h hM)
/-! ### the loop -/
def loopC (vs : List Nat) (g : WG) (t : WT) (e : WE) : List Da → S → Option (List Da × S)
  | [], s => some ([], s)
  | d :: r, s => (g (.d d) s).bind fun s1 => (t s1).bind fun p => if p.1 = true then (e p.2).bind fun q => (sto q.1 q.2).bind fun u => (loopC vs g t e r (wipeS u.2 vs)).bind fun z => some (u.1 :: z.1, z.2) else loopC vs g t e r (wipeS p.2 vs)
def wLc (vs : List Nat) (wi : WI) (g : WG) (t : WT) (e : WE) : WE := fun s => (wi s).bind fun p => if noOwn p.2 vs = true then (loopC vs g t e p.1 (wipeS p.2 vs)).bind fun q => if q.1.length ≤ 100000 then some (.n (.lst q.1), backS p.2 vs q.2) else none else none
/-- inside the block: what one turn may have done -/
structure InC (M : Md) (σ : L2.St) (H D : Hp) (s : S) (fp : Nat → List Addr) (H' D' : Hp) (s' : S) (fp' : Nat → List Addr) (vs : List Nat) (A : Addr) (acc : List V) (ac : List Da) : Prop where
  e : EnvR M (wipe σ vs) H' D' s' fp'
  st : Step H D s fp H' D' s' fp'
  len : s'.length = s.length
  kn : ∀ i, i ∉ vs → KinAt s s' i
  hA : H' A = some (.lst acc)
  fr : Free D' s' fp' [A]
  x : Dxs M D' acc ac
theorem loopC_len {vs : List Nat} {g : WG} {t : WT} {e : WE} : ∀ {ds : List Da} {s s' : S} {r : List Da}, loopC vs g t e ds s = some (r, s') → r.length ≤ ds.length
  | [], s, s', r, h => by
    cases h
    exact Nat.le_refl _
  | d :: ds, s, s', r, h => by
    simp only [loopC, Option.bind_eq_some_iff] at h
    obtain ⟨s1, _, ⟨b, s2⟩, _, h⟩ := h
    simp only at h
    split at h
    · simp only [Option.bind_eq_some_iff, Option.some.injEq, Prod.mk.injEq] at h
      obtain ⟨_, _, _, _, ⟨z, s5⟩, h3, rfl, rfl⟩ := h
      have := loopC_len h3
      simp only [List.length_cons]
      omega
    · have := loopC_len h
      simp only [List.length_cons]
      omega
theorem sim_lc {vs : List Nat} {wi : WI} {g : WG} {t : WT} {e : WE} {T : List Nat} (hT : ∀ i ∈ T, i ∈ vs) : ∀ σ H Q, tW M (wLc vs wi g t e) σ H Q → tLc (tWI M wi) (tWG M g T) (tWT M t) (tW M e) vs σ H Q := fun σ H Q ⟨D, s, fp, e0, r, s', hw, q⟩ => by
  simp only [wLc, Option.bind_eq_some_iff] at hw
  obtain ⟨⟨ds, s1⟩, h1, h2⟩ := hw
  simp only at h2
  split at h2
  · rename_i hn
    simp only [Option.bind_eq_some_iff] at h2
    obtain ⟨⟨res, s2⟩, h2, h3⟩ := h2
    simp only at h3
    split at h3
    · rename_i hlen
      cases h3
      refine ⟨D, s, fp, e0, ds, s1, h1, fun J H1 D1 fp1 a1 F A nA => ?_⟩
      refine ⟨fun i m H' => m = ds.length - i ∧ i ≤ ds.length ∧ ∃ D2 s3 fp2 acc ac rest, InC M σ H1 D1 s1 fp1 H' D2 s3 fp2 vs A acc ac ∧ Same D1 D2 ∧ loopC vs g t e (ds.drop i) s3 = some (rest, s2) ∧ ac ++ rest = res, ⟨ds.length, by simp, Nat.zero_le _, ?_⟩, ?_⟩
      · obtain ⟨e1, st1⟩ := a1.e.hide (same_new (o := .lst []) nA)
        refine ⟨D1, wipeS s1 vs, fp1, [], [], res, ⟨e1.wipe vs, ⟨st1.dd, st1.kp, fun x h => st1.nw x (own_wipe h), st1.nd, st1.tr⟩, wipeS_len s1 vs, fun i hi => ?_, upd_same, fun x hx => ?_, .nil⟩, Same.refl _, by simpa using h2, rfl⟩
        · rw [KinAt, wipeS_out hi]
          exact KinAt.refl s1 i
        · obtain ⟨f1, f2⟩ := a1.e.fresh (same_new (o := .lst []) nA) nA x hx
          exact ⟨f1, fun z => f2 (own_wipe z)⟩
      · rintro i m H2 ⟨rfl, hi, D2, s3, fp2, acc, ac, rest, C, k2, h3, hres⟩
        by_cases hlt : i < ds.length
        · have hd : ds[i]? = some ds[i] := List.getElem?_eq_getElem hlt
          rw [List.drop_eq_getElem_cons hlt] at h3
          simp only [loopC, Option.bind_eq_some_iff] at h3
          obtain ⟨s4, h4, ⟨b, s5⟩, h5, h6⟩ := h3
          refine .inr ⟨F.go i H2 hlt (same_trans k2 C.e.sub), _, fun H' hw => ⟨ds.length - (i + 1), by omega, hw⟩, fun v H3 y => ?_⟩
          obtain ⟨sm, D3, e1, e2, e3, x3⟩ := F.yld i H2 v H3 _ D2 hd k2 C.e.sub y
          obtain ⟨e4, st4⟩ := C.e.grow sm e1 e2 e3
          refine ⟨D3, s3, fp2, .d ds[i], [], e4, .d x3, fun _ h => by simp at h, s4, h4, fun σ5 H5 D5 fp5 a5 => ?_⟩
          have w5 : L2.wipe σ5 vs = L2.wipe σ vs := by
            have hl : σ5.length = (L2.wipe σ vs).length := by rw [← a5.e.len, a5.len, e4.len]
            have := wipe_same (σ := L2.wipe σ vs) (σ2 := σ5) (vs := vs) hl fun j hj => a5.off j fun z => hj (hT j z)
            rw [this]
            exact wipe_same (wipe_length σ vs) fun j hj => wipe_out hj
          refine ⟨w5, D5, s4, fp5, a5.e, b, s5, h5, fun H6 D6 fp6 a6 => ?_⟩
          -- all done up to here
          have st5 : Step H2 D2 s3 fp2 H6 D6 s5 fp6 := (st4.trans ((aftS_refl e4 (T := [])).store (f := []) (fun _ h => by simp at h) a5).st).trans a6.st
          have fA6 : Free D6 s5 fp6 [A] := C.fr.step (fun a ha => by simp at ha; subst ha; rw [C.hA]; exact fun z => nomatch z) st5
          have hA6 : H6 A = some (.lst acc) := st5.kp A _ C.hA (C.fr A (by simp)).2
          have kn6 : ∀ j, j ∉ vs → KinAt s1 s5 j := fun j hj => ((C.kn j hj).trans (a5.kn j fun z => hj (hT j z))).trans (a6.k.2 j)
          have len6 : s5.length = s1.length := by rw [a6.k.1, a5.len, C.len]
          have x6 : Dxs M D6 acc ac := dxs_mono st5.dd C.x
          have stt := C.st.trans st5
          simp only at h6
          cases b with
          | true =>
            rw [if_pos rfl] at h6
            show (if true = true then _ else _)
            rw [if_pos rfl]
            simp only [Option.bind_eq_some_iff, Option.some.injEq, Prod.mk.injEq] at h6
            obtain ⟨⟨r7, s7⟩, h7, ⟨d8, s8⟩, h8, ⟨rest', s9⟩, h9, e9, rfl⟩ := h6
            subst e9
            refine ⟨D6, s5, fp6, a6.e, r7, s7, h7, fun y7 H7 D7 fp7 f7 a7 v7 => ?_⟩
            obtain ⟨D8, a8, x8⟩ := v7.sto a7 h8
            have fA8 : Free D8 s8 fp7 [A] := fA6.step (fun a ha => by simp at ha; subst ha; rw [hA6]; exact fun z => nomatch z) a8.st
            have hA8 : H7 A = some (.lst acc) := a8.st.kp A _ hA6 (fA6 A (by simp)).2
            have lacc : acc.length = ac.length := dxs_len x6
            have hac : ac.length < 100000 := by
              have : ac.length + (rest'.length + 1) ≤ 100000 := by
                rw [← hres] at hlen
                simpa using hlen
              omega
            refine ⟨acc, hA8, by rw [lacc]; exact Nat.lt_of_lt_of_le hac (by decide), rfl, hlt, D8, wipeS s8 vs, fp7, acc ++ [y7], ac ++ [d8], rest', ?_, same_trans k2 (same_trans st5.dd a8.st.dd), h9, by rw [List.append_assoc]; exact hres⟩
            have e8 : EnvR M σ5 (upd H7 A (.lst (acc ++ [y7]))) D8 s8 fp7 := by
              refine ⟨same_mut a8.e.sub (fA8 A (by simp)).1, a8.e.len, a8.e.dt, fun j c hj => ?_, a8.e.dj⟩
              obtain ⟨u, p1, p2, p3⟩ := a8.e.ow j c hj
              exact ⟨u, p1, p2.mono (fun x hx o hq => by rw [upd_ne (fun z => (fA8 A (by simp)).2 ⟨j, c, hj, by rw [← z]; exact hx⟩)]; exact hq) (Same.refl _), p3⟩
            have e8' := e8.wipe vs
            rw [w5] at e8'
            refine ⟨e8', ⟨same_trans stt.dd a8.st.dd, fun x o hx nx => ?_, fun x hx => (stt.trans a8.st).nw x (own_wipe hx), (stt.trans a8.st).nd, fun x hx => ?_⟩, by rw [wipeS_len, a8.k.1]; exact len6, fun j hj => ?_, upd_same, fun x hx => ?_, dxs_app (dxs_mono a8.st.dd x6) (.cons x8 .nil)⟩
            · rw [upd_ne (fun z => by rw [z, nA] at hx; cases hx)]
              exact (stt.trans a8.st).kp x o hx nx
            · by_cases z : x = A
              · subst z
                rw [upd_same]
                exact fun z => nomatch z
              · rw [upd_ne z]
                exact (stt.trans a8.st).tr x hx
            · rw [KinAt, wipeS_out hj]
              exact (kn6 j hj).trans (a8.k.2 j)
            · exact ⟨(fA8 x hx).1, fun z => (fA8 x hx).2 (own_wipe z)⟩
          | false =>
            rw [if_neg Bool.false_ne_true] at h6
            show (if false = true then _ else _)
            rw [if_neg Bool.false_ne_true]
            have e6 := a6.e.wipe vs
            rw [w5] at e6
            exact ⟨rfl, hlt, D6, wipeS s5 vs, fp6, acc, ac, rest, ⟨e6, ⟨stt.dd, stt.kp, fun x hx => stt.nw x (own_wipe hx), stt.nd, stt.tr⟩, by rw [wipeS_len]; exact len6, fun j hj => by
              rw [KinAt, wipeS_out hj]
              exact kn6 j hj, hA6, fun x hx => ⟨(fA6 x hx).1, fun z => (fA6 x hx).2 (own_wipe z)⟩, x6⟩, same_trans k2 st5.dd, h6, hres⟩
        · have ei : i = ds.length := by omega
          subst ei
          rw [List.drop_length] at h3
          cases h3
          rw [List.append_nil] at hres
          subst hres
          refine .inl ⟨F.stop H2 (same_trans k2 C.e.sub), ?_⟩
          have eb := a1.e.back hn C.e C.len k2
          refine q _ _ _ _ [A] (a1.trans ⟨eb, ⟨C.st.dd, C.st.kp, fun x h => C.st.nw x (own_back hn C.len h), C.st.nd, C.st.tr⟩, ⟨by rw [backS_len]; exact C.len, fun j => ?_⟩⟩) ⟨.n (.lst C.hA C.x), fun x hx => ⟨(C.fr x hx).1, fun z => (C.fr x hx).2 (own_back hn C.len z)⟩, fun x hx => ?_⟩
          · by_cases z : j ∈ vs
            · have := backS_in (s0 := s1) C.len z
              show KinAt s1 _ j
              rw [KinAt, this]
              exact KinAt.refl s1 j
            · have := backS_out (s0 := s1) (s := s2) z
              show KinAt s1 _ j
              rw [KinAt, this]
              exact C.kn j z
          · simp at hx
            subst hx
            exact .inr (Classical.byContradiction fun z => a1.st.tr x z nA)
    · cases h3
  · cases h2
theorem j_lc {elt tg iter : Expr} {ifs : List Expr} {scope : Scope} {own : List (Str × Nat)} {pos : Pos} {wi : WI} {g : WG} {t : WT} {e : WE} {T : List Nat} (hc : X.calm = true) (hN : X.N.Nodup) (hi : JI M X tg iter wi) (ok : BlkOk X.N X.env.scope scope own)
    (hg : ∀ (s : Shared) (H : Hp) (C : Addr) (cl : List (Str × Addr)) (fp : List Addr), JG M (X.blk s H scope (compEnvC scope cl C X.env) fp) tg g T) (ht : ∀ (s : Shared) (H : Hp) (C : Addr) (cl : List (Str × Addr)) (fp : List Addr), JTs M (X.blk s H scope (compEnvC scope cl C X.env) fp) ifs t)
    (he : ∀ (s : Shared) (H : Hp) (C : Addr) (cl : List (Str × Addr)) (fp : List Addr), J M (X.blk s H scope (compEnvC scope cl C X.env) fp) elt e) (hT : ∀ i ∈ T, i ∈ own.map (·.2) := by decide) (hs : ∀ x, foldedSetIterable iter X.env x = pure x := by intro _; rfl) :
    J M X (.ListComp elt [⟨tg, iter, ifs, 0⟩] scope pos) (wLc (own.map (·.2)) wi g t e) := fun hM => pe_mono (pe_lc hc hN (hi hM) ok (fun s H C cl fp => hg s H C cl fp ⟨hM.P, hM.w, hM.K, hM.mg⟩) (fun s H C cl fp => ht s H C cl fp ⟨hM.P, hM.w, hM.K, hM.mg⟩) (fun s H C cl fp => he s H C cl fp ⟨hM.P, hM.w, hM.K, hM.mg⟩) hs) (sim_lc hT)
theorem js_setLc {i : Nat} {y : Str} {py : Pos} {elt tg iter : Expr} {ifs : List Expr} {scope : Scope} {own : List (Str × Nat)} {pos spos : Pos} {wi : WI} {g : WG} {t : WT} {e : WE} {T : List Nat} (hc : X.calm = true) (hN : X.N.Nodup) (hy : X.N[i]? = some y) (hyl : X.env.scope.names.lookup y = some .local)
    (hsw : swapsWith (.ListComp elt [⟨tg, iter, ifs, 0⟩] scope pos) (some (.Name y py)) spos.line X.env = pure true) (hi : JI M X tg iter wi) (ok : BlkOk X.N X.env.scope scope own)
    (hg : ∀ (s : Shared) (H : Hp) (C : Addr) (cl : List (Str × Addr)) (fp : List Addr), JG M (X.blk s H scope (compEnvC scope cl C X.env) fp) tg g T) (ht : ∀ (s : Shared) (H : Hp) (C : Addr) (cl : List (Str × Addr)) (fp : List Addr), JTs M (X.blk s H scope (compEnvC scope cl C X.env) fp) ifs t)
    (he : ∀ (s : Shared) (H : Hp) (C : Addr) (cl : List (Str × Addr)) (fp : List Addr), J M (X.blk s H scope (compEnvC scope cl C X.env) fp) elt e) (hT : ∀ i ∈ T, i ∈ own.map (·.2) := by decide) (hs : ∀ x, foldedSetIterable iter X.env x = pure x := by intro _; rfl) :
    JS M X (.Assign [.Name y py] (.ListComp elt [⟨tg, iter, ifs, 0⟩] scope pos) spos) (wAsg (wLc (own.map (·.2)) wi g t e) (bindV i)) [i] := fun hM => ps_mono (ps_setLc hc hN hy hyl hsw (hi hM) ok (fun s H C cl fp => hg s H C cl fp ⟨hM.P, hM.w, hM.K, hM.mg⟩) (fun s H C cl fp => ht s H C cl fp ⟨hM.P, hM.w, hM.K, hM.mg⟩) (fun s H C cl fp => he s H C cl fp ⟨hM.P, hM.w, hM.K, hM.mg⟩) hs) fun E σ H hw => by
  refine sim_lc hT σ H _ ?_
  obtain ⟨D, s, fp, e, r, s', hw, q⟩ := hw
  simp only [wAsg, Option.bind_eq_some_iff, Option.some.injEq, Prod.mk.injEq] at hw
  obtain ⟨⟨r1, s1⟩, h1, s2, h2, rfl, rfl⟩ := hw
  refine ⟨D, s, fp, e, r1, s1, h1, fun v H1 D1 fp1 f1 a1 v1 => ?_⟩
  obtain ⟨D', fp', a⟩ := a1.e.bindV v1.v v1.fr h2
  exact q _ _ _ _ ((a1.toS.store v1.nu a).mem fun i hi => by simpa using hi)
end
end Tw

/-! defs and calls -/
namespace Tw
open PySem PySem.Spec PyProof.Rows L2
abbrev WF := List SV → Option (RV × List SV)
section
variable {M : Md} {X : Cx} {σ σ' : L2.St} {H D H' D' : Hp} {s s' : S} {fp fp' : Nat → List Addr}
/-- a def by data: what it is handed, what it tells and leaves -/
def spV (M : Md) (m : Nat) (F : WF) : Sp := fun vs H Q _ => vs.length = m ∧ ∃ D as fp, EnvR M (vs.map some) H D as fp ∧ ∃ r as', F as = some (r, as') ∧ ∀ v H' D' fp' f, EnvR M (vs.map some) H' D' as' fp' → Step H D as fp H' D' as' fp' → VR M (vs.map some) H' D' as' v r f → cn r = true → Free D' as' fp' f → Nu H as fp f → Q v H'
/-- what is told: what is one's own goes along, but not what was handed in -/
def retV (m : Nat) (r : RV) (s : S) : Option (RV × S) := match r with
  | .n d => some (.n d, s)
  | .o i => match s[i]? with
    | some (SV.own d) => if m ≤ i then some (.n d, s.set i .un) else some (.d d, s.set i (.dat d))
    | some (SV.dat d) => some (.d d, s)
    | _ => none
  | r => (sto r s).bind fun p => some (.d p.1, p.2)
def fnW (N m : Nat) (T : List Nat) (w : WS) : WF := fun as => if as.length = m then (w (as ++ List.replicate (N - m) SV.un)).bind fun p => match p.1 with
  | .nx => some (.d .non, (wipeS p.2 T).take m)
  | .rt r => (retV m r p.2).bind fun q => some (q.1, (wipeS q.2 T).take m)
  | _ => none
  else none
theorem get_app_un {as : List SV} {k i : Nat} {a : SV} (h : (as ++ List.replicate k SV.un)[i]? = some a) (hn : a ≠ .un) : as[i]? = some a := by
  rw [List.getElem?_append] at h
  split at h
  · exact h
  · rw [List.getElem?_replicate] at h
    split at h
    · exact absurd (Option.some.inj h).symm hn
    · cases h
theorem EnvR.start {N : List Str} {vs : List V} {as : S} (e : EnvR M (vs.map some) H D as fp) (hl : vs.length ≤ N.length) : EnvR M (L2.start N vs) H D (as ++ List.replicate (N.length - vs.length) SV.un) fp := by
  have hst : ∀ (i : Nat) (v : V), (vs.map some)[i]? = some (some v) → (L2.start N vs)[i]? = some (some v) := fun i v h => by
    have hi := (List.getElem?_eq_some_iff.mp h).1
    unfold L2.start
    rw [List.getElem?_append_left hi]
    exact h
  refine ⟨e.sub, ?_, fun i d h => ?_, fun i d h => ?_, fun i j d c hi hj => e.dj i j d c (get_app_un hi fun z => nomatch z) (get_app_un hj fun z => nomatch z)⟩
  · have := e.len
    rw [List.length_map] at this
    show (as ++ List.replicate _ SV.un).length = (vs.map some ++ List.replicate (N.length - vs.length) none).length
    rw [List.length_append, List.length_append, List.length_replicate, List.length_replicate, List.length_map, this]
  · obtain ⟨v, a, b⟩ := e.dt i d (get_app_un h fun z => nomatch z)
    exact ⟨v, hst i v a, b⟩
  · obtain ⟨v, a, b⟩ := e.ow i d (get_app_un h fun z => nomatch z)
    exact ⟨v, hst i v a, b⟩
theorem own_start {as : S} {k : Nat} {a : Addr} : Own (as ++ List.replicate k SV.un) fp a ↔ Own as fp a := by
  refine ⟨fun ⟨i, d, hi, ha⟩ => ⟨i, d, get_app_un hi (fun z => nomatch z), ha⟩, fun ⟨i, d, hi, ha⟩ => ⟨i, d, ?_, ha⟩⟩
  have := (List.getElem?_eq_some_iff.mp hi).1
  rw [List.getElem?_append_left this]
  exact hi
/-- the end of a def: its parameters that were not stored to -/
theorem EnvR.params {vs : List V} {T : List Nat} {σ0 : L2.St} (e : EnvR M σ H D s fp) (h0 : ∀ (i : Nat) (v : V), vs[i]? = some v → σ0[i]? = some (some v)) (off : ∀ i, i ∉ T → σ[i]? = σ0[i]?) (hl : vs.length ≤ s.length) : EnvR M (vs.map some) H D ((wipeS s T).take vs.length) fp := by
  have key : ∀ {i x}, ((wipeS s T).take vs.length)[i]? = some x → x ≠ .un → i < vs.length ∧ i ∉ T ∧ s[i]? = some x := fun {i x} h n => by
    have hi : i < vs.length := by
      have := (List.getElem?_eq_some_iff.mp h).1
      rw [List.length_take] at this
      omega
    rw [List.getElem?_take, if_pos hi] at h
    by_cases z : i ∈ T
    · exact absurd (wipeS_in z h) n
    · rw [wipeS_out z] at h
      exact ⟨hi, z, h⟩
  have val : ∀ {i v}, i < vs.length → i ∉ T → σ[i]? = some (some v) → (vs.map some)[i]? = some (some v) := fun {i v} hi z h => by
    rw [off i z, h0 i _ (List.getElem?_eq_getElem hi)] at h
    cases h
    rw [List.getElem?_map, List.getElem?_eq_getElem hi]
    rfl
  refine ⟨e.sub, by rw [List.length_take, wipeS_len, List.length_map]; omega, fun i d h => ?_, fun i d h => ?_, fun i j d c hi hj => e.dj i j d c (key hi fun z => nomatch z).2.2 (key hj fun z => nomatch z).2.2⟩
  · obtain ⟨hi, z, h⟩ := key h fun z => nomatch z
    obtain ⟨v, a, b⟩ := e.dt i d h
    exact ⟨v, val hi z a, b⟩
  · obtain ⟨hi, z, h⟩ := key h fun z => nomatch z
    obtain ⟨v, a, b⟩ := e.ow i d h
    exact ⟨v, val hi z a, b⟩
theorem own_params {T : List Nat} {m : Nat} {a : Addr} (h : Own ((wipeS s T).take m) fp a) : Own s fp a := by
  obtain ⟨i, d, hi, ha⟩ := h
  have : (wipeS s T)[i]? = some (SV.own d) := by
    rw [List.getElem?_take] at hi
    split at hi
    · exact hi
    · cases hi
  exact own_wipe ⟨i, d, this, ha⟩
theorem VR.cnσ {σ2 : L2.St} {s2 : S} {v : V} {r : RV} {f : List Addr} (h : VR M σ H D s v r f) (hc : cn r = true) : VR M σ2 H D s2 v r f := by
  cases h with
  | d h => exact .d h
  | n h => exact .n h
  | _ => cases hc
/-- what is told at the end -/
theorem ret_ok {σ0 : L2.St} {H0 D0 : Hp} {s0 : S} {fp0 : Nat → List Addr} {T : List Nat} {m : Nat} {v : V} {r r' : RV} {f : List Addr} (a : AftS M σ0 H0 D0 s0 fp0 T σ H D s fp) (h : Val M σ H0 s0 fp0 H D s fp v r f) (hr : retV m r s = some (r', s')) :
    ∃ D' f', AftS M σ0 H0 D0 s0 fp0 T σ H D' s' fp ∧ VR M σ H D' s' v r' f' ∧ cn r' = true ∧ Free D' s' fp f' ∧ Nu H0 s0 fp0 f' := by
  unfold retV at hr
  have gen : ∀ {r : RV}, Val M σ H0 s0 fp0 H D s fp v r f → ((sto r s).bind fun p => some (RV.d p.1, p.2)) = some (r', s') → ∃ D' f', AftS M σ0 H0 D0 s0 fp0 T σ H D' s' fp ∧ VR M σ H D' s' v r' f' ∧ cn r' = true ∧ Free D' s' fp f' ∧ Nu H0 s0 fp0 f' := fun {r} h hr => by
    simp only [Option.bind_eq_some_iff, Option.some.injEq, Prod.mk.injEq] at hr
    obtain ⟨⟨d, s1⟩, h1, rfl, rfl⟩ := hr
    obtain ⟨D1, p1, x1⟩ := sto_ok h.v a.e (fun a ha => (h.fr a ha).2) h1
    refine ⟨D1, [], ⟨p1.e, ⟨same_trans a.st.dd p1.dd, a.st.kp, fun x q => a.st.nw x (p1.nw x q), fun x q => ?_, a.st.tr⟩, p1.k.1.trans a.len, a.off⟩, .d x1, rfl, fun _ h => by simp at h, fun _ h => by simp at h⟩
    rcases p1.nd x q with w | w | w
    · exact a.st.nd x w
    · exact .inr (a.st.nw x w)
    · exact .inr (h.nu x w)
  split at hr
  · cases hr
    exact ⟨D, f, a, h.v, rfl, h.fr, h.nu⟩
  · rename_i i
    split at hr
    · rename_i d hi
      split at hr
      · cases hr
        have hv := h.v
        cases hv with
        | o hs =>
          obtain ⟨u, hu, ho, hd⟩ := a.e.ow i d hi
          rw [hs] at hu
          cases hu
          have own_un : ∀ {x}, Own (s.set i .un) fp x → Own s fp x ∧ x ∉ fp i := fun {x} q => by
            obtain ⟨j, c, hj, hx⟩ := q
            rcases set_get hj with ⟨_, q⟩ | ⟨ne, q⟩
            · cases q
            · exact ⟨⟨j, c, q, hx⟩, fun z => a.e.dj i j d c hi q ne x z hx⟩
          refine ⟨D, fp i, ⟨⟨a.e.sub, by rw [List.length_set]; exact a.e.len, fun j c hj => ?_, fun j c hj => ?_, fun j k c c' hj hk => ?_⟩, ⟨a.st.dd, a.st.kp, fun x q => a.st.nw x (own_un q).1, a.st.nd, a.st.tr⟩, by rw [List.length_set]; exact a.len, a.off⟩, .n ho, rfl, fun x hx => ⟨hd x hx, fun z => (own_un z).2 hx⟩, fun x hx => a.st.nw x ⟨i, d, hi, hx⟩⟩
          · rcases set_get hj with ⟨_, q⟩ | ⟨ne, q⟩
            · cases q
            · exact a.e.dt j c q
          · rcases set_get hj with ⟨_, q⟩ | ⟨ne, q⟩
            · cases q
            · exact a.e.ow j c q
          · rcases set_get hj with ⟨_, q⟩ | ⟨_, hj⟩
            · cases q
            · rcases set_get hk with ⟨_, q⟩ | ⟨_, hk⟩
              · cases q
              · exact a.e.dj j k c c' hj hk
      · refine gen h ?_
        simp only [sto, hi]
        exact hr
    · rename_i d hi
      refine gen h ?_
      simp only [sto, hi]
      exact hr
    · cases hr
  · exact gen h hr
/-- the rule of a def -/
theorem fn_end {N ps : List Str} {vs : List V} {Q : VK} {E : XK} {w : WS} {T : List Nat} {t : TS} {m : Nat} (hm : m ≤ N.length) (h : spV M m (fnW N.length m T w) vs H Q E) (ht : ∀ E σ H, tWS M w T E σ H → t E σ H) : t { nx := fun _ H' => Q .non H', rt := Q } (L2.start N vs) H := by
  obtain ⟨hvm, D, as, fp, e, r, as', hF, q⟩ := h
  subst hvm
  have e1 := e.start hm
  have hst : ∀ (i : Nat) (v : V), vs[i]? = some v → (L2.start N vs)[i]? = some (some v) := fun i v h => by
    have hi := (List.getElem?_eq_some_iff.mp h).1
    unfold L2.start
    rw [List.getElem?_append_left (by rw [List.length_map]; exact hi), List.getElem?_map, h]
    rfl
  unfold fnW at hF
  split at hF
  · simp only [Option.bind_eq_some_iff] at hF
    obtain ⟨⟨fl, s1⟩, h1, h2⟩ := hF
    have hlen : vs.length ≤ (as ++ List.replicate (N.length - vs.length) SV.un).length := by
      have := e.len
      rw [List.length_map] at this
      rw [List.length_append]
      omega
    refine ht _ _ _ ⟨D, _, fp, e1, fl, s1, h1, fun σ1 H1 D1 fp1 a1 => ?_⟩
    have stp : ∀ {H2 D2 s2 f2}, Step H D (as ++ List.replicate (N.length - vs.length) SV.un) fp H2 D2 s2 f2 → Step H D as fp H2 D2 ((wipeS s2 T).take vs.length) f2 := fun {H2 D2 s2 f2} st =>
      ⟨st.dd, fun a o h n => st.kp a o h fun z => n (own_start.mp z), fun a h => (st.nw a (own_params h)).imp own_start.mp id, fun a h => (st.nd a h).imp id fun q => q.imp own_start.mp id, st.tr⟩
    simp only at h2
    split at h2
    · cases h2
      exact q _ _ _ _ [] (a1.e.params hst a1.off (by rw [a1.len]; exact hlen)) (stp a1.st) (.d .non) rfl (fun _ h => by simp at h) (fun _ h => by simp at h)
    · rename_i r0
      simp only [Option.bind_eq_some_iff, Option.some.injEq, Prod.mk.injEq] at h2
      obtain ⟨⟨r2, s2⟩, h2, rfl, rfl⟩ := h2
      intro v f hv
      obtain ⟨D2, f2, a2, v2, c2, fr2, nu2⟩ := ret_ok a1 hv h2
      exact q _ _ _ _ f2 (a2.e.params hst a2.off (by rw [a2.len]; exact hlen)) (stp a2.st) (v2.cnσ c2) c2 (fun x hx => ⟨(fr2 x hx).1, fun z => (fr2 x hx).2 (own_params z)⟩) (fun x hx => (nu2 x hx).imp own_start.mp id)
    · cases h2
  · cases hF
section
variable {P : Program} {w : World} {K : PySem.W.Frag} {mg : Str → Option Value} {base : Heap}
theorem fn_ok {x qual : Str} {st : Stmt} {f : Addr} {fd : FuncData} {N ps : List Str} {k : Nat} {W : WS} {T : List Nat} (F : Fun K x qual st f fd) (Sc : FnScope N ps (defScope st)) (hl : ps.length ≤ N.length)
    (hb : ∀ (cdv : Value) (A : Around) (outer : List Env) (s : Shared) (H : Hp) (E : XK), Room k (A.deeper (envOfC qual (defScope st) s.heap.objs.size f cdv)) → JSs ⟨P, w, K, mg⟩ (cxOf CX0 P w K mg base N qual (defScope st) f cdv A outer s H E).nox (defBody st) W T) :
    FnOk P w K mg base CX0 (k + 1) f fd ps (spV ⟨P, w, K, mg⟩ ps.length (fnW N.length ps.length T W)) := by
  refine F.ok Sc (fun vs H Q E h => h.1) (fun cdv A outer s H vs Q E hr h => ⟨_, hb cdv A outer s H E hr ⟨rfl, rfl, rfl, rfl⟩, fn_end (ps := ps) hl h fun _ _ _ h => h⟩)
end
end
end Tw

/-! calls of defs -/
namespace Tw
open PySem PySem.Spec PyProof.Rows L2
/-- what is handed in: data, or (true) a thing of one's own, for the time of the call -/
def argsW : List Bool → List RV → S → Option (List SV × List (Option Nat) × S)
  | [], [], s => some ([], [], s)
  | true :: ms, .o i :: rs, s => match s[i]? with
    | some (SV.own d) => (argsW ms rs (s.set i .un)).bind fun q => some (.own d :: q.1, some i :: q.2.1, q.2.2)
    | some (SV.dat d) => (argsW ms rs s).bind fun q => some (.dat d :: q.1, none :: q.2.1, q.2.2)
    | _ => none
  | true :: ms, .n d :: rs, s => (argsW ms rs s).bind fun q => some (.own d :: q.1, none :: q.2.1, q.2.2)
  | _ :: ms, r :: rs, s => (sto r s).bind fun p => (argsW ms rs p.2).bind fun q => some (.dat p.1 :: q.1, none :: q.2.1, q.2.2)
  | _, _, _ => none
/-- what comes back -/
def backA : List (Option Nat) → List SV → S → Option S
  | [], _, s => some s
  | some i :: mv, .own d :: as, s => backA mv as (s.set i (.own d))
  | some i :: mv, .dat d :: as, s => backA mv as (s.set i (.dat d))
  | some _ :: _, _, _ => none
  | none :: mv, _ :: as, s => backA mv as s
  | none :: _, [], _ => none
def wCall (m : Nat) (ms : List Bool) (F : WF) (w : WA) : WE := fun s => (w s).bind fun p => (argsW ms p.1 p.2).bind fun q => (if q.1.length = m then F q.1 else none).bind fun r => (backA q.2.1 r.2 q.2.2).bind fun s' => some (r.1, s')
def consF (f : List Addr) (fp : Nat → List Addr) : Nat → List Addr
  | 0 => f
  | i + 1 => fp i
section
variable {M : Md} {X : Cx} {σ σ' : L2.St} {H D H' D' : Hp} {s s' : S} {fp fp' : Nat → List Addr}
theorem envR_nil (h : Same D H) : EnvR M [] H D [] fp := ⟨h, rfl, fun i d h => by simp at h, fun i d h => by simp at h, fun i j d c h => by simp at h⟩
theorem EnvR.consD {τ : L2.St} {t : S} {g : Nat → List Addr} (e : EnvR M τ H D t g) {v : V} {d : Da} (h : Dx M D v d) : EnvR M (some v :: τ) H D (.dat d :: t) (consF [] g) := by
  refine ⟨e.sub, by simp [e.len], fun i c hi => ?_, fun i c hi => ?_, fun i j c c' hi hj hij => ?_⟩
  · cases i with
    | zero =>
      simp at hi
      subst hi
      exact ⟨v, rfl, h⟩
    | succ i => exact e.dt i c (by simpa using hi)
  · cases i with
    | zero => simp at hi
    | succ i => exact e.ow i c (by simpa using hi)
  · cases i with
    | zero => simp at hi
    | succ i =>
      cases j with
      | zero => simp at hj
      | succ j => exact e.dj i j c c' (by simpa using hi) (by simpa using hj) (by omega)
theorem EnvR.consO {τ : L2.St} {t : S} {g : Nat → List Addr} (e : EnvR M τ H D t g) {v : V} {d : Da} {f : List Addr} (h : OwR M H D v d f) (hd : ∀ a ∈ f, D a = none) (hf : ∀ a ∈ f, ¬ Own t g a) : EnvR M (some v :: τ) H D (.own d :: t) (consF f g) := by
  refine ⟨e.sub, by simp [e.len], fun i c hi => ?_, fun i c hi => ?_, fun i j c c' hi hj hij => ?_⟩
  · cases i with
    | zero => simp at hi
    | succ i => exact e.dt i c (by simpa using hi)
  · cases i with
    | zero =>
      simp at hi
      subst hi
      exact ⟨v, rfl, h, hd⟩
    | succ i => exact e.ow i c (by simpa using hi)
  · cases i with
    | zero =>
      cases j with
      | zero => exact absurd rfl hij
      | succ j => exact fun a ha hb => hf a ha ⟨j, c', by simpa using hj, hb⟩
    | succ i =>
      cases j with
      | zero => exact fun a ha hb => hf a hb ⟨i, c, by simpa using hi, ha⟩
      | succ j => exact e.dj i j c c' (by simpa using hi) (by simpa using hj) (by omega)
theorem own_consD {t : S} {g : Nat → List Addr} {d : Da} {a : Addr} (h : Own (.dat d :: t) (consF [] g) a) : Own t g a := by
  obtain ⟨i, c, hi, ha⟩ := h
  cases i with
  | zero => simp at hi
  | succ i => exact ⟨i, c, by simpa using hi, ha⟩
theorem own_consO {t : S} {g : Nat → List Addr} {d : Da} {f : List Addr} {a : Addr} (h : Own (.own d :: t) (consF f g) a) : a ∈ f ∨ Own t g a := by
  obtain ⟨i, c, hi, ha⟩ := h
  cases i with
  | zero => exact .inl ha
  | succ i => exact .inr ⟨i, c, by simpa using hi, ha⟩
/-- a slot whose thing is handed on -/
theorem EnvR.unset (e : EnvR M σ H D s fp) (i : Nat) : EnvR M σ H D (s.set i .un) fp := by
  refine ⟨e.sub, by rw [List.length_set]; exact e.len, fun j c hj => ?_, fun j c hj => ?_, fun j k c c' hj hk => ?_⟩
  · rcases set_get hj with ⟨_, q⟩ | ⟨ne, q⟩
    · cases q
    · exact e.dt j c q
  · rcases set_get hj with ⟨_, q⟩ | ⟨ne, q⟩
    · cases q
    · exact e.ow j c q
  · rcases set_get hj with ⟨_, q⟩ | ⟨_, hj⟩
    · cases q
    · rcases set_get hk with ⟨_, q⟩ | ⟨_, hk⟩
      · cases q
      · exact e.dj j k c c' hj hk
theorem own_unset {i : Nat} {a : Addr} (h : Own (s.set i .un) fp a) : Own s fp a := by
  obtain ⟨j, c, hj, ha⟩ := h
  rcases set_get hj with ⟨_, q⟩ | ⟨_, q⟩
  · cases q
  · exact ⟨j, c, q, ha⟩
/-- slots that were handed on hold nothing -/
inductive Mv (σ : L2.St) (s : S) : List (Option Nat) → List V → List Nat → Prop
  | nil : Mv σ s [] [] []
  | none {mv : List (Option Nat)} {vs : List V} {l : List Nat} {v : V} : Mv σ s mv vs l → Mv σ s (none :: mv) (v :: vs) l
  | some {mv : List (Option Nat)} {vs : List V} {l : List Nat} {v : V} {i : Nat} : σ[i]? = Option.some (Option.some v) → s[i]? = Option.some SV.un → i ∉ l → Mv σ s mv vs l → Mv σ s (some i :: mv) (v :: vs) (i :: l)
/-- after handing in: the slots, the arguments, apart from each other -/
structure Hand (M : Md) (σ : L2.St) (H D : Hp) (s : S) (fp : Nat → List Addr) (f : List Addr) (vs : List V) (D' : Hp) (s' : S) (as : List SV) (g : Nat → List Addr) (mv : List (Option Nat)) (l : List Nat) : Prop where
  e : EnvR M σ H D' s' fp
  ea : EnvR M (vs.map some) H D' as g
  dd : Same D D'
  nd : ∀ a, D' a ≠ none → D a ≠ none ∨ Own s fp a ∨ a ∈ f
  nw : ∀ a, Own s' fp a → Own s fp a
  na : ∀ a, Own as g a → Own s fp a ∨ a ∈ f
  ap : ∀ a, Own as g a → ¬ Own s' fp a
  len : s'.length = s.length
  mv : Mv σ s' mv vs l
  kn : ∀ i, i ∉ l → KinAt s s' i
  ko : ∀ i ∈ l, ∃ d, s[i]? = some (SV.own d)
theorem Mv.keep {s2 : S} : ∀ {mv : List (Option Nat)} {vs : List V} {l : List Nat}, Mv σ s mv vs l → (∀ i ∈ l, s2[i]? = Option.some SV.un) → Mv σ s2 mv vs l
  | _, _, _, .nil, _ => .nil
  | _, _, _, .none h, k => .none (h.keep k)
  | _, _, _, .some h1 h2 h3 h, k => .some h1 (k _ (by simp)) h3 (h.keep fun i hi => k i (List.mem_cons_of_mem _ hi))
theorem Mv.len : ∀ {mv : List (Option Nat)} {vs : List V} {l : List Nat}, Mv σ s mv vs l → mv.length = vs.length
  | _, _, _, .nil => rfl
  | _, _, _, .none h => congrArg Nat.succ h.len
  | _, _, _, .some _ _ _ h => congrArg Nat.succ h.len
theorem Mv.un : ∀ {mv : List (Option Nat)} {vs : List V} {l : List Nat}, Mv σ s mv vs l → ∀ i ∈ l, s[i]? = Option.some SV.un
  | _, _, _, .nil, _, h => by simp at h
  | _, _, _, .none h, i, hi => Mv.un h i hi
  | _, _, _, .some _ h2 _ h, i, hi => (List.mem_cons.mp hi).elim (fun z => by rw [z]; exact h2) (Mv.un h i)
theorem argsW_ok : ∀ {ms : List Bool} {vs : List V} {rs : List RV} {f : List Addr} {D : Hp} {s s' : S} {as : List SV} {mv : List (Option Nat)}, VRs M σ H D s vs rs f → EnvR M σ H D s fp → Free D s fp f → argsW ms rs s = some (as, mv, s') → ∃ D' g l, Hand M σ H D s fp f vs D' s' as g mv l := by
  intro ms
  induction ms with
  | nil =>
    intro vs rs f D s s' as mv h e hf q
    cases rs with
    | cons _ _ => cases q
    | nil =>
      cases q
      cases h
      exact ⟨D, fun _ => [], [], e, envR_nil e.sub, Same.refl _, fun _ h => .inl h, fun _ h => h, fun _ h => by obtain ⟨i, d, hi, _⟩ := h; simp at hi, fun _ h => by obtain ⟨i, d, hi, _⟩ := h; simp at hi, rfl, .nil, fun i _ => KinAt.refl s i, fun _ h => by simp at h⟩
  | cons m ms ih =>
    intro vs rs f D s s' as mv h e hf q
    cases rs with
    | nil =>
      cases m <;> cases q
    | cons r rs =>
      cases h with
      | @cons v vs _ _ f1 f2 h k z =>
        -- put somewhere
        have gen : ((sto r s).bind fun p => (argsW ms rs p.2).bind fun q => some (SV.dat p.1 :: q.1, none :: q.2.1, q.2.2)) = some (as, mv, s') → ∃ D' g l, Hand M σ H D s fp (f1 ++ f2) (v :: vs) D' s' as g mv l := fun q => by
          simp only [Option.bind_eq_some_iff, Option.some.injEq, Prod.mk.injEq] at q
          obtain ⟨⟨d, s1⟩, q1, ⟨as1, mv1, s2⟩, q2, rfl, rfl, rfl⟩ := q
          obtain ⟨D1, p1, x1⟩ := sto_ok h e (fun a ha => (hf.left a ha).2) q1
          have fr : Free D1 s1 fp f2 := fun x hx => ⟨Classical.byContradiction fun w => by
            rcases p1.nd x w with q | q | q
            · exact q (hf.right x hx).1
            · exact (hf.right x hx).2 q
            · exact z x q hx, fun w => (hf.right x hx).2 (p1.nw x w)⟩
          obtain ⟨D2, g, l, A⟩ := ih (k.monoD p1.dd p1.k) p1.e fr q2
          refine ⟨D2, consF [] g, l, A.e, A.ea.consD (dx_mono A.dd x1), same_trans p1.dd A.dd, fun a ha => ?_, fun a ha => p1.nw a (A.nw a ha), fun a ha => (A.na a (own_consD ha)).imp (p1.nw a) (List.mem_append_right _), fun a ha => A.ap a (own_consD ha), A.len.trans p1.k.1, .none A.mv, fun i hi => KinAt.trans (b := s1) (p1.k.2 i) (A.kn i hi), fun i hi => ?_⟩
          · rcases A.nd a ha with q | q | q
            · exact (p1.nd a q).imp id fun q => q.imp id (List.mem_append_left _)
            · exact .inr (.inl (p1.nw a q))
            · exact .inr (.inr (List.mem_append_right _ q))
          · obtain ⟨c, hc⟩ := A.ko i hi
            have : ∀ x : SV, s[i]? = some x → ∃ d, s[i]? = some (SV.own d) := fun x hx => by
              cases x with
              | own d => exact ⟨d, hx⟩
              | dat d => rw [(p1.k.2 i).2.1 d hx] at hc; cases hc
              | un => rw [(p1.k.2 i).2.2 hx] at hc; cases hc
            have hl := (List.getElem?_eq_some_iff.mp hc).1
            rw [p1.k.1] at hl
            exact this _ (List.getElem?_eq_getElem hl)
        cases m with
        | false => cases r <;> exact gen q
        | true =>
          cases r with
          | d d => exact gen q
          | l rs' => exact gen q
          | t rs' => exact gen q
          | n d =>
            simp only [argsW, Option.bind_eq_some_iff, Option.some.injEq, Prod.mk.injEq] at q
            obtain ⟨⟨as1, mv1, s2⟩, q2, rfl, rfl, rfl⟩ := q
            obtain ⟨D2, g, l, A⟩ := ih k e hf.right q2
            cases h with
            | n h =>
              have hd : ∀ a ∈ f1, D2 a = none := fun a ha => Classical.byContradiction fun w => by
                rcases A.nd a w with q | q | q
                · exact q (hf.left a ha).1
                · exact (hf.left a ha).2 q
                · exact z a ha q
              refine ⟨D2, consF f1 g, l, A.e, A.ea.consO (h.mono (fun _ _ _ h => h) A.dd) hd (fun a ha w => (A.na a w).elim (hf.left a ha).2 (z a ha)), A.dd, fun a ha => (A.nd a ha).imp id fun q => q.imp id (List.mem_append_right _), A.nw, fun a ha => ?_, fun a ha w => ?_, A.len, .none A.mv, A.kn, A.ko⟩
              · rcases own_consO ha with q | q
                · exact .inr (List.mem_append_left _ q)
                · exact (A.na a q).imp id (List.mem_append_right _)
              · rcases own_consO ha with q | q
                · exact (hf.left a q).2 (A.nw a w)
                · exact A.ap a q w
          | o i =>
            simp only [argsW] at q
            split at q
            · rename_i d hi
              simp only [Option.bind_eq_some_iff, Option.some.injEq, Prod.mk.injEq] at q
              obtain ⟨⟨as1, mv1, s2⟩, q2, rfl, rfl, rfl⟩ := q
              cases h with
              | o hs =>
                obtain ⟨u, hu, ho, hd⟩ := e.ow i d hi
                rw [hs] at hu
                cases hu
                have e1 := e.unset i
                have fr : Free D (s.set i .un) fp f2 := fun x hx => ⟨(hf.right x hx).1, fun w => (hf.right x hx).2 (own_unset w)⟩
                obtain ⟨D2, g, l, A⟩ := ih k.anyS e1 fr q2
                have hno : ∀ a ∈ fp i, ¬ Own (s.set i .un) fp a := fun a ha w => by
                  obtain ⟨j, c, hj, hb⟩ := w
                  rcases set_get hj with ⟨_, q⟩ | ⟨ne, q⟩
                  · cases q
                  · exact e.dj i j d c hi q ne a ha hb
                have hf2 : ∀ a ∈ fp i, a ∉ f2 := fun a ha w => (hf.right a w).2 ⟨i, d, hi, ha⟩
                have hD2 : ∀ a ∈ fp i, D2 a = none := fun a ha => Classical.byContradiction fun w => by
                  rcases A.nd a w with q | q | q
                  · exact q (hd a ha)
                  · exact hno a ha q
                  · exact hf2 a ha q
                have hil : i ∉ l := fun w => by
                  obtain ⟨c, hc⟩ := A.ko i w
                  rw [List.getElem?_set, if_pos rfl] at hc
                  split at hc <;> cases hc
                have hsi : s2[i]? = some SV.un := (A.kn i hil).2.2 (by
                  have := (List.getElem?_eq_some_iff.mp hi).1
                  rw [List.getElem?_set, if_pos rfl, if_pos this])
                refine ⟨D2, consF (fp i) g, i :: l, A.e, A.ea.consO (ho.mono (fun _ _ _ h => h) A.dd) hD2 (fun a ha w => (A.na a w).elim (hno a ha) (hf2 a ha)), A.dd, fun a ha => (A.nd a ha).imp id fun q => q.imp own_unset id, fun a ha => own_unset (A.nw a ha), fun a ha => ?_, fun a ha w => ?_, by rw [A.len, List.length_set], .some hs hsi hil A.mv, fun j hj => ?_, fun j hj => ?_⟩
                · rcases own_consO ha with q | q
                  · exact .inl ⟨i, d, hi, q⟩
                  · exact (A.na a q).imp own_unset id
                · rcases own_consO ha with q | q
                  · exact hno a q (A.nw a w)
                  · exact A.ap a q w
                · exact (KinAt.set fun z => hj (by rw [z]; simp)).trans (A.kn j fun z => hj (List.mem_cons_of_mem _ z))
                · rcases List.mem_cons.mp hj with z | z
                  · exact ⟨d, by rw [z]; exact hi⟩
                  · obtain ⟨c, hc⟩ := A.ko j z
                    rcases set_get hc with ⟨_, q⟩ | ⟨_, q⟩
                    · cases q
                    · exact ⟨c, q⟩
            · rename_i d hi
              refine gen ?_
              simp only [sto, hi]
              exact q
            · cases q
/-- what comes back is put into its slots -/
theorem backA_ok : ∀ {mv : List (Option Nat)} {vs : List V} {l : List Nat} {as : List SV} {g : Nat → List Addr} {s s' : S} {fp : Nat → List Addr}, Mv σ s mv vs l → EnvR M (vs.map some) H D as g → EnvR M σ H D s fp → (∀ a, Own as g a → ¬ Own s fp a) → backA mv as s = some s' →
    ∃ fp', EnvR M σ H D s' fp' ∧ (∀ a, Own s' fp' a → Own s fp a ∨ Own as g a) ∧ s'.length = s.length ∧ (∀ i, i ∉ l → s'[i]? = s[i]?) ∧ ∀ i ∈ l, (∃ d, s'[i]? = some (SV.own d)) ∨ ∃ d, s'[i]? = some (SV.dat d)
  | _, _, _, as, g, s, s', fp, .nil, ea, e, ap, q => by
    simp only [backA, Option.some.injEq] at q
    subst q
    exact ⟨fp, e, fun a h => .inl h, rfl, fun _ _ => rfl, fun _ h => by simp at h⟩
  | none :: mv, v :: vs, l, as, g, s, s', fp, .none h, ea, e, ap, q => by
    cases as with
    | nil => cases q
    | cons a as =>
      have q : backA mv as s = some s' := q
      have ea' : EnvR M (vs.map some) H D as (fun j => g (j + 1)) := ⟨ea.sub, by have := ea.len; simpa using this, fun i d hi => ea.dt (i + 1) d (by simpa using hi), fun i d hi => ea.ow (i + 1) d (by simpa using hi), fun i j d c hi hj hij => ea.dj (i + 1) (j + 1) d c (by simpa using hi) (by simpa using hj) (by omega)⟩
      obtain ⟨fp', h1, h2, h3, h4, h5⟩ := backA_ok h ea' e (fun x hx => ap x (by obtain ⟨i, d, hi, ha⟩ := hx; exact ⟨i + 1, d, by simpa using hi, ha⟩)) q
      exact ⟨fp', h1, fun x hx => (h2 x hx).imp id fun ⟨i, d, hi, ha⟩ => ⟨i + 1, d, by simpa using hi, ha⟩, h3, h4, h5⟩
  | some i :: mv, v :: vs, _ :: l, as, g, s, s', fp, .some hs hu hl h, ea, e, ap, q => by
    cases as with
    | nil => cases q
    | cons a as =>
      have ea' : EnvR M (vs.map some) H D as (fun j => g (j + 1)) := ⟨ea.sub, by have := ea.len; simpa using this, fun i d hi => ea.dt (i + 1) d (by simpa using hi), fun i d hi => ea.ow (i + 1) d (by simpa using hi), fun i j d c hi hj hij => ea.dj (i + 1) (j + 1) d c (by simpa using hi) (by simpa using hj) (by omega)⟩
      have lt := (List.getElem?_eq_some_iff.mp hu).1
      have σi : σ.set i (some v) = σ := by
        refine List.ext_getElem? fun j => ?_
        rw [List.getElem?_set]
        split
        · rename_i z
          subst z
          rw [hs, if_pos (by rw [← e.len]; exact lt)]
        · rfl
      cases a with
      | un => cases q
      | own d =>
        have q : backA mv as (s.set i (.own d)) = some s' := q
        obtain ⟨u, hu', ho, hd⟩ := ea.ow 0 d rfl
        cases hu'
        have e1 := e.bindN ho (fun a ha => ⟨hd a ha, ap a ⟨0, d, rfl, ha⟩⟩) i
        rw [σi] at e1
        have h' : Mv σ (s.set i (.own d)) mv vs l := h.keep fun j hj => by
          have := Mv.un h j hj
          rw [List.getElem?_set, if_neg (fun z => hl (by rw [z]; exact hj))]
          exact this
        obtain ⟨fp', h1, h2, h3, h4, h5⟩ := backA_ok h' ea' e1 (fun x hx w => by
          obtain ⟨j, c, hj, ha⟩ := hx
          rcases own_bindN w with w | w
          · exact ap x ⟨j + 1, c, by simpa using hj, ha⟩ w
          · exact ea.dj 0 (j + 1) d c rfl (by simpa using hj) (by omega) x w ha) q
        refine ⟨fp', h1, fun x hx => ?_, by rw [h3, List.length_set], fun j hj => ?_, fun j hj => ?_⟩
        · rcases h2 x hx with w | ⟨j, c, hj, ha⟩
          · exact (own_bindN w).imp id fun w => ⟨0, d, rfl, w⟩
          · exact .inr ⟨j + 1, c, by simpa using hj, ha⟩
        · rw [h4 j fun z => hj (List.mem_cons_of_mem _ z), List.getElem?_set, if_neg (fun z => hj (by rw [z]; simp))]
        · rcases List.mem_cons.mp hj with z | z
          · subst z
            rw [h4 j hl, List.getElem?_set, if_pos rfl, if_pos lt]
            exact .inl ⟨d, rfl⟩
          · exact h5 j z
      | dat d =>
        have q : backA mv as (s.set i (.dat d)) = some s' := q
        obtain ⟨u, hu', hx⟩ := ea.dt 0 d rfl
        cases hu'
        have e1 := e.bindD hx i
        rw [σi] at e1
        have h' : Mv σ (s.set i (.dat d)) mv vs l := h.keep fun j hj => by
          have := Mv.un h j hj
          rw [List.getElem?_set, if_neg (fun z => hl (by rw [z]; exact hj))]
          exact this
        obtain ⟨fp', h1, h2, h3, h4, h5⟩ := backA_ok h' ea' e1 (fun x hx w => by
          obtain ⟨j, c, hj, ha⟩ := hx
          exact ap x ⟨j + 1, c, by simpa using hj, ha⟩ (own_set_dat w)) q
        refine ⟨fp', h1, fun x hx => ?_, by rw [h3, List.length_set], fun j hj => ?_, fun j hj => ?_⟩
        · rcases h2 x hx with w | ⟨j, c, hj, ha⟩
          · exact .inl (own_set_dat w)
          · exact .inr ⟨j + 1, c, by simpa using hj, ha⟩
        · rw [h4 j fun z => hj (List.mem_cons_of_mem _ z), List.getElem?_set, if_neg (fun z => hj (by rw [z]; simp))]
        · rcases List.mem_cons.mp hj with z | z
          · subst z
            rw [h4 j hl, List.getElem?_set, if_pos rfl, if_pos lt]
            exact .inr ⟨d, rfl⟩
          · exact h5 j z
/-- a call -/
theorem sim_call {ms : List Bool} {F : WF} {w : WA} {m : Nat} {E : XK} : ∀ σ H Q, tW M (wCall m ms F w) σ H Q → tCall (spV M m F) [] E (tWA M w) σ H Q := fun σ H Q ⟨D, s, fp, e, r, s', hw, q⟩ => by
  simp only [wCall, Option.bind_eq_some_iff, Option.some.injEq, Prod.mk.injEq] at hw
  obtain ⟨⟨rs, s1⟩, h1, ⟨as, mv, s2⟩, h2, ⟨r1, as'⟩, h3, s3, h4, rfl, rfl⟩ := hw
  simp only at h2 h3 h4
  split at h3
  · rename_i hm
    refine ⟨D, s, fp, e, rs, s1, h1, fun vs H1 D1 fp1 f1 a1 v1 => ?_⟩
    obtain ⟨D2, g, l, A⟩ := argsW_ok v1.v a1.e v1.fr h2
    have hvl : vs.length = m := by
      have := A.ea.len
      rw [List.length_map] at this
      omega
    rw [List.append_nil]
    refine ⟨hvl, D2, as, g, A.ea, r1, as', h3, fun v H3 D3 g3 f3 e3 st3 v3 c3 fr3 nu3 => ?_⟩
    have k2 : ∀ a o, H1 a = some o → Own s2 fp1 a → H3 a = some o := fun a o h w => st3.kp a o h fun z => A.ap a z w
    have eS : EnvR M σ H3 D3 s2 fp1 := by
      refine ⟨e3.sub, A.e.len, fun i d hi => ?_, fun i d hi => ?_, A.e.dj⟩
      · obtain ⟨u, p1, p2⟩ := A.e.dt i d hi
        exact ⟨u, p1, dx_mono st3.dd p2⟩
      · obtain ⟨u, p1, p2, p3⟩ := A.e.ow i d hi
        refine ⟨u, p1, p2.mono (fun a ha o h => k2 a o h ⟨i, d, hi, ha⟩) st3.dd, fun a ha => Classical.byContradiction fun w => ?_⟩
        rcases st3.nd a w with q | q | q
        · exact q (p3 a ha)
        · exact A.ap a q ⟨i, d, hi, ha⟩
        · exact p2.here a ha q
    have ap3 : ∀ a, Own as' g3 a → ¬ Own s2 fp1 a := fun a h w => (st3.nw a h).elim (fun q => A.ap a q w) fun q => A.e.ownH w q
    obtain ⟨fp4, e4, o4, l4, off4, in4⟩ := backA_ok A.mv e3 eS ap3 h4
    have ownA : ∀ a, Own as g a → Own s fp a ∨ H a = none := fun a h => (A.na a h).elim (a1.st.nw a) (v1.nu a)
    have none1 : ∀ a, H1 a = none → H a = none := fun a h => Classical.byContradiction fun z => a1.st.tr a z h
    have stB : Step H D s fp H3 D3 s3 fp4 := by
      refine ⟨same_trans a1.st.dd (same_trans A.dd st3.dd), fun a o h n => st3.kp a o (a1.st.kp a o h n) fun z => ?_, fun a h => ?_, fun a h => ?_, fun a h => st3.tr a (a1.st.tr a h)⟩
      · exact (ownA a z).elim n fun q => by rw [h] at q; cases q
      · rcases o4 a h with w | w
        · exact a1.st.nw a (A.nw a w)
        · exact (st3.nw a w).elim (ownA a) fun q => .inr (none1 a q)
      · rcases st3.nd a h with w | w | w
        · rcases A.nd a w with w | w | w
          · exact a1.st.nd a w
          · exact .inr (a1.st.nw a w)
          · exact .inr (v1.nu a w)
        · exact .inr (ownA a w)
        · exact .inr (.inr (none1 a w))
    refine q v H3 D3 fp4 f3 ⟨e4, stB, ⟨?_, fun i => ?_⟩⟩ ⟨v3.cnσ c3, fun a ha => ⟨(fr3 a ha).1, fun z => ?_⟩, fun a ha => (nu3 a ha).elim (ownA a) fun q => .inr (none1 a q)⟩
    · rw [l4, A.len, a1.k.1]
    · show KinAt s s3 i
      by_cases hi : i ∈ l
      · obtain ⟨d, hd⟩ := A.ko i hi
        have k1 : KinAt s s1 i := a1.k.2 i
        refine ⟨fun c hc => ?_, fun c hc => ?_, fun hc => ?_⟩
        · exact (in4 i hi)
        · rw [k1.2.1 c hc] at hd
          cases hd
        · rw [k1.2.2 hc] at hd
          cases hd
      · have k1 : KinAt s s1 i := a1.k.2 i
        have k3 : KinAt s2 s3 i := by
          rw [KinAt, off4 i hi]
          exact KinAt.refl s2 i
        exact k1.trans ((A.kn i hi).trans k3)
    · rcases o4 a z with w | w
      · rcases nu3 a ha with q | q
        · exact A.ap a q w
        · exact A.e.ownH w q
      · exact (fr3 a ha).2 w
  · cases h3
section
variable {x : Str} {k j m : Nat} {ps : List Str} {F : WF} {e : Expr} {es : List Expr} {w : WA} {p pos : Pos} {ms : List Bool}
theorem j_call (ms : List Bool) (C : Cal M.P M.w M.K M.mg X.base x k ps (spV M m F)) (hr : Room j X.A) (ja : JA M X (e :: es) w) (hk : k ≤ j := by decide) (hg : Gl X x := by rfl)
    (hdb : (x == ("__debug__" : Str)) = false := by decide) (he : starEach (e :: es) X.env = (false, eval e X.env) :: starEach es X.env := by rfl) (hpl : (backTo pos (starEach es X.env)).any (·.1) = false := by rfl) :
    J M X (.Call (.Name x p) (e :: es) [] pos) (wCall m ms F w) := fun hM => pe_mono (pe_c (sp := spV M m F) (by rw [hM.P, hM.w, hM.K, hM.mg]; exact C) hr hk hg (ja hM) hdb he hpl) sim_call
end
end
end Tw

/-! lists of one's own are changed; += ; *; join; a, *r -/
namespace Tw
open PySem PySem.Spec PyProof.Rows L2
section
variable {M : Md} {X : Cx} {σ σ' : L2.St} {H D H' D' : Hp} {s s' : S} {fp fp' : Nat → List Addr}
theorem EnvR.mutL (e : EnvR M σ H D s fp) {i : Nat} {ds : List Da} (hi : s[i]? = some (SV.own (.lst ds))) : ∃ a vs, σ[i]? = some (some (.ref a)) ∧ H a = some (.lst vs) ∧ Dxs M D vs ds ∧ ∀ vs' ds', Dxs M D vs' ds' → Aft M σ H D s fp (upd H a (.lst vs')) D (s.set i (.own (.lst ds'))) fp := by
  obtain ⟨v, hv, ho, hd⟩ := e.ow i _ hi
  generalize hfi : fp i = fi at ho hd
  cases ho with
  | @lst a vs _ h x =>
    refine ⟨a, vs, hv, h, x, fun vs' ds' x' => ?_⟩
    have ha : a ∈ fp i := by rw [hfi]; simp
    have hda : D a = none := hd a (by simp)
    have own' : ∀ {b}, Own (s.set i (.own (.lst ds'))) fp b → Own s fp b := fun {b} ⟨j, c, hj, hb⟩ => by
      rcases set_get hj with ⟨rfl, _⟩ | ⟨_, q⟩
      · exact ⟨i, _, hi, hb⟩
      · exact ⟨j, c, q, hb⟩
    refine ⟨⟨same_mut e.sub hda, by rw [List.length_set]; exact e.len, fun j c hj => ?_, fun j c hj => ?_, fun j k c c' hj hk hjk => ?_⟩, ⟨Same.refl _, fun b o h n => ?_, fun b h => .inl (own' h), fun b h => .inl h, fun b h => ?_⟩, ⟨by rw [List.length_set], fun j => ?_⟩⟩
    · rcases set_get hj with ⟨_, q⟩ | ⟨_, q⟩
      · cases q
      · exact e.dt j c q
    · rcases set_get hj with ⟨rfl, q⟩ | ⟨ne, q⟩
      · cases q
        refine ⟨_, hv, ?_, fun b hb => hd b (by rw [← hfi]; exact hb)⟩
        rw [hfi]
        exact .lst upd_same x'
      · obtain ⟨u, p1, p2, p3⟩ := e.ow j c q
        exact ⟨u, p1, p2.mono (fun b hb o h => by rw [upd_ne (fun z => e.dj i j _ c hi q ne a ha (by rw [← z]; exact hb))]; exact h) (Same.refl _), p3⟩
    · have hj' : ∃ d, s[j]? = some (SV.own d) := by
        rcases set_get hj with ⟨rfl, _⟩ | ⟨_, q⟩
        · exact ⟨_, hi⟩
        · exact ⟨_, q⟩
      have hk' : ∃ d, s[k]? = some (SV.own d) := by
        rcases set_get hk with ⟨rfl, _⟩ | ⟨_, q⟩
        · exact ⟨_, hi⟩
        · exact ⟨_, q⟩
      obtain ⟨d1, h1⟩ := hj'
      obtain ⟨d2, h2⟩ := hk'
      exact e.dj j k d1 d2 h1 h2 hjk
    · rw [upd_ne (fun z => n (by rw [z]; exact ⟨i, _, hi, ha⟩))]
      exact h
    · by_cases z : b = a
      · subst z
        rw [upd_same]
        exact fun z => nomatch z
      · rw [upd_ne z]
        exact h
    · by_cases z : j = i
      · subst z
        have lt := (List.getElem?_eq_some_iff.mp hi).1
        refine ⟨fun d _ => .inl ⟨_, by rw [List.getElem?_set, if_pos rfl, if_pos lt]⟩, fun d h => ?_, fun h => ?_⟩
        · rw [hi] at h
          cases h
        · rw [hi] at h
          cases h
      · exact KinAt.set z
/-! ### methods of an own list -/
abbrev FM := Nat → List RV → WE
def SimM (M : Md) (r : V → List V → Hp → VK → Prop) (F : FM) : Prop := ∀ σ H0 D0 s0 fp0 H D s fp i v vs rs f r' s' Q, Aft M σ H0 D0 s0 fp0 H D s fp → Vals' M σ H0 s0 fp0 H D s fp vs rs f → σ[i]? = some (some v) → F i rs s = some (r', s') → (∀ v H' D' fp' f, Aft M σ H0 D0 s0 fp0 H' D' s' fp' → Val M σ H0 s0 fp0 H' D' s' fp' v r' f → Q v H') → r v vs H Q
def ownL (s : S) (i : Nat) : Option (List Da) := match s[i]? with
  | some (SV.own (.lst ds)) => some ds
  | _ => none
theorem ownL_is {i : Nat} {ds : List Da} (h : ownL s i = some ds) : s[i]? = some (SV.own (.lst ds)) := by
  unfold ownL at h
  split at h
  · cases h
    assumption
  · cases h
def wMeth (i : Nat) (F : FM) (w : WA) : WE := fun s => (ownL s i).bind fun _ => (w s).bind fun p => F i p.1 p.2
theorem sim_meth {i : Nat} {r : V → List V → Hp → VK → Prop} {F : FM} {w : WA} (h : SimM M r F) : ∀ σ H Q, tW M (wMeth i F w) σ H Q → tBM M.K "list" r (tVar i) (tWA M w) σ H Q := fun σ H Q ⟨D, s, fp, e, r, s', hw, q⟩ => by
  simp only [wMeth, Option.bind_eq_some_iff] at hw
  obtain ⟨ds, h0, ⟨rs, s1⟩, h1, h2⟩ := hw
  obtain ⟨a, vs, hv, hH, hx, _⟩ := e.mutL (ownL_is h0)
  refine ⟨.ref a, hv, .inl ⟨rfl, vs, SqL.of hH⟩, D, s, fp, e, rs, s1, h1, fun us H1 D1 fp1 f1 a1 v1 => ?_⟩
  exact h _ _ _ _ _ _ _ _ _ _ _ _ _ _ _ _ _ a1 v1 hv h2 q
theorem sim_meth0 {i : Nat} {r : V → List V → Hp → VK → Prop} {F : FM} (h : SimM M r F) : ∀ σ H Q, tW M (wMeth i F wNil) σ H Q → tBM0 M.K "list" r (tVar i) σ H Q := fun σ H Q ⟨D, s, fp, e, r, s', hw, q⟩ => by
  simp only [wMeth, wNil, Option.bind_eq_some_iff, Option.some.injEq, Prod.mk.injEq] at hw
  obtain ⟨ds, h0, ⟨rs, s1⟩, ⟨rfl, rfl⟩, h2⟩ := hw
  obtain ⟨a, vs, hv, hH, hx, _⟩ := e.mutL (ownL_is h0)
  refine ⟨.ref a, hv, .inl ⟨rfl, vs, SqL.of hH⟩, ?_⟩
  exact h _ _ _ _ _ _ _ _ _ _ _ _ _ _ _ _ _ (aft_refl e) ⟨.nil, fun _ h => by simp at h, fun _ h => by simp at h⟩ hv h2 q
section
variable {x name : Str} {i : Nat} {px apos cpos : Pos} {e : Expr} {es : List Expr} {w : WA} {id : String} {r : V → List V → Hp → VK → Prop} {F : FM}
theorem j_meth (h : SimM M r F) (hm : MtR X id r) (slot : Slot "list" name id) (hty : typeOf (.builtin id) = pure (.type "method_descriptor")) (hN : X.N[i]? = some x) (hv : Vis X.env.scope x) (ja : JA M X (e :: es) w)
    (hd : (x == ("__debug__" : Str)) = false := by decide) (hcd : (x == ("__classdict__" : Str)) = false := by decide)
    (hbase : attributeBase (.Name x px) name X.env (eval (.Name x px) X.env) = eval (.Name x px) X.env := by rfl)
    (hfew : ((backTo cpos (starEach (e :: es) X.env)).all (fun x => !x.1) && (backToKw cpos (keywordEach [] X.env)).all (fun x => x.1.isSome) && decide ((e :: es).length + ([] : List Keyword).length + (if ([] : List Keyword).isEmpty then 0 else 1) < 30)) = true := by rfl)
    (hline : (apos.endLine == cpos.line) = true := by rfl) (hs : starEach (e :: es) X.env = (false, eval e X.env) :: starEach es X.env := by rfl) (hplain : (backTo cpos (starEach es X.env)).any (·.1) = false := by rfl) :
    J M X (.Call (.Attribute (.Name x px) name apos) (e :: es) [] cpos) (wMeth i F w) := fun hM => pe_mono (pe_bm PySem.F.plainAttrs_list slot hty hm (pe_var hN hv hd hcd) (ja hM) hbase hfew hline hs hplain) (by rw [hM.K]; exact sim_meth h)
theorem j_meth0 (h : SimM M r F) (hm : MtR X id r) (slot : Slot "list" name id) (hty : typeOf (.builtin id) = pure (.type "method_descriptor")) (hN : X.N[i]? = some x) (hv : Vis X.env.scope x)
    (hd : (x == ("__debug__" : Str)) = false := by decide) (hcd : (x == ("__classdict__" : Str)) = false := by decide)
    (hbase : attributeBase (.Name x px) name X.env (eval (.Name x px) X.env) = eval (.Name x px) X.env := by rfl) (hline : (apos.endLine == cpos.line) = true := by rfl) :
    J M X (.Call (.Attribute (.Name x px) name apos) [] [] cpos) (wMeth i F wNil) := fun hM => pe_mono (pe_bm0 PySem.F.plainAttrs_list slot hty hm (pe_var hN hv hd hcd) hbase hline) (by rw [hM.K]; exact sim_meth0 h)
end
def fAppend : FM := fun i rs s => match rs with
  | [r] => (sto r s).bind fun p => (ownL p.2 i).bind fun ds => if ds.length < 100000 then some (.d .non, p.2.set i (.own (.lst (ds ++ [p.1])))) else none
  | _ => none
theorem sim_append : SimM M rAppend fAppend := fun σ H0 D0 s0 fp0 H D s fp i v vs rs f r' s' Q a hv hs hw q => by
  unfold fAppend at hw
  split at hw
  · simp only [Option.bind_eq_some_iff] at hw
    obtain ⟨⟨d, s1⟩, h1, ds, h2, h3⟩ := hw
    split at h3
    · rename_i hl
      cases h3
      have hvv := hv.v
      cases hvv with
      | cons k1 k2 kz =>
        cases k2
        rw [List.append_nil] at hv
        obtain ⟨D1, a1, x1⟩ := Val.sto (v := _) (r := _) ⟨k1, hv.fr, hv.nu⟩ a h1
        obtain ⟨p, us, hp, hH, hx, mt⟩ := a1.e.mutL (ownL_is h2)
        rw [hs] at hp
        cases hp
        refine ⟨p, us, _, rfl, rfl, hH, by rw [dxs_len hx]; exact Nat.lt_of_lt_of_le hl (by decide), ?_⟩
        exact q _ _ _ _ [] (a1.trans (mt _ _ (dxs_app hx (.cons x1 .nil)))) (.d .non)
    · cases h3
  · cases hw
def fPop : FM := fun i rs s => match rs with
  | [] => (ownL s i).bind fun ds => (ds[ds.length - 1]?).bind fun d => some (.d d, s.set i (.own (.lst ds.dropLast)))
  | _ => none
theorem dxs_dropLast {vs : List V} {ds : List Da} (h : Dxs M D vs ds) : Dxs M D vs.dropLast ds.dropLast := by
  rw [List.dropLast_eq_take, List.dropLast_eq_take, dxs_len h]
  exact dxs_take _ h
theorem sim_pop : SimM M rPop fPop := fun σ H0 D0 s0 fp0 H D s fp i v vs rs f r' s' Q a hv hs hw q => by
  unfold fPop at hw
  split at hw
  · simp only [Option.bind_eq_some_iff, Option.some.injEq, Prod.mk.injEq] at hw
    obtain ⟨ds, h2, d, h3, rfl, rfl⟩ := hw
    obtain ⟨p, us, hp, hH, hx, mt⟩ := a.e.mutL (ownL_is h2)
    rw [hs] at hp
    cases hp
    obtain ⟨y, hy, xy⟩ := dxs_get hx h3
    have hvv := hv.v
    cases hvv
    rw [← dxs_len hx] at hy
    refine ⟨p, us, y, rfl, rfl, hH, hy, ?_⟩
    exact q _ _ _ _ [] (a.trans (mt _ _ (dxs_dropLast hx))) (.d xy)
  · cases hw
def fPopAt : FM := fun i rs s => match rs with
  | [.d (.int k)] => (ownL s i).bind fun ds => (seqIndex? k ds.length).bind fun j => (ds[j]?).bind fun d => if (decide (-(2 ^ 63) ≤ k) && decide (k < 2 ^ 63)) = true then some (.d d, s.set i (.own (.lst (ds.eraseIdx j)))) else none
  | _ => none
theorem dxs_erase : ∀ (n : Nat) {vs : List V} {ds : List Da}, Dxs M D vs ds → Dxs M D (vs.eraseIdx n) (ds.eraseIdx n)
  | _, _, _, .nil => .nil
  | 0, _, _, .cons _ r => r
  | n + 1, _, _, .cons a r => .cons a (dxs_erase n r)
theorem sim_popAt : SimM M rPopAt fPopAt := fun σ H0 D0 s0 fp0 H D s fp i v vs rs f r' s' Q a hv hs hw q => by
  unfold fPopAt at hw
  split at hw
  · rename_i k
    simp only [Option.bind_eq_some_iff] at hw
    obtain ⟨ds, h2, j, hj, d, h3, h4⟩ := hw
    split at h4
    · rename_i hk
      cases h4
      simp only [Bool.and_eq_true, decide_eq_true_eq] at hk
      obtain ⟨p, us, hp, hH, hx, mt⟩ := a.e.mutL (ownL_is h2)
      rw [hs] at hp
      cases hp
      obtain ⟨y, hy, xy⟩ := dxs_get hx h3
      have hvv := hv.v
      cases hvv with
      | cons k1 k2 _ =>
        cases k2
        rw [← dxs_len hx] at hj
        refine ⟨p, us, k, j, y, rfl, by rw [vr_int k1], hH, hk.1, hk.2, hj, hy, ?_⟩
        exact q _ _ _ _ [] (a.trans (mt _ _ (dxs_erase j hx))) (.d xy)
    · cases h4
  · cases hw
def fReverse : FM := fun i rs s => match rs with
  | [] => (ownL s i).bind fun ds => some (.d .non, s.set i (.own (.lst ds.reverse)))
  | _ => none
theorem sim_reverse : SimM M rReverse fReverse := fun σ H0 D0 s0 fp0 H D s fp i v vs rs f r' s' Q a hv hs hw q => by
  unfold fReverse at hw
  split at hw
  · simp only [Option.bind_eq_some_iff, Option.some.injEq, Prod.mk.injEq] at hw
    obtain ⟨ds, h2, rfl, rfl⟩ := hw
    obtain ⟨p, us, hp, hH, hx, mt⟩ := a.e.mutL (ownL_is h2)
    rw [hs] at hp
    cases hp
    have hvv := hv.v
    cases hvv
    exact ⟨p, us, rfl, rfl, hH, q _ _ _ _ [] (a.trans (mt _ _ (dxs_rev hx))) (.d .non)⟩
  · cases hw
def fExtend : FM := fun i rs s => match rs with
  | [r] => (sto r s).bind fun p => match p.1 with
    | .lst es => (ownL p.2 i).bind fun ds => if ds.length + es.length ≤ 100000 then some (.d .non, p.2.set i (.own (.lst (ds ++ es)))) else none
    | _ => none
  | _ => none
theorem sim_extend : SimM M rExtend fExtend := fun σ H0 D0 s0 fp0 H D s fp i v vs rs f r' s' Q a hv hs hw q => by
  unfold fExtend at hw
  split at hw
  · simp only [Option.bind_eq_some_iff] at hw
    obtain ⟨⟨d, s1⟩, h1, h2⟩ := hw
    simp only at h2
    split at h2
    · simp only [Option.bind_eq_some_iff] at h2
      obtain ⟨ds, h2, h3⟩ := h2
      split at h3
      · rename_i es hl
        cases h3
        have hvv := hv.v
        cases hvv with
        | cons k1 k2 kz =>
          cases k2
          rw [List.append_nil] at hv
          obtain ⟨D1, a1, x1⟩ := Val.sto (v := _) (r := _) ⟨k1, hv.fr, hv.nu⟩ a h1
          obtain ⟨b, zs, rfl, hb, xb⟩ := dx_lst x1
          obtain ⟨p, us, hp, hH, hx, mt⟩ := a1.e.mutL (ownL_is h2)
          rw [hs] at hp
          cases hp
          refine ⟨p, b, us, zs, rfl, rfl, hH, a1.e.sub _ _ hb, by rw [dxs_len hx, dxs_len xb]; exact Nat.le_trans hl (by decide), ?_⟩
          exact q _ _ _ _ [] (a1.trans (mt _ _ (dxs_app hx xb))) (.d .non)
      · cases h3
    · cases h2
  · cases hw
/-! ### x[k] = v, x an own list -/
def wgSubL (i : Nat) (wi : WE) : WG := fun r s => (ownL s i).bind fun _ => (wi s).bind fun p => match p.1 with
  | .d (.int k) => (sto r p.2).bind fun q => (ownL q.2 i).bind fun ds => (ixN ds.length k).bind fun j => some (q.2.set i (.own (.lst (ds.set j q.1))))
  | _ => none
theorem jg_subL {x : Str} {i : Nat} {px pos : Pos} {ix : Expr} {wi : WE} (hN : X.N[i]? = some x) (hv : Vis X.env.scope x) (ji : J M X ix wi) (hd : (x == ("__debug__" : Str)) = false := by decide) (hcd : (x == ("__classdict__" : Str)) = false := by decide)
    (ha : ∀ v, assign (.Subscript (.Name x px) ix pos) X.env v = (do
      let ov ← holding [v] (eval (.Name x px) X.env)
      let iv ← holding [v, ov] (eval ix X.env)
      standAt pos
      holding [v, ov, iv] (setItem ov iv v)
      release [v, ov, iv] []) := by intro _; rfl) : JG M X (.Subscript (.Name x px) ix pos) (wgSubL i wi) [] := fun hM => pg_mono (pg_sub (pe_var hN hv hd hcd) (ji hM) set_list ha) fun v σ H Q ⟨D, s, fp, r, f, e, hv, hf, s', hw, q⟩ => by
  simp only [wgSubL, Option.bind_eq_some_iff] at hw
  obtain ⟨ds0, h0, ⟨ri, s1⟩, h1, h2⟩ := hw
  obtain ⟨a, vs, hσ, _, _, _⟩ := e.mutL (ownL_is h0)
  refine ⟨.ref a, hσ, D, s, fp, e, ri, s1, h1, fun iv H1 D1 fp1 f1 a1 v1 => ?_⟩
  simp only at h2
  split at h2
  · rename_i k
    simp only [Option.bind_eq_some_iff, Option.some.injEq] at h2
    obtain ⟨⟨d, s2⟩, h2, ds, h3, j, h4, rfl⟩ := h2
    have hv1 := hv.mono a1.st a1.k hf
    have hf1 := hf.step hv.here a1.st
    obtain ⟨D2, p2, x2⟩ := sto_ok hv1 a1.e (fun x hx => (hf1 x hx).2) h2
    obtain ⟨p, us, hp, hH, hx, mt⟩ := p2.e.mutL (ownL_is h3)
    rw [hσ] at hp
    cases hp
    rw [← dxs_len hx] at h4
    refine ⟨a, us, k, j, rfl, vr_int v1.v, hH, h4, q _ _ _ _ ((a1.toG.trans (p2.toG.trans (mt _ _ (dxs_set x2 j hx)).toG)).mem (fun _ h => by simp at h) fun x hx => by simpa using hx)⟩
  · cases h2
/-! ### x += e of numbers -/
def wAugI (g : Int → Int → Int) (i : Nat) (w : WE) : WS := fun s => match s[i]? with
  | some (SV.dat (.int k)) => (w s).bind fun p => match p.1 with
    | .d (.int j) => some (.nx, p.2.set i (.dat (.int (g k j))))
    | _ => none
  | _ => none
theorem js_aug {g : Int → Int → Int} {i : Nat} {x : Str} {e : Expr} {w : WE} {op : Operator} {pos pos' : Pos} (ho : PIp X op (ipI g)) (hN : X.N.Nodup) (hi : X.N[i]? = some x) (hx : Loc X.env.scope x) (h : J M X e w) (hf : X.fn x = true ∨ X.env.scope.names.lookup x = some .local := by first | exact .inl rfl | exact .inr rfl | assumption) : JS M X (.AugAssign (.Name x pos') op e pos) (wAugI g i w) [i] := fun hM => ps_mono (ps_aug hN hi hx (h hM) ho hf) fun E σ H ⟨D, s, fp, e, r, s', hw, q⟩ => by
  unfold wAugI at hw
  split at hw
  · rename_i k hk
    simp only [Option.bind_eq_some_iff] at hw
    obtain ⟨⟨r1, s1⟩, h1, h2⟩ := hw
    obtain ⟨v, hv, xv⟩ := e.dt i _ hk
    cases xv
    refine ⟨_, hv, D, s, fp, e, r1, s1, h1, fun u H1 D1 fp1 f1 a1 v1 => ?_⟩
    simp only at h2
    split at h2
    · cases h2
      exact ⟨k, _, rfl, vr_int v1.v, q _ _ _ _ ((a1.toS.bindD (.int _) i).mem fun j hj => by simpa using hj)⟩
    · cases h2
  · cases hw
theorem AftG.memH {f g : List Addr} {T : List Nat} (a : AftG M σ H D s fp f T σ' H' D' s' fp') (k : ∀ x ∈ f, x ∈ g ∨ H x = none) : AftG M σ H D s fp g T σ' H' D' s' fp' :=
  ⟨a.e, ⟨a.st.dd, fun x o h n z => a.st.kp x o h n fun q => (k x q).elim z fun w => (by rw [h] at w; cases w), fun x h => by
    rcases a.st.nw x h with q | q | q
    · exact .inl q
    · exact .inr (k x q)
    · exact .inr (.inr q), fun x h => by
    rcases a.st.nd x h with q | q | q | q
    · exact .inl q
    · exact .inr (.inl q)
    · exact .inr (.inr (k x q))
    · exact .inr (.inr (.inr q)), a.st.tr⟩, a.len, a.off, a.kn⟩
/-! ### a, *r = a tuple -/
def wgStar (i j : Nat) : WG := fun r s => match r with
  | .d (.tup (d :: ds)) => some ((s.set i (.dat d)).set j (.own (.lst ds)))
  | _ => none
theorem jg_star {i j k : Nat} {x y : Str} {px py ps pos : Pos} (hc : X.calm = true) (hN : X.N.Nodup) (hi : X.N[i]? = some x) (hj : X.N[j]? = some y) (hx : Loc X.env.scope x) (hy : Loc X.env.scope y)
    (hfx : X.fn x = true ∨ X.env.scope.names.lookup x = some .local := by first | exact .inl rfl | exact .inr rfl | assumption) (hfy : X.fn y = true ∨ X.env.scope.names.lookup y = some .local := by first | exact .inl rfl | exact .inr rfl | assumption) :
    JG M X (.Tuple [.Name x px, .Starred (.Name y py) ps] k pos) (wgStar i j) [i, j] := fun hM => pg_mono (pg_star hc hN hi hj hx hy hfx hfy) fun v σ H Q ⟨D, s, fp, r, f, e, hv, hf, s', hw, q⟩ => by
  unfold wgStar at hw
  split at hw
  · cases hw
    have hdx := vr_dx hv
    obtain ⟨a, vs, rfl, k1, k2⟩ := dx_tup hdx
    cases k2 with
    | cons x1 x2 =>
      refine ⟨a, _, _, rfl, by rw [hM.K]; exact same_sqt e.sub k1, fun p np => ?_⟩
      have g1 := e.gD x1 i
      obtain ⟨a2, v2⟩ := g1.e.newL np (same_new np) upd_same x2
      have v2v := v2.v
      cases v2v with
      | n ho =>
        have g3 := a2.e.gN ho v2.fr j
        refine q _ _ _ _ (((g1.trans (a2.toG.trans g3)).mem (U := [i, j]) (g := [p]) (fun _ h => by simpa using h) fun x hx => by simpa using hx).memH fun x hx => ?_)
        simp at hx
        subst hx
        exact .inr np
  · cases hw
end
end Tw

/-! x = {k: v for ..} -/
namespace Tw
open PySem PySem.Spec PyProof.Rows L2
section
variable {X : Cx}
theorem ps_setDc {i : Nat} {y : Str} {py : Pos} {kx vx tg iter : Expr} {ifs : List Expr} {scope : Scope} {own : List (Str × Nat)} {pos spos : Pos} {wi : TI} {g : TG} {tt : TT} {tk tv : TE} (hc : X.calm = true) (hN : X.N.Nodup) (hy : X.N[i]? = some y) (hyl : X.env.scope.names.lookup y = some .local)
    (sw : swapsWith (.DictComp kx vx [⟨tg, iter, ifs, 0⟩] scope pos) (some (.Name y py)) spos.line X.env = pure true) (hi : PI X tg iter wi) (ok : BlkOk X.N X.env.scope scope own)
    (hg : ∀ (s : Shared) (H : Hp) (C : Addr) (cl : List (Str × Addr)) (fp : List Addr), PG (X.blk s H scope (compEnvC scope cl C X.env) fp) tg g) (ht : ∀ (s : Shared) (H : Hp) (C : Addr) (cl : List (Str × Addr)) (fp : List Addr), PTs (X.blk s H scope (compEnvC scope cl C X.env) fp) ifs tt)
    (hk : ∀ (s : Shared) (H : Hp) (C : Addr) (cl : List (Str × Addr)) (fp : List Addr), PE (X.blk s H scope (compEnvC scope cl C X.env) fp) kx tk) (he : ∀ (s : Shared) (H : Hp) (C : Addr) (cl : List (Str × Addr)) (fp : List Addr), PE (X.blk s H scope (compEnvC scope cl C X.env) fp) vx tv) (hs : ∀ x, foldedSetIterable iter X.env x = pure x := by intro _; rfl) :
    PS X (.Assign [.Name y py] (.DictComp kx vx [⟨tg, iter, ifs, 0⟩] scope pos) spos) (tAsg (tDc wi g tt tk tv (own.map (·.2))) (gName i)) := by
  refine ⟨fun pins s σ H D I h => ?_⟩
  rw [exec_Assign_Name_used _ _ _ _ sw]
  refine wpAny_bind (wpAny_standAt (wpAny_bind ?_))
  show wpAny _ X.A (do let _ ← comprehension (.DictComp kx vx [⟨tg, iter, ifs, 0⟩] scope pos) scope X.env (firstIterPos [⟨tg, iter, ifs, 0⟩] pos) newDict false (eval iter X.env) (some (assign (.Name y py) X.env))) _ _ s
  have h : tDc wi g tt tk tv (own.map (·.2)) σ H (fun x H1 => gName i x σ H1 D.nx) := h
  refine wpAny_bind (thn (dc_core (Qf := fun _ s9 => SP X pins D .next s9) hc hN I hi ok hg ht hk he hs h fun L C s9 m H9 I9 q hn f => ?_) fun _ s9 hq => wpAny_pure (wpAny_pure hq))
  show wpAny _ _ (assign (.Name y py) X.env (.ref L)) _ _ _
  refine wpAny_assign_Name (store_ok2 (v := V.ref L) I9 hN hy (.inl hyl) rfl (fun s2 I2 ⟨a, sb, ha⟩ => ?_) (.inr hyl))
  obtain ⟨f0, f1, f2, f3, f4, f5⟩ := f
  have ne : C ≠ a := by
    rcases ha with z | z
    · rw [z]; exact f1
    · exact fun e => f4 y a z e.symm
  exact ⟨m, hn.sameBut sb ne, fun h3 sb3 => ⟨_, H9, I2.turned (t' := s2.toks) (fun b o hb e => (sb3.2 b hb).trans e) f0 f1 f3 f4 f5, q⟩⟩
end
theorem sw_trueD {kx vx : Expr} {gs : List Comprehension} {scope : Scope} {pos py : Pos} {y : Str} {l : Nat} {env : Env} (hk : env.scope.kind = .function) (hy : env.scope.names.lookup y = some .local) (hl : (py.line == pos.line) = true)
    (ha : (scope.names.any fun (n, k) => n == y && (k == .local || k == .cell)) = false) : swapsWith (.DictComp kx vx gs scope pos) (some (.Name y py)) l env = pure true := by
  have e1 : env.kindOf y = some .local := hy
  have e2 : env.blockKind = .function := by unfold Env.blockKind; rw [hk]; rfl
  unfold swapsWith
  simp only [e2, e1, ha, Expr.pos, hl]
  rfl
end Tw

/-! dicts whose keys are numbers and texts -/
namespace Tw
open PySem PySem.Spec PyProof.Rows L2
def toKey : Da → Option Key
  | .int i => some (.inl i)
  | .str x => some (.inr x)
  | _ => none
theorem toKey_keyDa (k : Key) : toKey (keyDa k) = some k := by cases k <;> rfl
def lookD (kvs : List (Da × Da)) (k : Key) : Option Da := (kvs.find? fun kv => decide (toKey kv.1 = some k)).map (·.2)
def putD (kvs : List (Da × Da)) (k : Key) (d : Da) : List (Da × Da) := if (kvs.any fun kv => decide (toKey kv.1 = some k)) = true then kvs.map (fun kv => if toKey kv.1 = some k then (kv.1, d) else kv) else kvs ++ [(keyDa k, d)]
def mergeD (kvs : List (Da × Da)) (more : List (Key × Da)) : List (Da × Da) := more.foldl (fun acc kv => putD acc kv.1 kv.2) kvs
section
variable {M : Md} {X : Cx} {σ σ' : L2.St} {H D H' D' : Hp} {s s' : S} {fp fp' : Nat → List Addr}
inductive Dks (M : Md) (H : Hp) : List (Key × V) → List (Da × Da) → Prop
  | nil : Dks M H [] []
  | cons {k : Key} {v : V} {d : Da} {ks : List (Key × V)} {kvs : List (Da × Da)} : kOk k → Dx M H v d → Dks M H ks kvs → Dks M H ((k, v) :: ks) ((keyDa k, d) :: kvs)
theorem dks_of : ∀ {ks : List (Key × V)} {ds : List Da}, (∀ kv ∈ ks, kOk kv.1) → Dxs M H (ks.map (·.2)) ds → Dks M H ks ((ks.map fun kv => keyDa kv.1).zip ds)
  | [], _, _, .nil => .nil
  | (k, v) :: r, _, h, .cons x y => .cons (h (k, v) (by simp)) x (dks_of (fun kv hk => h kv (List.mem_cons_of_mem _ hk)) y)
theorem Dks.to : ∀ {ks : List (Key × V)} {kvs : List (Da × Da)}, Dks M H ks kvs → (∀ kv ∈ ks, kOk kv.1) ∧ ∃ ds, Dxs M H (ks.map (·.2)) ds ∧ kvs = (ks.map fun kv => keyDa kv.1).zip ds
  | _, _, .nil => ⟨fun _ h => by simp at h, [], .nil, rfl⟩
  | _, _, .cons a x r => by
    obtain ⟨h1, ds, h2, h3⟩ := r.to
    refine ⟨fun kv hk => ?_, _ :: ds, .cons x h2, by rw [h3]; rfl⟩
    rcases List.mem_cons.mp hk with rfl | hk
    · exact a
    · exact h1 kv hk
theorem dks_mono (e : Same H H') : ∀ {ks : List (Key × V)} {kvs : List (Da × Da)}, Dks M H ks kvs → Dks M H' ks kvs
  | _, _, .nil => .nil
  | _, _, .cons a x r => .cons a (dx_mono e x) (dks_mono e r)
theorem dx_dct {v : V} {kvs : List (Da × Da)} (h : Dx M H v (.dct kvs)) : ∃ a ks, v = .ref a ∧ H a = some (.dK ks) ∧ Dks M H ks kvs := by
  cases h with
  | dct h k x => exact ⟨_, _, rfl, h, dks_of k x⟩
theorem ow_dct {v : V} {kvs : List (Da × Da)} {f : List Addr} (h : OwR M H D v (.dct kvs) f) : ∃ a ks, v = .ref a ∧ f = [a] ∧ H a = some (.dK ks) ∧ Dks M D ks kvs := by
  cases h with
  | dct h k x => exact ⟨_, _, rfl, rfl, h, dks_of k x⟩
theorem mk_dct {a : Addr} {ks : List (Key × V)} {kvs : List (Da × Da)} (h : H a = some (.dK ks)) (x : Dks M D ks kvs) : OwR M H D (.ref a) (.dct kvs) [a] := by
  obtain ⟨h1, ds, h2, rfl⟩ := x.to
  exact .dct h h1 h2
theorem dks_len : ∀ {ks : List (Key × V)} {kvs : List (Da × Da)}, Dks M H ks kvs → ks.length = kvs.length
  | _, _, .nil => rfl
  | _, _, .cons _ _ r => congrArg Nat.succ (dks_len r)
theorem dks_look {k : Key} : ∀ {ks : List (Key × V)} {kvs : List (Da × Da)}, Dks M H ks kvs → (valV ks k = none ∧ lookD kvs k = none) ∨ ∃ v d, valV ks k = some v ∧ lookD kvs k = some d ∧ Dx M H v d
  | _, _, .nil => .inl ⟨rfl, rfl⟩
  | _, _, @Dks.cons _ _ k' v d ks kvs a x r => by
    unfold valV lookD
    rw [List.find?_cons, List.find?_cons]
    by_cases e : k' = k
    · subst e
      refine .inr ⟨v, d, ?_, ?_, x⟩
      · rw [decide_eq_true rfl]
        rfl
      · rw [decide_eq_true (by rw [toKey_keyDa])]
        rfl
    · rw [decide_eq_false e, decide_eq_false (by rw [toKey_keyDa]; exact fun z => e (Option.some.inj z))]
      exact dks_look r
theorem dks_any {k : Key} : ∀ {ks : List (Key × V)} {kvs : List (Da × Da)}, Dks M H ks kvs → (ks.any fun kv => decide (kv.1 = k)) = (kvs.any fun kv => decide (toKey kv.1 = some k))
  | _, _, .nil => rfl
  | _, _, @Dks.cons _ _ k' v d ks kvs a x r => by
    rw [List.any_cons, List.any_cons, dks_any r, toKey_keyDa]
    congr 1
    by_cases e : k' = k
    · subst e
      simp
    · rw [decide_eq_false e, decide_eq_false fun z => e (Option.some.inj z)]
theorem dks_put {k : Key} {v : V} {d : Da} (hk : kOk k) (hx : Dx M H v d) : ∀ {ks : List (Key × V)} {kvs : List (Da × Da)}, Dks M H ks kvs → Dks M H (putK ks k v) (putD kvs k d) := by
  intro ks kvs h
  unfold putK putD
  rw [dks_any h]
  split
  · have : ∀ {ks : List (Key × V)} {kvs : List (Da × Da)}, Dks M H ks kvs → Dks M H (ks.map fun kv => if kv.1 = k then (kv.1, v) else kv) (kvs.map fun kv => if toKey kv.1 = some k then (kv.1, d) else kv) := by
      intro ks kvs h
      induction h with
      | nil => exact .nil
      | @cons k' v' d' ks kvs a x r ih =>
        rw [List.map_cons, List.map_cons, toKey_keyDa]
        by_cases e : k' = k
        · rw [if_pos e, if_pos (by rw [e])]
          exact .cons a hx ih
        · rw [if_neg e, if_neg (fun z => e (Option.some.inj z))]
          exact .cons a x ih
    exact this h
  · have : ∀ {ks : List (Key × V)} {kvs : List (Da × Da)}, Dks M H ks kvs → Dks M H (ks ++ [(k, v)]) (kvs ++ [(keyDa k, d)]) := by
      intro ks kvs h
      induction h with
      | nil => exact .cons hk hx .nil
      | cons a x _ ih => exact .cons a x ih
    exact this h
theorem key_ok {v : V} {d : Da} {k : Key} (h : Dx M H v d) (hk : toKey d = some k) : v = kV k ∧ kOk k := by
  cases h with
  | int i =>
    cases hk
    exact ⟨rfl, trivial⟩
  | str x =>
    cases hk
    exact ⟨rfl, x⟩
  | _ => cases hk
/-! ### x in d, d[x] -/
def fInD (n : Bool) : F2 := fun x y s => match dv s y with
  | some (.dct kvs) => match x with
    | .d k => (toKey k).bind fun k => some (.d (.bl (if n then !(lookD kvs k).isSome else (lookD kvs k).isSome)), s)
    | _ => none
  | _ => none
def fInT (n : Bool) : F2 := fun x y s => match dv s y with
  | some (.tab kvs) => match x with
    | .d (.str z) => some (.d (.bl (if n then !(kvs.lookup z).isSome else (kvs.lookup z).isSome)), s)
    | _ => none
  | _ => none
def rInK (K : PySem.W.Frag) (w : World) (n : Bool) : R2 := fun x y H Q => ∃ d es m, KDict K w d es m ∧ ∃ (z : Str) (r : Option Value), x = .str z ∧ y = .ref d ∧ PySem.W.nsIn K d z = some r ∧ Q (.bl (if n then !r.isSome else r.isSome)) H
theorem op_inK : OpR X (compareOp .In) (rInK X.K X.w false) := fun pins s σ H x y v u Q I rx ry ⟨d, es, m, D, h⟩ => op_in_kd D pins s σ H x y v u Q I rx ry h
theorem op_notInK : OpR X (compareOp .NotIn) (rInK X.K X.w true) := fun pins s σ H x y v u Q I rx ry ⟨d, es, m, D, h⟩ => op_notIn_kd D pins s σ H x y v u Q I rx ry h
def rInDct (n : Bool) : R2 := fun y x H Q => ∃ a o, x = .ref a ∧ DGet H a y o ∧ Q (.bl (if n then !o.isSome else o.isSome)) H
theorem tab_look {a : Addr} {vs : List V} {kvs : List (Str × Da)} (h : TabAt M a (kvs.map (·.1)) vs) (hx : Dxs M H vs (kvs.map (·.2))) (z : Str) : ∃ r, PySem.W.nsIn M.K a z = some r ∧ (∃ es n, KDict M.K M.w a es n) ∧ ((r = none ∧ kvs.lookup z = none) ∨ ∃ u v d, r = some u ∧ RelV v u ∧ kvs.lookup z = some d ∧ Dx M H v d) := by
  obtain ⟨kd, h⟩ := h
  obtain ⟨r, h1, h2⟩ := h z
  refine ⟨r, h1, kd, ?_⟩
  have key : ∀ (kvs : List (Str × Da)) (vs : List V), Dxs M H vs (kvs.map (·.2)) → (((kvs.map (·.1)).zip vs).lookup z = none ∧ kvs.lookup z = none) ∨ ∃ v d, ((kvs.map (·.1)).zip vs).lookup z = some v ∧ kvs.lookup z = some d ∧ Dx M H v d := by
    intro kvs
    induction kvs with
    | nil =>
      intro vs hx
      cases hx
      exact .inl ⟨rfl, rfl⟩
    | cons p r ih =>
      intro vs hx
      cases hx with
      | cons x y =>
        obtain ⟨k, d⟩ := p
        simp only [List.map_cons, List.zip_cons_cons, List.lookup]
        by_cases e : (z == k) = true
        · rw [e]
          exact .inr ⟨_, _, rfl, rfl, x⟩
        · rw [Bool.not_eq_true] at e
          rw [e]
          exact ih _ y
  rcases key kvs vs hx with ⟨k1, k2⟩ | ⟨v, d, k1, k2, k3⟩
  · rw [k1] at h2
    exact .inl ⟨h2, k2⟩
  · rw [k1] at h2
    obtain ⟨u, rfl, hu⟩ := h2
    exact .inr ⟨u, v, d, rfl, hu, k2, k3⟩
theorem look_some {ks : List (Key × V)} {kvs : List (Da × Da)} {k : Key} (h : Dks M H ks kvs) : (valV ks k).isSome = (lookD kvs k).isSome := by
  rcases dks_look (k := k) h with ⟨h1, h2⟩ | ⟨v, d, h1, h2, _⟩
  · rw [h1, h2]
    rfl
  · rw [h1, h2]
    rfl
theorem sim_inD (n : Bool) : SimR M (rInDct n) (fInD n) := fun σ H D s fp x y rx ry fx fy r' s' Q e vx vy _ _ hw q => by
  unfold fInD at hw
  split at hw
  · rename_i kvs hd
    split at hw
    · simp only [Option.bind_eq_some_iff, Option.some.injEq, Prod.mk.injEq] at hw
      obtain ⟨k, hk, rfl, rfl⟩ := hw
      obtain ⟨rfl, kk⟩ := key_ok (vr_dx vx) hk
      obtain ⟨a, ks, rfl, hH, hks⟩ := dx_dct (dv_ok e vy hd)
      refine ⟨a, valV ks k, rfl, .inl ⟨ks, k, .inl hH, rfl, rfl⟩, ?_⟩
      rw [look_some hks]
      exact q _ _ _ _ _ (aft_refl e) (.d (.bl _))
    · cases hw
  · cases hw
theorem sim_inT (n : Bool) : SimR M (rInK M.K M.w n) (fInT n) := fun σ H D s fp x y rx ry fx fy r' s' Q e vx vy _ _ hw q => by
  unfold fInT at hw
  split at hw
  · rename_i kvs hd
    split at hw
    · rename_i z
      cases hw
      obtain ⟨rfl, kz⟩ := vr_str vx
      have hx := dv_ok e vy hd
      cases hx with
      | tab h1 h2 h3 =>
        subst h2
        obtain ⟨r, k1, ⟨es, m, k2⟩, k3⟩ := tab_look h1 h3 z
        refine ⟨_, es, m, k2, z, r, rfl, rfl, k1, ?_⟩
        have : r.isSome = (kvs.lookup z).isSome := by
          rcases k3 with ⟨h1, h2⟩ | ⟨u, v, d, h1, _, h2, _⟩
          · rw [h1, h2]
            rfl
          · rw [h1, h2]
            rfl
        rw [this]
        exact q _ _ _ _ _ (aft_refl e) (.d (.bl _))
    · cases hw
  · cases hw
theorem or_split {F G : F2} {wa wb : WE} : ∀ σ H Q, tW M (wOp (orF F G) wa wb) σ H Q → tW M (wOp F wa wb) σ H Q ∨ tW M (wOp G wa wb) σ H Q := fun σ H Q ⟨D, s, fp, e, r, s', hw, q⟩ => by
  simp only [wOp, Option.bind_eq_some_iff] at hw
  obtain ⟨⟨r1, s1⟩, h1, ⟨r2, s2⟩, h2, h3⟩ := hw
  unfold orF at h3
  split at h3
  · rename_i p hp
    refine .inl ⟨D, s, fp, e, r, s', ?_, q⟩
    simp only [wOp, Option.bind_eq_some_iff]
    exact ⟨⟨r1, s1⟩, h1, ⟨r2, s2⟩, h2, hp.trans h3⟩
  · refine .inr ⟨D, s, fp, e, r, s', ?_, q⟩
    simp only [wOp, Option.bind_eq_some_iff]
    exact ⟨⟨r1, s1⟩, h1, ⟨r2, s2⟩, h2, h3⟩
theorem c_orF {op : CmpOp} {a b : Expr} {F G : F2} {wa wb : WE} (h : JC M X op a b (wOp F wa wb)) (k : JC M X op a b (wOp G wa wb)) : JC M X op a b (wOp (orF F G) wa wb) := fun hM => ⟨fun pins s σ H Q I q => (or_split σ H Q q).elim ((h hM).run pins s σ H Q I) ((k hM).run pins s σ H Q I)⟩
theorem j_orF {e : Expr} {F G : F2} {wa wb : WE} (h : J M X e (wOp F wa wb)) (k : J M X e (wOp G wa wb)) : J M X e (wOp (orF F G) wa wb) := fun hM => ⟨fun pins s σ H Q I q => (or_split σ H Q q).elim ((h hM).run pins s σ H Q I) ((k hM).run pins s σ H Q I)⟩
abbrev fInA (n : Bool) : F2 := orF (fIn n) (orF (fInD n) (fInT n))
theorem c_in {a b : Expr} {wa wb : WE} (hu : X.A.units + 64 < cLine) (ja : J M X a wa) (jb : J M X b wb) : JC M X .In a b (wOp (fInA false) wa wb) :=
  c_orF (c_op (fun hM => by rw [← hM.K]; exact op_inA) (sim_in false) ja jb) (c_orF (fun hM => pc_mono (pc_din (by omega) (ja hM) (jb hM)) (sim_op (sim_inD false))) (c_op (fun hM => by rw [← hM.K, ← hM.w]; exact op_inK) (sim_inT false) ja jb))
theorem c_notin {a b : Expr} {wa wb : WE} (hu : X.A.units + 64 < cLine) (ja : J M X a wa) (jb : J M X b wb) : JC M X .NotIn a b (wOp (fInA true) wa wb) :=
  c_orF (c_op (fun hM => by rw [← hM.K]; exact op_notInA) (sim_in true) ja jb) (c_orF (fun hM => pc_mono (pc_dnotin (by omega) (ja hM) (jb hM)) (sim_op (sim_inD true))) (c_op (fun hM => by rw [← hM.K, ← hM.w]; exact op_notInK) (sim_inT true) ja jb))
/-! d[k] -/
def dctD (s : S) : RV → Option (List (Da × Da))
  | .d (.dct kvs) => some kvs
  | .n (.dct kvs) => some kvs
  | .o i => match s[i]? with
    | some (SV.own (.dct kvs)) => some kvs
    | some (SV.dat (.dct kvs)) => some kvs
    | _ => none
  | _ => none
theorem vr_dct {v : V} {r : RV} {f : List Addr} {kvs : List (Da × Da)} (e : EnvR M σ H D s fp) (h : VR M σ H D s v r f) (hi : dctD s r = some kvs) : ∃ a ks, v = .ref a ∧ H a = some (.dK ks) ∧ Dks M D ks kvs := by
  unfold dctD at hi
  split at hi
  · cases hi
    obtain ⟨a, ks, rfl, h1, h2⟩ := dx_dct (vr_dx h)
    exact ⟨a, ks, rfl, e.sub _ _ h1, h2⟩
  · cases hi
    cases h with
    | n h =>
      obtain ⟨a, ks, rfl, _, h1, h2⟩ := ow_dct h
      exact ⟨a, ks, rfl, h1, h2⟩
  · cases h with
    | o hv =>
      split at hi
      · rename_i hs
        cases hi
        obtain ⟨u, hu, ho, _⟩ := e.ow _ _ hs
        rw [hv] at hu
        cases hu
        obtain ⟨a, ks, rfl, _, h1, h2⟩ := ow_dct ho
        exact ⟨a, ks, rfl, h1, h2⟩
      · rename_i hs
        cases hi
        obtain ⟨u, hu, hx⟩ := e.dt _ _ hs
        rw [hv] at hu
        cases hu
        obtain ⟨a, ks, rfl, h1, h2⟩ := dx_dct hx
        exact ⟨a, ks, rfl, e.sub _ _ h1, h2⟩
      · cases hi
  · cases hi
def fIxD : F2 := fun x y s => (dctD s x).bind fun kvs => match y with
  | .d k => (toKey k).bind fun k => (lookD kvs k).bind fun d => some (.d d, s)
  | _ => none
def rDGet : R2 := fun x y H Q => ∃ a v, x = .ref a ∧ DGet H a y (some v) ∧ Q v H
theorem sim_ixD : SimR M rDGet fIxD := fun σ H D s fp x y rx ry fx fy r' s' Q e vx vy _ _ hw q => by
  simp only [fIxD, Option.bind_eq_some_iff] at hw
  obtain ⟨kvs, h1, h2⟩ := hw
  split at h2
  · simp only [Option.bind_eq_some_iff, Option.some.injEq, Prod.mk.injEq] at h2
    obtain ⟨k, hk, d, hd, rfl, rfl⟩ := h2
    obtain ⟨rfl, kk⟩ := key_ok (vr_dx vy) hk
    obtain ⟨a, ks, rfl, hH, hks⟩ := vr_dct e vx h1
    rcases dks_look (k := k) hks with ⟨_, h2⟩ | ⟨v, d', h1, h2, h3⟩
    · rw [hd] at h2
      cases h2
    · rw [hd] at h2
      cases h2
      exact ⟨a, v, rfl, .inl ⟨ks, k, .inl hH, rfl, h1.symm⟩, q _ _ _ _ _ (aft_refl e) (.d h3)⟩
  · cases h2
def fIxT : F2 := fun x y s => match x, y with
  | .d (.tab kvs), .d (.str z) => (kvs.lookup z).bind fun d => some (.d d, s)
  | _, _ => none
theorem sim_ixT : SimR M (rIxD M.K M.w) fIxT := fun σ H D s fp x y rx ry fx fy r' s' Q e vx vy _ _ hw q => by
  unfold fIxT at hw
  split at hw
  · rename_i kvs z
    simp only [Option.bind_eq_some_iff, Option.some.injEq, Prod.mk.injEq] at hw
    obtain ⟨d, hd, rfl, rfl⟩ := hw
    obtain ⟨rfl, kz⟩ := vr_str vy
    have hx := vr_dx vx
    cases hx with
    | tab h1 h2 h3 =>
      subst h2
      obtain ⟨r, k1, ⟨es, m, k2⟩, k3⟩ := tab_look h1 h3 z
      rcases k3 with ⟨_, h2⟩ | ⟨u, v, d', rfl, hu, h2, hx⟩
      · rw [hd] at h2
        cases h2
      · rw [hd] at h2
        cases h2
        exact ⟨_, z, v, rfl, rfl, ⟨es, m, u, k2.at_, k2.lit, k1, hu⟩, q _ _ _ _ _ (aft_refl e) (.d hx)⟩
  · cases hw
abbrev fIxA : F2 := orF fIx (orF fIxD fIxT)
theorem j_ix {a b : Expr} {pos : Pos} {wa wb : WE} (hu : X.A.units + 64 < cLine) (ja : J M X a wa) (jb : J M X b wb) (hs : PlainIx b := by intro _ _; rfl) : J M X (.Subscript a b pos) (wOp fIxA wa wb) :=
  j_orF (fun hM => pe_mono (pe_ix (r := rIxA M.K) (by rw [← hM.K]; exact ix_any) (ja hM) (jb hM) hs) (sim_op sim_ix)) (j_orF (fun hM => pe_mono (pe_dget (by omega) (ja hM) (jb hM) hs) (sim_op sim_ixD)) (fun hM => pe_mono (pe_ix (r := rIxD M.K M.w) (by rw [← hM.K, ← hM.w]; exact ix_kdict) (ja hM) (jb hM) hs) (sim_op sim_ixT)))
/-! ### the forms that one uses -/
theorem jv (i : Nat) {x : Str} {pos : Pos} (hN : X.N[i]? = some x := by rfl) (hv : Vis X.env.scope x := by first | exact Or.inl rfl | exact Or.inr (Or.inl rfl) | exact Or.inr (Or.inr rfl)) (hd : (x == ("__debug__" : Str)) = false := by decide) (hcd : (x == ("__classdict__" : Str)) = false := by decide) : J M X (.Name x pos) (wVar i) := j_var hN hv hd hcd
/-- constants of the top -/
def GI (M : Md) (x : Str) (i : Int) : Prop := ∃ t, M.mg x = some (.int i t)
def GS (M : Md) (x z : Str) : Prop := ∃ t, M.mg x = some (.str z t)
def GF (M : Md) (x : Str) : Prop := ∃ a, M.mg x = some (.ref a)
def GD (M : Md) (x : Str) (d : Da) : Prop := ∃ a, M.mg x = some (.ref a) ∧ ∀ D, Dx M D (.ref a) d
theorem jgi {x : Str} {i : Int} {pos : Pos} (h : GI M x i) (hg : Gl X x := by rfl) (hd : (x == ("__debug__" : Str)) = false := by decide) : J M X (.Name x pos) (wC (.int i)) := by
  obtain ⟨t, h⟩ := h
  exact j_glob (v := .int i) hg h ⟨t, rfl⟩ (fun _ => .int i) hd
theorem jgs {x z : Str} {pos : Pos} (h : GS M x z) (hz : PyData.strOk z = true := by decide +kernel) (hz2 : z.length ≤ 1000 := by decide +kernel) (hg : Gl X x := by rfl) (hd : (x == ("__debug__" : Str)) = false := by decide) : J M X (.Name x pos) (wC (.str z)) := by
  obtain ⟨t, h⟩ := h
  exact j_glob (v := .str z) hg h ⟨t, rfl⟩ (fun _ => .str ⟨hz, Nat.le_trans hz2 (by decide)⟩) hd
theorem jgf {x : Str} {pos : Pos} (h : GF M x) (hg : Gl X x := by rfl) (hd : (x == ("__debug__" : Str)) = false := by decide) : J M X (.Name x pos) (wC (.fn x)) := by
  obtain ⟨a, h⟩ := h
  exact j_glob (v := .ref a) hg h rfl (fun _ => .fn h) hd
theorem jgd {x : Str} {d : Da} {pos : Pos} (h : GD M x d) (hg : Gl X x := by rfl) (hd : (x == ("__debug__" : Str)) = false := by decide) : J M X (.Name x pos) (wC d) := by
  obtain ⟨a, h, k⟩ := h
  exact j_glob (v := .ref a) hg h rfl k hd
theorem room_u {k : Nat} {A : Around} (h : Room k A) : A.units + 64 < cLine := by
  have := h.un
  omega
/-- a <= b <= c and the like -/
theorem jt_chain {a b c : Expr} {pos : Pos} {wa wb wc : WE} {op op' : CmpOp} {r r' : R2} {F G : F2} (ho : OpR X (compareOp op) r) (ho' : OpR X (compareOp op') r') (hF : SimR M r F) (hG : SimR M r' G) (ja : J M X a wa) (jb : J M X b wb) (jc : J M X c wc) (hm : lastMarks [op, op'] [b, c] = false := by with_unfolding_all rfl) :
    JT M X (.Compare a [op, op'] [b, c] pos) (wTest (wChain F G wa wb wc)) := fun hM => by
  refine pt_mono (pt_chain ho ho' (ja hM) (jb hM) (jc hM) hm) fun σ H Q ⟨D, s, fp, e, r, s', hw, q⟩ => ?_
  simp only [wTest, Option.bind_eq_some_iff] at hw
  obtain ⟨⟨r1, s1⟩, h1, h2⟩ := hw
  refine sim_chain hF hG σ H _ ⟨D, s, fp, e, r1, s1, h1, fun v H1 D1 fp1 f1 a1 v1 => ?_⟩
  simp only at h2
  split at h2
  · cases h2
    exact ⟨_, vr_bl v1.v, q _ _ _ a1⟩
  · cases h2
end
end Tw

namespace Tw
open PySem PySem.Spec PyProof.Rows L2
/-- the built-in names that the top leaves alone -/
structure Bi (mg : Str → Option Value) : Prop where
  len : mg "len" = none
  abs : mg "abs" = none
  int : mg "int" = none
  list : mg "list" = none
  tuple : mg "tuple" = none
  str : mg "str" = none
  bool : mg "bool" = none
  range : mg "range" = none
  enumerate : mg "enumerate" = none
  zip : mg "zip" = none
  all : mg "all" = none
  any : mg "any" = none
  sum : mg "sum" = none
  min : mg "min" = none
  max : mg "max" = none
  sorted : mg "sorted" = none
  set : mg "set" = none
  dict : mg "dict" = none
  repr : mg "repr" = none
  reversed : mg "reversed" = none
  isinstance : mg "isinstance" = none
/-- how often a while may turn -/
def FUEL : Nat := 1000000
end Tw

/-! dicts: displays, comprehensions, stores, update -/
namespace Tw
open PySem PySem.Spec PyProof.Rows L2
section
variable {M : Md} {X : Cx} {σ σ' : L2.St} {H D H' D' : Hp} {s s' : S} {fp fp' : Nat → List Addr}
/-- a thing that is nobody's changes -/
theorem EnvR.updF (e : EnvR M σ H D s fp) {p : Addr} {o : HO} (hf : Free D s fp [p]) : EnvR M σ (upd H p o) D s fp := by
  refine ⟨same_mut e.sub (hf p (by simp)).1, e.len, e.dt, fun j c hj => ?_, e.dj⟩
  obtain ⟨u, p1, p2, p3⟩ := e.ow j c hj
  exact ⟨u, p1, p2.mono (fun x hx o hq => by rw [upd_ne (fun z => (hf p (by simp)).2 ⟨j, c, hj, by rw [← z]; exact hx⟩)]; exact hq) (Same.refl _), p3⟩
/-- .. behind a piece of a run that began ahead of it -/
theorem Aft.updF {H0 D0 : Hp} {s0 : S} {fp0 : Nat → List Addr} (a : Aft M σ H0 D0 s0 fp0 H D s fp) {p : Addr} {o : HO} (h0 : H0 p = none) (hf : Free D s fp [p]) : Aft M σ H0 D0 s0 fp0 (upd H p o) D s fp := by
  refine ⟨a.e.updF hf, ⟨a.st.dd, fun x u hx n => ?_, a.st.nw, a.st.nd, fun x hx => ?_⟩, a.k⟩
  · rw [upd_ne (fun z => by rw [z, h0] at hx; cases hx)]
    exact a.st.kp x u hx n
  · by_cases z : x = p
    · rw [z, h0] at hx
      exact absurd rfl hx
    · rw [upd_ne z]
      exact a.st.tr x hx
/-! ### displays -/
def wDNew : WE := fun s => some (.n (.dct []), s)
theorem j_dnew {pos : Pos} : J M X (.Dict [] [] pos) wDNew := fun hM => pe_mono pe_dnewK fun σ H Q ⟨D, s, fp, e, r, s', hw, q⟩ => by
  cases hw
  intro p np
  obtain ⟨e1, st1⟩ := e.hide (same_new (o := .dK []) np)
  exact q _ _ _ _ [p] ⟨e1, st1, Kin.refl _⟩ ⟨.n (mk_dct upd_same .nil), e.fresh (same_new (o := .dK []) np) np, fun a ha => by simp at ha; subst ha; exact .inr np⟩
def pairUp : List V → List (V × V)
  | a :: b :: r => (a, b) :: pairUp r
  | _ => []
def pairsD : List Da → Option (List (Key × Da))
  | [] => some []
  | k :: d :: r => (toKey k).bind fun k => (pairsD r).bind fun l => some ((k, d) :: l)
  | _ => none
def wpNil : WA := wNil
def wpCons (k v : WE) (r : WA) : WA := wCons k (wCons v r)
def wDict (w : WA) : WE := fun s => (w s).bind fun p => (stos p.1 p.2).bind fun q => (pairsD q.1).bind fun kvs => if kvs.length ≤ 15 then some (.n (.dct (mergeD [] kvs)), q.2) else none
def JP (M : Md) (X : Cx) (pos : Pos) (keys : List (Option Expr)) (values : List Expr) (w : WA) : Prop := M.at X → keys.all (·.isSome) = true ∧ keys.length = values.length ∧ ∃ trs, PPs X pos keys values trs ∧ ∀ σ H Q, tWA M w σ H (fun vs H1 => Q (pairUp vs) H1) → tPairs trs σ H Q
theorem jp_nil {pos : Pos} : JP M X pos [] [] wpNil := fun _ => ⟨rfl, rfl, [], pps_nil, fun σ H Q ⟨D, s, fp, e, r, s', hw, q⟩ => by
  cases hw
  exact q [] _ _ _ [] (aft_refl e) ⟨.nil, fun _ h => by simp at h, fun _ h => by simp at h⟩⟩
theorem jp_cons {pos : Pos} {k v : Expr} {ks : List (Option Expr)} {vs : List Expr} {wk wv : WE} {w : WA} (jk : J M X k wk) (jv : J M X v wv) (jr : JP M X pos ks vs w) : JP M X pos (some k :: ks) (v :: vs) (wpCons wk wv w) := fun hM => by
  obtain ⟨h1, h2, trs, h3, h4⟩ := jr hM
  refine ⟨by simpa using h1, congrArg Nat.succ h2, _, pps_cons (jk hM) (jv hM) h3, fun σ H Q ⟨D, s, fp, e, r, s', hw, q⟩ => ?_⟩
  simp only [wpCons, wCons, Option.bind_eq_some_iff, Option.some.injEq, Prod.mk.injEq] at hw
  obtain ⟨⟨r1, s1⟩, k1, ⟨rs, s2⟩, ⟨⟨r2, s3⟩, k2, ⟨rs2, s4⟩, k3, rfl, rfl⟩, rfl, rfl⟩ := hw
  refine ⟨D, s, fp, e, r1, s1, k1, fun x H1 D1 fp1 f1 a1 v1 => ⟨D1, s1, fp1, a1.e, r2, s3, k2, fun y H2 D2 fp2 f2 a2 v2 => h4 σ H2 _ ⟨D2, s3, fp2, a2.e, rs2, s4, k3, fun us H3 D3 fp3 f3 a3 v3 => ?_⟩⟩⟩
  have v1' := (v1.step a2).step a3
  have v2' := (v2.step a3)
  have v2b := v2'.back a1.st
  have v3b := v3.back (a1.st.trans a2.st)
  refine q (x :: y :: us) _ _ _ (f1 ++ (f2 ++ f3)) (a1.trans (a2.trans a3)) ⟨.cons v1'.v (.cons v2'.v v3.v fun a h1 h2 => (v3.nu a h2).elim (v2.fr a h1).2 (v2.v.here a h1)) fun a h1 h2 => ?_, v1'.fr.app (v2'.fr.app v3.fr), v1.nu.app (v2b.nu.app v3b.nu)⟩
  rcases List.mem_append.mp h2 with h2 | h2
  · exact (v2.nu a h2).elim (v1.fr a h1).2 (v1.v.here a h1)
  · have v1s := v1.step a2
    exact (v3.nu a h2).elim (v1s.fr a h1).2 (v1s.v.here a h1)
theorem pairs_ok : ∀ {vs : List V} {ds : List Da} {l : List (Key × Da)}, Dxs M D vs ds → pairsD ds = some l → ∃ ks : List (Key × V), pairUp vs = ks.map (fun kv => (kV kv.1, kv.2)) ∧ ks.length = l.length ∧ ∀ acc accD, Dks M D acc accD → Dks M D (mergeK acc ks) (mergeD accD l)
  | _, _, _, .nil, h => by
    cases h
    exact ⟨[], rfl, rfl, fun _ _ h => h⟩
  | _, _, _, .cons x .nil, h => by cases h
  | _, _, l, .cons x (.cons y r), h => by
    simp only [pairsD, Option.bind_eq_some_iff, Option.some.injEq] at h
    obtain ⟨k, hk, l', hl, rfl⟩ := h
    obtain ⟨rfl, kk⟩ := key_ok x hk
    obtain ⟨ks, h1, h2, h3⟩ := pairs_ok r hl
    exact ⟨(k, _) :: ks, by simp only [pairUp, h1, List.map_cons], congrArg Nat.succ h2, fun acc accD h => h3 _ _ (dks_put kk y h)⟩
theorem j_dict {pos : Pos} {k : Option Expr} {v : Expr} {keys : List (Option Expr)} {values : List Expr} {w : WA} (j : JP M X pos (k :: keys) (v :: values) w) (h15 : (k :: keys).length ≤ 15 := by decide) : J M X (.Dict (k :: keys) (v :: values) pos) (wDict w) := fun hM => by
  obtain ⟨h1, h2, trs, h3, h4⟩ := j hM
  refine pe_mono (pe_disp h3 h1 h2 (fun z => nomatch z) h15) fun σ H Q ⟨D, s, fp, e, r, s', hw, q⟩ => ?_
  simp only [wDict, Option.bind_eq_some_iff] at hw
  obtain ⟨⟨rs, s1⟩, k1, ⟨ds, s2⟩, k2, l, k3, k4⟩ := hw
  split at k4
  · rename_i hl
    cases k4
    intro p np
    obtain ⟨e1, st1⟩ := e.hide (same_new (o := .dK []) np)
    have a0 : Aft M σ H D s fp (upd H p (.dK [])) D s fp := ⟨e1, st1, Kin.refl _⟩
    refine h4 σ _ _ ⟨D, s, fp, e1, rs, s1, k1, fun us H1 D1 fp1 f1 a1 v1 => ?_⟩
    obtain ⟨D2, a2, x2⟩ := v1.stos a1 k2
    have fr0 : Free D s fp [p] := e.fresh (same_new (o := .dK []) np) np
    have here : ∀ a ∈ [p], upd H p (.dK []) a ≠ none := fun a ha => by simp at ha; subst ha; rw [upd_same]; exact fun z => nomatch z
    have fr2 : Free D2 s2 fp1 [p] := fr0.step here a2.st
    have hp2 : H1 p = some (.dK []) := a2.st.kp p _ upd_same (fr0 p (by simp)).2
    obtain ⟨ks, g1, g2, g3⟩ := pairs_ok x2 k3
    refine ⟨hp2, ks, g1, by rw [g2]; exact hl, ?_⟩
    have aa := (a0.trans a2).updF (o := .dK (mergeK [] ks)) np fr2
    exact q _ _ _ _ [p] aa ⟨.n (mk_dct upd_same (g3 [] [] .nil)), fr2, fun a ha => by simp at ha; subst ha; exact .inr np⟩
  · cases k4
/-! ### comprehensions -/
def loopD (vs : List Nat) (g : WG) (t : WT) (k e : WE) : List Da → List (Da × Da) → S → Option (List (Da × Da) × S)
  | [], acc, s => some (acc, s)
  | d :: r, acc, s => (g (.d d) s).bind fun s1 => (t s1).bind fun p => if p.1 = true then (k p.2).bind fun q => match q.1 with
      | .d kd => (toKey kd).bind fun kk => (e q.2).bind fun z => (sto z.1 z.2).bind fun u => if acc.length < 100000 then loopD vs g t k e r (putD acc kk u.1) (wipeS u.2 vs) else none
      | _ => none
    else loopD vs g t k e r acc (wipeS p.2 vs)
def wDc (vs : List Nat) (wi : WI) (g : WG) (t : WT) (k e : WE) : WE := fun s => (wi s).bind fun p => if noOwn p.2 vs = true then (loopD vs g t k e p.1 [] (wipeS p.2 vs)).bind fun q => some (.n (.dct q.1), backS p.2 vs q.2) else none
structure InD (M : Md) (σ : L2.St) (H D : Hp) (s : S) (fp : Nat → List Addr) (H' D' : Hp) (s' : S) (fp' : Nat → List Addr) (vs : List Nat) (A : Addr) (acc : List (Key × V)) (ac : List (Da × Da)) : Prop where
  e : EnvR M (wipe σ vs) H' D' s' fp'
  st : Step H D s fp H' D' s' fp'
  len : s'.length = s.length
  kn : ∀ i, i ∉ vs → KinAt s s' i
  hA : H' A = some (.dK acc)
  fr : Free D' s' fp' [A]
  x : Dks M D' acc ac
theorem sim_dc {vs : List Nat} {wi : WI} {g : WG} {t : WT} {k e : WE} {T : List Nat} (hT : ∀ i ∈ T, i ∈ vs) : ∀ σ H Q, tW M (wDc vs wi g t k e) σ H Q → tDc (tWI M wi) (tWG M g T) (tWT M t) (tW M k) (tW M e) vs σ H Q := fun σ H Q ⟨D, s, fp, e0, r, s', hw, q⟩ => by
  simp only [wDc, Option.bind_eq_some_iff] at hw
  obtain ⟨⟨ds, s1⟩, h1, h2⟩ := hw
  simp only at h2
  split at h2
  · rename_i hn
    simp only [Option.bind_eq_some_iff, Option.some.injEq, Prod.mk.injEq] at h2
    obtain ⟨⟨res, s2⟩, h2, rfl, rfl⟩ := h2
    refine ⟨D, s, fp, e0, ds, s1, h1, fun J H1 D1 fp1 a1 F A nA => ?_⟩
    refine ⟨fun i m H' => m = ds.length - i ∧ i ≤ ds.length ∧ ∃ D2 s3 fp2 acc ac, InD M σ H1 D1 s1 fp1 H' D2 s3 fp2 vs A acc ac ∧ Same D1 D2 ∧ loopD vs g t k e (ds.drop i) ac s3 = some (res, s2), ⟨ds.length, by simp, Nat.zero_le _, ?_⟩, ?_⟩
    · obtain ⟨e1, st1⟩ := a1.e.hide (same_new (o := .dK []) nA)
      refine ⟨D1, wipeS s1 vs, fp1, [], [], ⟨e1.wipe vs, ⟨st1.dd, st1.kp, fun x h => st1.nw x (own_wipe h), st1.nd, st1.tr⟩, wipeS_len s1 vs, fun i hi => ?_, upd_same, fun x hx => ?_, .nil⟩, Same.refl _, by simpa using h2⟩
      · rw [KinAt, wipeS_out hi]
        exact KinAt.refl s1 i
      · obtain ⟨f1, f2⟩ := a1.e.fresh (same_new (o := .dK []) nA) nA x hx
        exact ⟨f1, fun z => f2 (own_wipe z)⟩
    · rintro i m H2 ⟨rfl, hi, D2, s3, fp2, acc, ac, C, k2, h3⟩
      by_cases hlt : i < ds.length
      · have hd : ds[i]? = some ds[i] := List.getElem?_eq_getElem hlt
        rw [List.drop_eq_getElem_cons hlt] at h3
        simp only [loopD, Option.bind_eq_some_iff] at h3
        obtain ⟨s4, h4, ⟨b, s5⟩, h5, h6⟩ := h3
        refine .inr ⟨F.go i H2 hlt (same_trans k2 C.e.sub), _, fun H' hw => ⟨ds.length - (i + 1), by omega, hw⟩, fun v H3 y => ?_⟩
        obtain ⟨sm, D3, e1, e2, e3, x3⟩ := F.yld i H2 v H3 _ D2 hd k2 C.e.sub y
        obtain ⟨e4, st4⟩ := C.e.grow sm e1 e2 e3
        refine ⟨D3, s3, fp2, .d ds[i], [], e4, .d x3, fun _ h => by simp at h, s4, h4, fun σ5 H5 D5 fp5 a5 => ?_⟩
        have w5 : L2.wipe σ5 vs = L2.wipe σ vs := by
          have hl : σ5.length = (L2.wipe σ vs).length := by rw [← a5.e.len, a5.len, e4.len]
          have := wipe_same (σ := L2.wipe σ vs) (σ2 := σ5) (vs := vs) hl fun j hj => a5.off j fun z => hj (hT j z)
          rw [this]
          exact wipe_same (wipe_length σ vs) fun j hj => wipe_out hj
        refine ⟨w5, D5, s4, fp5, a5.e, b, s5, h5, fun H6 D6 fp6 a6 => ?_⟩
        have st5 : Step H2 D2 s3 fp2 H6 D6 s5 fp6 := (st4.trans ((aftS_refl e4 (T := [])).store (f := []) (fun _ h => by simp at h) a5).st).trans a6.st
        have fA6 : Free D6 s5 fp6 [A] := C.fr.step (fun a ha => by simp at ha; subst ha; rw [C.hA]; exact fun z => nomatch z) st5
        have hA6 : H6 A = some (.dK acc) := st5.kp A _ C.hA (C.fr A (by simp)).2
        have kn6 : ∀ j, j ∉ vs → KinAt s1 s5 j := fun j hj => ((C.kn j hj).trans (a5.kn j fun z => hj (hT j z))).trans (a6.k.2 j)
        have len6 : s5.length = s1.length := by rw [a6.k.1, a5.len, C.len]
        have x6 : Dks M D6 acc ac := dks_mono st5.dd C.x
        have stt := C.st.trans st5
        simp only at h6
        cases b with
        | true =>
          rw [if_pos rfl] at h6
          show (if true = true then _ else _)
          rw [if_pos rfl]
          simp only [Option.bind_eq_some_iff] at h6
          obtain ⟨⟨r7, s7⟩, h7, h6⟩ := h6
          simp only at h6
          split at h6
          · rename_i kd
            simp only [Option.bind_eq_some_iff] at h6
            obtain ⟨kk, hkk, ⟨r8, s8⟩, h8, ⟨d9, s9⟩, h9, h10⟩ := h6
            split at h10
            · rename_i hac
              refine ⟨D6, s5, fp6, a6.e, _, s7, h7, fun y7 H7 D7 fp7 f7 a7 v7 => ⟨D7, s7, fp7, a7.e, r8, s8, h8, fun y8 H8 D8 fp8 f8 a8 v8 => ?_⟩⟩
              obtain ⟨D9, a9, x9⟩ := v8.sto a8 h9
              obtain ⟨hy, hko⟩ := key_ok (vr_dx v7.v) hkk
              have aa := a7.trans a9
              have fA9 : Free D9 s9 fp8 [A] := fA6.step (fun a ha => by simp at ha; subst ha; rw [hA6]; exact fun z => nomatch z) aa.st
              have hA9 : H8 A = some (.dK acc) := aa.st.kp A _ hA6 (fA6 A (by simp)).2
              have lacc : acc.length = ac.length := dks_len x6
              refine ⟨acc, kk, hy, hA9, by rw [lacc]; exact Nat.lt_of_lt_of_le hac (by decide), rfl, hlt, D9, wipeS s9 vs, fp8, putK acc kk y8, putD ac kk d9, ?_, same_trans k2 (same_trans st5.dd aa.st.dd), h10⟩
              have e8' := (aa.e.updF (o := .dK (putK acc kk y8)) fA9).wipe vs
              rw [w5] at e8'
              refine ⟨e8', ⟨same_trans stt.dd aa.st.dd, fun x o hx nx => ?_, fun x hx => (stt.trans aa.st).nw x (own_wipe hx), (stt.trans aa.st).nd, fun x hx => ?_⟩, by rw [wipeS_len, aa.k.1]; exact len6, fun j hj => ?_, upd_same, fun x hx => ?_, dks_put hko x9 (dks_mono aa.st.dd x6)⟩
              · rw [upd_ne (fun z => by rw [z, nA] at hx; cases hx)]
                exact (stt.trans aa.st).kp x o hx nx
              · by_cases z : x = A
                · subst z
                  rw [upd_same]
                  exact fun z => nomatch z
                · rw [upd_ne z]
                  exact (stt.trans aa.st).tr x hx
              · rw [KinAt, wipeS_out hj]
                exact (kn6 j hj).trans (aa.k.2 j)
              · exact ⟨(fA9 x hx).1, fun z => (fA9 x hx).2 (own_wipe z)⟩
            · cases h10
          · cases h6
        | false =>
          rw [if_neg Bool.false_ne_true] at h6
          show (if false = true then _ else _)
          rw [if_neg Bool.false_ne_true]
          have e6 := a6.e.wipe vs
          rw [w5] at e6
          exact ⟨rfl, hlt, D6, wipeS s5 vs, fp6, acc, ac, ⟨e6, ⟨stt.dd, stt.kp, fun x hx => stt.nw x (own_wipe hx), stt.nd, stt.tr⟩, by rw [wipeS_len]; exact len6, fun j hj => by
            rw [KinAt, wipeS_out hj]
            exact kn6 j hj, hA6, fun x hx => ⟨(fA6 x hx).1, fun z => (fA6 x hx).2 (own_wipe z)⟩, x6⟩, same_trans k2 st5.dd, h6⟩
      · have ei : i = ds.length := by omega
        subst ei
        rw [List.drop_length] at h3
        cases h3
        refine .inl ⟨F.stop H2 (same_trans k2 C.e.sub), ?_⟩
        have eb := a1.e.back hn C.e C.len k2
        refine q _ _ _ _ [A] (a1.trans ⟨eb, ⟨C.st.dd, C.st.kp, fun x h => C.st.nw x (own_back hn C.len h), C.st.nd, C.st.tr⟩, ⟨by rw [backS_len]; exact C.len, fun j => ?_⟩⟩) ⟨.n (mk_dct C.hA C.x), fun x hx => ⟨(C.fr x hx).1, fun z => (C.fr x hx).2 (own_back hn C.len z)⟩, fun x hx => ?_⟩
        · by_cases z : j ∈ vs
          · have := backS_in (s0 := s1) C.len z
            show KinAt s1 _ j
            rw [KinAt, this]
            exact KinAt.refl s1 j
          · have := backS_out (s0 := s1) (s := s2) z
            show KinAt s1 _ j
            rw [KinAt, this]
            exact C.kn j z
        · simp at hx
          subst hx
          exact .inr (Classical.byContradiction fun z => a1.st.tr x z nA)
  · cases h2
section
variable {i : Nat} {y : Str} {py : Pos} {kx vx tg iter : Expr} {ifs : List Expr} {scope : Scope} {own : List (Str × Nat)} {pos spos : Pos} {wi : WI} {g : WG} {t : WT} {k e : WE} {T : List Nat}
theorem j_dc (hc : X.calm = true) (hN : X.N.Nodup) (hi : JI M X tg iter wi) (ok : BlkOk X.N X.env.scope scope own)
    (hg : ∀ (s : Shared) (H : Hp) (C : Addr) (cl : List (Str × Addr)) (fp : List Addr), JG M (X.blk s H scope (compEnvC scope cl C X.env) fp) tg g T) (ht : ∀ (s : Shared) (H : Hp) (C : Addr) (cl : List (Str × Addr)) (fp : List Addr), JTs M (X.blk s H scope (compEnvC scope cl C X.env) fp) ifs t)
    (hk : ∀ (s : Shared) (H : Hp) (C : Addr) (cl : List (Str × Addr)) (fp : List Addr), J M (X.blk s H scope (compEnvC scope cl C X.env) fp) kx k) (he : ∀ (s : Shared) (H : Hp) (C : Addr) (cl : List (Str × Addr)) (fp : List Addr), J M (X.blk s H scope (compEnvC scope cl C X.env) fp) vx e) (hT : ∀ i ∈ T, i ∈ own.map (·.2) := by decide) (hs : ∀ x, foldedSetIterable iter X.env x = pure x := by intro _; rfl) :
    J M X (.DictComp kx vx [⟨tg, iter, ifs, 0⟩] scope pos) (wDc (own.map (·.2)) wi g t k e) := fun hM => pe_mono (pe_dc hc hN (hi hM) ok (fun s H C cl fp => hg s H C cl fp ⟨hM.P, hM.w, hM.K, hM.mg⟩) (fun s H C cl fp => ht s H C cl fp ⟨hM.P, hM.w, hM.K, hM.mg⟩) (fun s H C cl fp => hk s H C cl fp ⟨hM.P, hM.w, hM.K, hM.mg⟩) (fun s H C cl fp => he s H C cl fp ⟨hM.P, hM.w, hM.K, hM.mg⟩) hs) (sim_dc hT)
theorem js_setDc (hc : X.calm = true) (hN : X.N.Nodup) (hy : X.N[i]? = some y) (hyl : X.env.scope.names.lookup y = some .local)
    (hsw : swapsWith (.DictComp kx vx [⟨tg, iter, ifs, 0⟩] scope pos) (some (.Name y py)) spos.line X.env = pure true) (hi : JI M X tg iter wi) (ok : BlkOk X.N X.env.scope scope own)
    (hg : ∀ (s : Shared) (H : Hp) (C : Addr) (cl : List (Str × Addr)) (fp : List Addr), JG M (X.blk s H scope (compEnvC scope cl C X.env) fp) tg g T) (ht : ∀ (s : Shared) (H : Hp) (C : Addr) (cl : List (Str × Addr)) (fp : List Addr), JTs M (X.blk s H scope (compEnvC scope cl C X.env) fp) ifs t)
    (hk : ∀ (s : Shared) (H : Hp) (C : Addr) (cl : List (Str × Addr)) (fp : List Addr), J M (X.blk s H scope (compEnvC scope cl C X.env) fp) kx k) (he : ∀ (s : Shared) (H : Hp) (C : Addr) (cl : List (Str × Addr)) (fp : List Addr), J M (X.blk s H scope (compEnvC scope cl C X.env) fp) vx e) (hT : ∀ i ∈ T, i ∈ own.map (·.2) := by decide) (hs : ∀ x, foldedSetIterable iter X.env x = pure x := by intro _; rfl) :
    JS M X (.Assign [.Name y py] (.DictComp kx vx [⟨tg, iter, ifs, 0⟩] scope pos) spos) (wAsg (wDc (own.map (·.2)) wi g t k e) (bindV i)) [i] := fun hM => ps_mono (ps_setDc hc hN hy hyl hsw (hi hM) ok (fun s H C cl fp => hg s H C cl fp ⟨hM.P, hM.w, hM.K, hM.mg⟩) (fun s H C cl fp => ht s H C cl fp ⟨hM.P, hM.w, hM.K, hM.mg⟩) (fun s H C cl fp => hk s H C cl fp ⟨hM.P, hM.w, hM.K, hM.mg⟩) (fun s H C cl fp => he s H C cl fp ⟨hM.P, hM.w, hM.K, hM.mg⟩) hs) fun E σ H hw => by
  refine sim_dc hT σ H _ ?_
  obtain ⟨D, s, fp, e, r, s', hw, q⟩ := hw
  simp only [wAsg, Option.bind_eq_some_iff, Option.some.injEq, Prod.mk.injEq] at hw
  obtain ⟨⟨r1, s1⟩, h1, s2, h2, rfl, rfl⟩ := hw
  refine ⟨D, s, fp, e, r1, s1, h1, fun v H1 D1 fp1 f1 a1 v1 => ?_⟩
  obtain ⟨D', fp', a⟩ := a1.e.bindV v1.v v1.fr h2
  exact q _ _ _ _ ((a1.toS.store v1.nu a).mem fun i hi => by simpa using hi)
end
end
end Tw

/-! *, join, stores into dicts, update, calls of a def that a name holds, more built-ins -/
namespace Tw
open PySem PySem.Spec PyProof.Rows L2
section
variable {M : Md} {X : Cx} {σ σ' : L2.St} {H D H' D' : Hp} {s s' : S} {fp fp' : Nat → List Addr}
/-! ### * -/
def rRepL' : R2 := fun x y H Q => ∃ (l : Addr) (k : Nat) (xs : List V), x = .ref l ∧ y = .int (k : Int) ∧ H l = some (.lst xs) ∧ k ≤ 1000 ∧ xs.length ≤ 1000 ∧ ∀ p H', H p = none → Same H H' → H' p = some (.lst (List.replicate k xs).flatten) → Q (.ref p) H'
theorem op_repL' : OpR X (binaryOp .Mult) rRepL' := fun pins s σ H x y v u Q I rx ry h => by
  obtain ⟨l, k, xs, e1, e2, hl, hk, hz, q⟩ := h
  have hle : xs.length * (k : Int).toNat ≤ sizeLine := Nat.le_trans (Nat.mul_le_mul hz (show (k : Int).toNat ≤ 1000 by omega)) (by decide)
  exact op_rep pins s σ H x y v u Q I rx ry ⟨l, (k : Int), xs, e1, e2, hl, by omega, by omega, hle, fun p np => q p _ np (same_new np) (by rw [upd_same]; rfl)⟩
/-- t * 0 -/
theorem tuple_mul0 (l : Addr) (items : Array Value) (n : Nat) (dd : Option Addr) (sl : Array (Option Value)) (x : Int) (u : Tok) (k0 : (decide (x < -(2 ^ 63)) || decide (x ≥ 2 ^ 63)) = false) (k1 : (items.isEmpty || x == 1) = false) (k2 : (decide (x ≤ 0) || items.isEmpty) = true) :
    Meets (Builtin.«tuple.__mul__» ⟨[.ref l, .int x u], []⟩) (fun _ R s => s.heap.get? l = some { cls := .type "tuple", dict := dd, data := .seq items n, slots := sl } ∧
      R (.ok (.ret (Value.ref s.heap.objs.size))) { s with heap := s.heap.push { cls := Value.type "tuple", data := Data.seq #[] }, toks := s.toks }) :=
  .of_wp fun prog w A R s h => by
    obtain ⟨hp, g, d, tk, os⟩ := s
    obtain ⟨hl, h⟩ := h
    have f1 := AutoSeq1.idx_int
    wp_walk using wpAny_loadPart' hl
    repeat (first
      | (refine wpAny_ite_true (decide_eq_true k2) ?_; wp_walk using wpAny_loadPart' hl)
      | (refine wpAny_ite_false (decide_eq_false (fun e => absurd (k0.symm.trans e) Bool.false_ne_true)) ?_; wp_walk using wpAny_loadPart' hl)
      | (refine wpAny_ite_false (decide_eq_false (fun e => absurd (k1.symm.trans e) Bool.false_ne_true)) ?_; wp_walk using wpAny_loadPart' hl))
    exact ⟨_, rfl, h⟩
def rRep0 (K : PySem.W.Frag) : R2 := fun x y H Q => ∃ l xs, x = .ref l ∧ y = .int 0 ∧ SqT K H l xs ∧ xs ≠ [] ∧ ∀ p, H p = none → Q (.ref p) (upd H p (.tup []))
theorem op_rep0 : OpR X (binaryOp .Mult) (rRep0 X.K) := by
  intro pins s σ H x y v u Q I rx ry h
  obtain ⟨l, xs, rfl, rfl, hT, hne, q⟩ := h
  cases rx
  obtain ⟨t, rfl⟩ := ry
  obtain ⟨its, r, ⟨⟨cls, dd, data, sl⟩, ho, hc, n, hd⟩, hs⟩ := I.tuple hT
  simp only at hc hd
  subst hc hd
  have hi : its.toArray.isEmpty = false := by
    cases its with
    | nil => cases r; exact absurd rfl hne
    | cons a b => rfl
  refine wpAny_binaryOp_repeat_ref (T := "tuple") (U := "int") (by decide) ⟨_, ho, rfl⟩ (fun s' => typeIs_int s' 0 t) noFill_tuple_mul F.fills_int_mul F.slot_int_rmul repeat_tuple F.slot_int_index.lookup
    (call_meets F.slot_int_rmul (typeIs_int s 0 t) F.entry_int_rmul (F.args_int_rmul_2 _ _) (int_rmul_tuple 0 t l its.toArray n dd sl)
      ⟨ho, rfl, ⟨_, ho, rfl⟩, call_meets F.slot_tuple_mul ⟨_, ho, rfl⟩ F.entry_tuple_mul (F.args_tuple_mul_2 _ _) (tuple_mul0 l its.toArray n dd sl 0 t (by decide) (by rw [hi]; rfl) (by rfl)) ⟨ho, ?_⟩⟩)
  have fr : H s.heap.objs.size = none := I.hok.fresh (Nat.le_refl _)
  have nw : IsTup (s.heap.push { cls := Value.type "tuple", data := Data.seq #[] }) s.heap.objs.size ([] : List Value).toArray := IsTup.new _ _
  exact ⟨.ref s.heap.objs.size, _, I.laid (t' := s.toks) (o := .tup []) (fun b ob q => Heap.get?_push_of_some _ q) (Nat.le_refl _) ⟨Nat.zero_le _, _, .nil, nw⟩, rfl, q _ fr⟩
def fMul : F2 := fun x y s => match x, y with
  | .d (.int i), .d (.int j) => if cMul i j = true then some (.d (.int (i * j)), s) else none
  | .d (.str z), .d (.int j) => if j = 0 then some (.d (.str ""), s) else if j = 1 then some (.d (.str z), s) else none
  | x, .d (.int j) => match its s x with
    | some (false, ds) => if (decide (0 ≤ j) && decide (j ≤ 1000) && decide (ds.length ≤ 1000)) = true then some (.n (.lst (List.replicate j.toNat ds).flatten), s) else none
    | some (true, ds) => if (decide (0 ≤ j) && decide (j ≤ 1000) && decide (ds.length ≤ 1000) && decide (0 < ds.length)) = true then some (.d (.tup (List.replicate j.toNat ds).flatten), s) else none
    | none => none
  | _, _ => none
def rMulA (K : PySem.W.Frag) : R2 := fun x y H Q => rI CMul (fun i j => .int (i * j)) x y H Q ∨ rMulS x y H Q ∨ rRepL' x y H Q ∨ rRepT K x y H Q ∨ rRep1 K x y H Q ∨ rRep0 K x y H Q
theorem op_mulA : OpR X (binaryOp .Mult) (rMulA X.K) := OpR.or op_mul (OpR.or op_mulS (OpR.or op_repL' (OpR.or op_repT (OpR.or op_rep1 op_rep0))))
theorem sim_mul : SimR M (rMulA M.K) fMul := fun σ H D s fp x y rx ry fx fy r' s' Q e vx vy hx hy hw q => by
  unfold fMul at hw
  split at hw
  · rename_i i j
    split at hw
    · rename_i hc
      cases hw
      refine .inl ⟨i, j, vr_int vx, vr_int vy, ?_, q _ _ _ _ _ (aft_refl e) (.d (.int _))⟩
      simp only [cMul, Bool.or_eq_true, Bool.and_eq_true, decide_eq_true_eq] at hc
      exact hc
    · cases hw
  · rename_i z j
    obtain ⟨rfl, kz⟩ := vr_str vx
    split at hw
    · rename_i hj
      subst hj
      cases hw
      refine .inr (.inl ⟨z, 0, rfl, vr_int vy, by decide, q _ _ _ _ [] (aft_refl e) (.d ?_)⟩)
      rw [if_pos rfl]
      exact .str ⟨by decide +kernel, by decide +kernel⟩
    · split at hw
      · rename_i hj
        subst hj
        cases hw
        refine .inr (.inl ⟨z, 1, rfl, vr_int vy, by decide, q _ _ _ _ [] (aft_refl e) (.d ?_)⟩)
        rw [if_neg (by decide)]
        exact .str kz
      · cases hw
  · rename_i j _ _
    split at hw
    · rename_i ds hi
      split at hw
      · rename_i hc
        cases hw
        simp only [Bool.and_eq_true, decide_eq_true_eq] at hc
        obtain ⟨a, vs, rfl, d1, k | k⟩ := vr_its e vx hi
        · cases k.1
        · refine .inr (.inr (.inl ⟨a, j.toNat, vs, rfl, by rw [vr_int vy]; congr 1; omega, k.2, by omega, by rw [dxs_len d1]; exact hc.2, fun p H' np sm hp => ?_⟩))
          obtain ⟨a1, v1⟩ := e.newL np sm hp (dxs_flat d1 j.toNat)
          exact q _ _ _ _ _ a1 v1
      · cases hw
    · rename_i ds hi
      split at hw
      · rename_i hc
        cases hw
        simp only [Bool.and_eq_true, decide_eq_true_eq] at hc
        obtain ⟨a, vs, rfl, d1, k | k⟩ := vr_its e vx hi
        · have hne : vs ≠ [] := fun z => by
            rw [z] at d1
            cases d1
            simp at hc
          by_cases h1 : j = 1
          · subst h1
            refine .inr (.inr (.inr (.inr (.inl ⟨a, vs, rfl, vr_int vy, k.2.1, q _ _ _ _ [] (aft_refl e) (.d ?_)⟩))))
            show Dx M D (.ref a) (.tup (_ ++ []))
            rw [List.append_nil]
            exact k.2.2
          · by_cases h0 : j = 0
            · subst h0
              refine .inr (.inr (.inr (.inr (.inr ⟨a, vs, rfl, vr_int vy, k.2.1, hne, fun p np => ?_⟩))))
              obtain ⟨a1, v1⟩ := e.newT np (same_new np) upd_same (ds := []) .nil
              exact q _ _ _ _ _ a1 v1
            refine .inr (.inr (.inr (.inl ⟨a, j, vs, rfl, vr_int vy, k.2.1, hne, by omega, by omega, by rw [dxs_len d1]; exact hc.1.2, fun p np => ?_⟩)))
            obtain ⟨a1, v1⟩ := e.newT np (same_new np) upd_same (dxs_flat d1 j.toNat)
            exact q _ _ _ _ _ a1 v1
        · cases k.1
      · cases hw
    · cases hw
  · cases hw
theorem j_mul {a b : Expr} {pos : Pos} {wa wb : WE} (ja : J M X a wa) (jb : J M X b wb) : J M X (.BinOp a .Mult b pos) (wOp fMul wa wb) := j_op (fun hM => by rw [← hM.K]; exact op_mulA) sim_mul ja jb
/-! ### join -/
def fJoin : F2 := fun x y s => match x with
  | .d (.str z) => (its s y).bind fun p => (strsD p.2).bind fun l => if (l.map (·.length)).sum + l.length * z.length ≤ 100000 then some (.d (.str (Str.join z l)), s) else none
  | _ => none
theorem sok_join {z : Str} (hz : SOk z) : ∀ {l : List Str}, (∀ x ∈ l, SOk x) → (l.map (·.length)).sum + l.length * z.length ≤ sizeLine → SOk (Str.join z l)
  | [], _, _ => show SOk ("" : Str) from ⟨by decide +kernel, by decide +kernel⟩
  | [x], h, _ => h x (by simp)
  | x :: y :: r, h, hl => by
    have hx := h x (by simp)
    have hr : SOk (Str.join z (y :: r)) := sok_join hz (fun w hw => h w (List.mem_cons_of_mem _ hw)) (by
      simp only [List.map_cons, List.sum_cons, List.length_cons] at hl ⊢
      have : (r.length + 1) * z.length ≤ (r.length + 1 + 1) * z.length := Nat.mul_le_mul_right _ (by omega)
      omega)
    have hb := StrLaws.join_length_le z (y :: r)
    have h1 : (Str.join z (y :: r)).length ≤ (((y :: r).map (·.length)).sum + (y :: r).length * z.length) := hb
    show SOk (x ++ z ++ Str.join z (y :: r))
    simp only [List.map_cons, List.sum_cons, List.length_cons] at hl h1
    have e1 : (r.length + 1 + 1) * z.length = (r.length + 1) * z.length + z.length := by rw [Nat.succ_mul]
    have l1 : (x ++ z).length = x.length + z.length := by
      show (x.cps ++ z.cps).size = _
      rw [Array.size_append]
      rfl
    refine sok_app (sok_app hx hz (by omega)) hr (by rw [l1]; omega)
theorem j_join {o e : Expr} {apos pos : Pos} {wo we : WE} (jo : J M X o wo) (je : J M X e we) (hs : starEach [e] X.env = [(false, eval e X.env)] := by rfl) (hbase : attributeBase o "join" X.env (eval o X.env) = eval o X.env := by rfl) (hline : (apos.endLine == pos.line) = true := by rfl) :
    J M X (.Call (.Attribute o "join" apos) [e] [] pos) (wOp fJoin wo we) := fun hM => pe_mono (pe_join (jo hM) (je hM) hs hbase hline) fun σ H Q ⟨D, s, fp, e, r, s', hw, q⟩ => by
  simp only [wOp, Option.bind_eq_some_iff] at hw
  obtain ⟨⟨r1, s1⟩, h1, ⟨r2, s2⟩, h2, h3⟩ := hw
  refine ⟨D, s, fp, e, r1, s1, h1, fun v H1 D1 fp1 f1 a1 v1 => ?_⟩
  simp only [fJoin] at h3
  split at h3
  · rename_i z
    simp only [Option.bind_eq_some_iff] at h3
    obtain ⟨⟨b, ds⟩, h3, l, h4, h5⟩ := h3
    split at h5
    · rename_i hl
      cases h5
      obtain ⟨rfl, kz⟩ := vr_str v1.v
      refine ⟨⟨z, rfl⟩, D1, s1, fp1, a1.e, r2, s', h2, fun u H2 D2 fp2 f2 a2 v2 => ?_⟩
      obtain ⟨a, vs, rfl, d1, k⟩ := vr_its a2.e v2.v h3
      obtain ⟨rfl, kl⟩ := dxs_strs d1 h4
      have hl' := Nat.le_trans hl (show 100000 ≤ 16777216 by decide)
      refine ⟨z, a, l, rfl, rfl, k.elim (fun k => .inr (by rw [hM.K]; exact k.2.1)) fun k => .inl (SqL.of k.2), hl', ?_⟩
      rw [TL.join_eq]
      exact q _ _ _ _ [] (a1.trans a2) (.d (.str (sok_join kz kl (Nat.le_trans hl (by decide)))))
    · cases h5
  · cases h3
/-! ### d[k] = v, d an own dict -/
def ownD (s : S) (i : Nat) : Option (List (Da × Da)) := match s[i]? with
  | some (SV.own (.dct kvs)) => some kvs
  | _ => none
theorem ownD_is {i : Nat} {kvs : List (Da × Da)} (h : ownD s i = some kvs) : s[i]? = some (SV.own (.dct kvs)) := by
  unfold ownD at h
  split at h
  · cases h
    assumption
  · cases h
theorem EnvR.mutD (e : EnvR M σ H D s fp) {i : Nat} {kvs : List (Da × Da)} (hi : s[i]? = some (SV.own (.dct kvs))) : ∃ a ks, σ[i]? = some (some (.ref a)) ∧ H a = some (.dK ks) ∧ Dks M D ks kvs ∧ Own s fp a ∧ ∀ ks' kvs', Dks M D ks' kvs' → Aft M σ H D s fp (upd H a (.dK ks')) D (s.set i (.own (.dct kvs'))) fp := by
  obtain ⟨v, hv, ho, hd⟩ := e.ow i _ hi
  obtain ⟨a, ks, rfl, hfi, h, x⟩ := ow_dct ho
  have ha : a ∈ fp i := by rw [hfi]; simp
  refine ⟨a, ks, hv, h, x, ⟨i, _, hi, ha⟩, fun ks' kvs' x' => ?_⟩
  have hda : D a = none := hd a ha
  have own' : ∀ {b}, Own (s.set i (.own (.dct kvs'))) fp b → Own s fp b := fun {b} ⟨j, c, hj, hb⟩ => by
    rcases set_get hj with ⟨rfl, _⟩ | ⟨_, q⟩
    · exact ⟨i, _, hi, hb⟩
    · exact ⟨j, c, q, hb⟩
  refine ⟨⟨same_mut e.sub hda, by rw [List.length_set]; exact e.len, fun j c hj => ?_, fun j c hj => ?_, fun j k c c' hj hk hjk => ?_⟩, ⟨Same.refl _, fun b o h n => ?_, fun b h => .inl (own' h), fun b h => .inl h, fun b h => ?_⟩, ⟨by rw [List.length_set], fun j => ?_⟩⟩
  · rcases set_get hj with ⟨_, q⟩ | ⟨_, q⟩
    · cases q
    · exact e.dt j c q
  · rcases set_get hj with ⟨rfl, q⟩ | ⟨ne, q⟩
    · cases q
      refine ⟨_, hv, ?_, hd⟩
      rw [hfi]
      exact mk_dct upd_same x'
    · obtain ⟨u, p1, p2, p3⟩ := e.ow j c q
      exact ⟨u, p1, p2.mono (fun b hb o h => by rw [upd_ne (fun z => e.dj i j _ c hi q ne a ha (by rw [← z]; exact hb))]; exact h) (Same.refl _), p3⟩
  · have hj' : ∃ d, s[j]? = some (SV.own d) := by
      rcases set_get hj with ⟨rfl, _⟩ | ⟨_, q⟩
      · exact ⟨_, hi⟩
      · exact ⟨_, q⟩
    have hk' : ∃ d, s[k]? = some (SV.own d) := by
      rcases set_get hk with ⟨rfl, _⟩ | ⟨_, q⟩
      · exact ⟨_, hi⟩
      · exact ⟨_, q⟩
    obtain ⟨d1, h1⟩ := hj'
    obtain ⟨d2, h2⟩ := hk'
    exact e.dj j k d1 d2 h1 h2 hjk
  · rw [upd_ne (fun z => n (by rw [z]; exact ⟨i, _, hi, ha⟩))]
    exact h
  · by_cases z : b = a
    · subst z
      rw [upd_same]
      exact fun z => nomatch z
    · rw [upd_ne z]
      exact h
  · by_cases z : j = i
    · subst z
      have lt := (List.getElem?_eq_some_iff.mp hi).1
      refine ⟨fun d _ => .inl ⟨_, by rw [List.getElem?_set, if_pos rfl, if_pos lt]⟩, fun d h => ?_, fun h => ?_⟩
      · rw [hi] at h
        cases h
      · rw [hi] at h
        cases h
    · exact KinAt.set z
def wgSubD (i : Nat) (wi : WE) : WG := fun r s => (ownD s i).bind fun _ => (wi s).bind fun p => match p.1 with
  | .d kd => (toKey kd).bind fun k => (sto r p.2).bind fun q => (ownD q.2 i).bind fun kvs => if kvs.length < 100000 then some (q.2.set i (.own (.dct (putD kvs k q.1)))) else none
  | _ => none
def wgSub (i : Nat) (wi : WE) : WG := fun r s => match ownL s i with
  | some _ => wgSubL i wi r s
  | none => wgSubD i wi r s
theorem jg_subD {x : Str} {i : Nat} {px pos : Pos} {ix : Expr} {wi : WE} (hu : X.A.units + 64 < cLine) (hN : X.N[i]? = some x) (hv : Vis X.env.scope x) (ji : J M X ix wi) (hd : (x == ("__debug__" : Str)) = false) (hcd : (x == ("__classdict__" : Str)) = false)
    (ha : ∀ v, assign (.Subscript (.Name x px) ix pos) X.env v = (do
      let ov ← holding [v] (eval (.Name x px) X.env)
      let iv ← holding [v, ov] (eval ix X.env)
      standAt pos
      holding [v, ov, iv] (setItem ov iv v)
      release [v, ov, iv] [])) : JG M X (.Subscript (.Name x px) ix pos) (wgSubD i wi) [] := fun hM => pg_mono (pg_sub (pe_var hN hv hd hcd) (ji hM) (set_dict (by omega)) ha) fun v σ H Q ⟨D, s, fp, r, f, e, hv, hf, s', hw, q⟩ => by
  simp only [wgSubD, Option.bind_eq_some_iff] at hw
  obtain ⟨kvs0, h0, ⟨ri, s1⟩, h1, h2⟩ := hw
  obtain ⟨a, ks, hσ, _⟩ := e.mutD (ownD_is h0)
  refine ⟨.ref a, hσ, D, s, fp, e, ri, s1, h1, fun iv H1 D1 fp1 f1 a1 v1 => ?_⟩
  simp only at h2
  split at h2
  · rename_i kd
    simp only [Option.bind_eq_some_iff] at h2
    obtain ⟨k, hk, ⟨d, s2⟩, h2, kvs, h3, h4⟩ := h2
    split at h4
    · rename_i hl
      cases h4
      have hv1 := hv.mono a1.st a1.k hf
      have hf1 := hf.step hv.here a1.st
      obtain ⟨D2, p2, x2⟩ := sto_ok hv1 a1.e (fun x hx => (hf1 x hx).2) h2
      obtain ⟨p, us, hp, hH, hx, _, mt⟩ := p2.e.mutD (ownD_is h3)
      rw [hσ] at hp
      cases hp
      obtain ⟨rfl, kk⟩ := key_ok (vr_dx v1.v) hk
      refine ⟨a, _, rfl, .inl ⟨us, k, hH, rfl, by rw [dks_len hx]; exact Nat.lt_of_lt_of_le hl (by decide), rfl⟩, q _ _ _ _ ((a1.toG.trans (p2.toG.trans (mt _ _ (dks_put kk x2 hx)).toG)).mem (fun _ h => by simp at h) fun x hx => by simpa using hx)⟩
    · cases h4
  · cases h2
theorem jg_sub {x : Str} {i : Nat} {px pos : Pos} {ix : Expr} {wi : WE} (hu : X.A.units + 64 < cLine) (hN : X.N[i]? = some x) (hv : Vis X.env.scope x) (ji : J M X ix wi) (hd : (x == ("__debug__" : Str)) = false := by decide) (hcd : (x == ("__classdict__" : Str)) = false := by decide)
    (ha : ∀ v, assign (.Subscript (.Name x px) ix pos) X.env v = (do
      let ov ← holding [v] (eval (.Name x px) X.env)
      let iv ← holding [v, ov] (eval ix X.env)
      standAt pos
      holding [v, ov, iv] (setItem ov iv v)
      release [v, ov, iv] []) := by intro _; rfl) : JG M X (.Subscript (.Name x px) ix pos) (wgSub i wi) [] := fun hM => ⟨fun pins s0 σ H v u Q I r h => by
  obtain ⟨D, s, fp, rr, f, e, hv', hf, s', hw, q⟩ := h
  unfold wgSub at hw
  split at hw
  · exact ((jg_subL hN hv ji hd hcd ha) hM).run pins s0 σ H v u Q I r ⟨D, s, fp, rr, f, e, hv', hf, s', hw, q⟩
  · exact ((jg_subD hu hN hv ji hd hcd ha) hM).run pins s0 σ H v u Q I r ⟨D, s, fp, rr, f, e, hv', hf, s', hw, q⟩⟩
/-! ### d.update(e) -/
def rUpd : V → List V → Hp → VK → Prop := fun x vs H Q => ∃ a b ks ls, x = .ref a ∧ vs = [.ref b] ∧ a ≠ b ∧ H a = some (.dK ks) ∧ H b = some (.dK ls) ∧ ks.length + ls.length ≤ sizeLine ∧ Q .non (upd H a (.dK (mergeK ks ls)))
theorem mergeK_len : ∀ (ls ks : List (Key × V)), (mergeK ks ls).length ≤ ks.length + ls.length
  | [], _ => Nat.le_refl _
  | (k, v) :: r, ks => by
    have h1 := mergeK_len r (putK ks k v)
    have h2 := length_putK ks k v
    show (mergeK (putK ks k v) r).length ≤ _
    simp only [List.length_cons]
    omega
theorem mt_update : MtR X "dict.update" rUpd := by
  intro pins s σ H x vs v us Q I rx rv h
  obtain ⟨a, b, ks, ls, rfl, rfl, hab, ha, hb, hl, q⟩ := h
  obtain rfl : v = Value.ref a := rx
  cases rv with
  | cons r1 r2 =>
    cases r2
    rename_i u
    obtain rfl : u = Value.ref b := r1
    obtain ⟨z, hd, us, rel, dd⟩ := dk_of I.hok ha
    obtain ⟨z2, hd2, us2, rel2, dd2⟩ := dk_of I.hok hb
    refine call_meetsIn PySem.F.slot_dict_update dd.typeIs PySem.F.entry_dict_update (PySem.F.args_dict_update_2 _ _) (meets_dict_update (mixKind X.prog X.w) a b hab hd2) ⟨us, us2, dd, dd2, by rw [← rel.length, ← rel2.length]; exact hl, fun h' n1 n2 sb => ?_⟩
    have he : ∃ o, h'.get? a = some o := let ⟨o, _, _, ho, _⟩ := n1; ⟨o, ho⟩
    exact ⟨.non, _, d_write (t' := s.toks) I (by rw [ha]; exact True.intro) sb he (dk_new (Nat.le_trans (mergeK_len ls ks) hl) hd (KV.merge rel2 rel) n1), rfl, q⟩
def mergeP (kvs : List (Da × Da)) : List (Da × Da) → Option (List (Da × Da))
  | [] => some kvs
  | (k, d) :: r => (toKey k).bind fun k => mergeP (putD kvs k d) r
theorem dks_merge {ls : List (Key × V)} {more : List (Da × Da)} (hm : Dks M D ls more) : ∀ {ks : List (Key × V)} {kvs res : List (Da × Da)}, Dks M D ks kvs → mergeP kvs more = some res → Dks M D (mergeK ks ls) res := by
  induction hm with
  | nil =>
    intro ks kvs res h q
    cases q
    exact h
  | cons a x r ih =>
    intro ks kvs res h q
    simp only [mergeP, toKey_keyDa, Option.bind_some] at q
    exact ih (dks_put a x h) q
def wUpdate (i : Nat) (w : WA) : WE := fun s => (ownD s i).bind fun _ => (w s).bind fun p => (stos p.1 p.2).bind fun q => match q.1 with
  | [.dct more] => (ownD q.2 i).bind fun kvs => if kvs.length + more.length ≤ 100000 then (mergeP kvs more).bind fun r => some (.d .non, q.2.set i (.own (.dct r))) else none
  | _ => none
theorem j_update {x : Str} {i : Nat} {px apos cpos : Pos} {e : Expr} {es : List Expr} {w : WA} (hN : X.N[i]? = some x) (hv : Vis X.env.scope x) (ja : JA M X (e :: es) w)
    (hd : (x == ("__debug__" : Str)) = false := by decide) (hcd : (x == ("__classdict__" : Str)) = false := by decide)
    (hbase : attributeBase (.Name x px) "update" X.env (eval (.Name x px) X.env) = eval (.Name x px) X.env := by rfl)
    (hfew : ((backTo cpos (starEach (e :: es) X.env)).all (fun x => !x.1) && (backToKw cpos (keywordEach [] X.env)).all (fun x => x.1.isSome) && decide ((e :: es).length + ([] : List Keyword).length + (if ([] : List Keyword).isEmpty then 0 else 1) < 30)) = true := by rfl)
    (hline : (apos.endLine == cpos.line) = true := by rfl) (hs : starEach (e :: es) X.env = (false, eval e X.env) :: starEach es X.env := by rfl) (hplain : (backTo cpos (starEach es X.env)).any (·.1) = false := by rfl) :
    J M X (.Call (.Attribute (.Name x px) "update" apos) (e :: es) [] cpos) (wUpdate i w) := fun hM => pe_mono (pe_bm PySem.F.plainAttrs_dict PySem.F.slot_dict_update PySem.F.type_dict_update mt_update (pe_var hN hv hd hcd) (ja hM) hbase hfew hline hs hplain) fun σ H Q ⟨D, s, fp, e, r, s', hw, q⟩ => by
  simp only [wUpdate, Option.bind_eq_some_iff] at hw
  obtain ⟨kvs0, h0, ⟨rs, s1⟩, h1, ⟨ds, s2⟩, h2, h3⟩ := hw
  obtain ⟨a, ks, hσ, hH, _⟩ := e.mutD (ownD_is h0)
  refine ⟨.ref a, hσ, .inr (.inr (.inl ⟨rfl, .inl ⟨ks, hH⟩⟩)), D, s, fp, e, rs, s1, h1, fun us H1 D1 fp1 f1 a1 v1 => ?_⟩
  simp only at h3
  split at h3
  · simp only [Option.bind_eq_some_iff] at h3
    obtain ⟨kvs, h3, h4⟩ := h3
    split at h4
    · rename_i more hl
      simp only [Option.bind_eq_some_iff, Option.some.injEq, Prod.mk.injEq] at h4
      obtain ⟨res, h4, rfl, rfl⟩ := h4
      obtain ⟨D2, a2, x2⟩ := v1.stos a1 h2
      cases x2 with
      | cons x2 x3 =>
        cases x3
        obtain ⟨b, ls, rfl, hb, xb⟩ := dx_dct x2
        obtain ⟨p, us, hp, hH2, hx, ow, mt⟩ := a2.e.mutD (ownD_is h3)
        rw [hσ] at hp
        cases hp
        refine ⟨a, b, us, ls, rfl, rfl, fun z => ?_, hH2, a2.e.sub _ _ hb, by rw [dks_len hx, dks_len xb]; exact Nat.le_trans hl (by decide), q _ _ _ _ [] (a2.trans (mt _ _ (dks_merge xb hx h4))) (.d .non)⟩
        subst z
        rw [a2.e.ownD ow] at hb
        cases hb
    · cases h4
  · cases h3
/-! ### a def that a name holds -/
def wCallH (m i : Nat) (ms : List Bool) (tab : List (Str × WF)) (w : WA) : WE := fun s => match s[i]? with
  | some (SV.dat (.fn x)) => (tab.lookup x).bind fun F => wCall m ms F w s
  | _ => none
structure Hld (M : Md) (base : Heap) (k m : Nat) (tab : List (Str × WF)) : Prop where
  all : ∀ x F, tab.lookup x = some F → ∃ ps, Cal M.P M.w M.K M.mg base x k ps (spV M m F)
theorem j_callH {x : Str} {i j k m : Nat} {p pos : Pos} {e : Expr} {es : List Expr} {w : WA} {tab : List (Str × WF)} (ms : List Bool) (A : Hld M X.base k m tab) (hr : Room j X.A) (ja : JA M X (e :: es) w) (hk : k ≤ j := by decide) (hN : X.N[i]? = some x := by rfl) (hv : Vis X.env.scope x := by first | exact .inl rfl | exact .inr (.inl rfl) | exact .inr (.inr rfl))
    (hdb : (x == ("__debug__" : Str)) = false := by decide) (hcd : (x == ("__classdict__" : Str)) = false := by decide)
    (he : starEach (e :: es) X.env = (false, eval e X.env) :: starEach es X.env := by rfl) (hpl : (backTo pos (starEach es X.env)).any (·.1) = false := by rfl) : J M X (.Call (.Name x p) (e :: es) [] pos) (wCallH m i ms tab w) := fun hM => ⟨fun pins s0 σ H Q I h => by
  obtain ⟨D, s, fp, e0, r, s', hw, q⟩ := h
  unfold wCallH at hw
  split at hw
  · rename_i y hi
    simp only [Option.bind_eq_some_iff] at hw
    obtain ⟨F, hF, hw⟩ := hw
    obtain ⟨ps, C⟩ := A.all y F hF
    obtain ⟨f, fd, Fo, hm, hkp, hb⟩ := C.ex
    obtain ⟨v, hσ, hx⟩ := e0.dt i _ hi
    cases hx with
    | fn hmg =>
      rw [hm] at hmg
      cases hmg
      refine (pe_callL (i := i) (f := f) (sp := spV M m F) (dvs := []) (E := E0) (by rw [hM.P, hM.w, hM.K, hM.mg]; exact Fo) (hr.mono hk) hN hv (by rw [hM.K]; exact hkp) (by rw [hM.K]; exact hb) .nil pass0 (ja hM) hdb hcd he hpl).run pins s0 σ H Q I ⟨hσ, ?_⟩
      exact sim_call (E := E0) σ H Q ⟨D, s, fp, e0, r, s', hw, q⟩
  · cases hw⟩
/-! ### sorted(x) of a list of texts, of a dict whose keys are texts; list(x) -/
def fSortedD (x : RV) : WE := fun s => (dctD s x).bind fun kvs => (strsD (kvs.map (·.1))).bind fun l => if l.length < 64 then some (.n (.lst ((srtS l).map Da.str)), s) else none
theorem dks_strs : ∀ {ks : List (Key × V)} {kvs : List (Da × Da)} {l : List Str}, Dks M D ks kvs → strsD (kvs.map (·.1)) = some l → ks.map (·.1) = l.map Sum.inr ∧ ∀ x ∈ l, SOk x
  | _, _, _, .nil, h => by
    cases h
    exact ⟨rfl, fun _ h => by simp at h⟩
  | _, _, _, @Dks.cons _ _ k v d ks kvs a x r, h => by
    cases k with
    | inl i => cases h
    | inr z =>
      simp only [List.map_cons, keyDa, strsD, Option.bind_eq_some_iff, Option.some.injEq] at h
      obtain ⟨l, h1, rfl⟩ := h
      obtain ⟨h2, h3⟩ := dks_strs r h1
      refine ⟨by rw [List.map_cons, h2]; rfl, fun y hy => ?_⟩
      rcases List.mem_cons.mp hy with rfl | hy
      · exact a
      · exact h3 y hy
theorem sim_sortedD : SimC1 M (fun xs H Q => ∃ (a : Addr) (kvs : List (Key × V)) (ks : List Str), xs = [.ref a] ∧ Rd H a (.dK kvs) ∧ kvs.map (·.1) = ks.map Sum.inr ∧ ks.length < 64 ∧ ∀ ys p, ys.Perm ks → sortedS ys = true → H p = none → Q (.ref p) (upd H p (.lst (ys.map V.str)))) fSortedD := fun σ H D s fp v rv f r' s' Q e hv hf hw q => by
  simp only [fSortedD, Option.bind_eq_some_iff] at hw
  obtain ⟨kvs, h1, l, h2, h3⟩ := hw
  split at h3
  · rename_i h64
    cases h3
    obtain ⟨a, ks, rfl, hH, hks⟩ := vr_dct e hv h1
    obtain ⟨g1, g2⟩ := dks_strs hks h2
    refine ⟨a, ks, l, rfl, .inl hH, g1, h64, fun ys p pm so np => ?_⟩
    have es := srtS_is so pm
    subst es
    obtain ⟨a4, v4⟩ := e.newL np (same_new np) upd_same (strs_dxs fun x hx => g2 x (pm.mem_iff.mp hx))
    exact q _ _ _ _ _ a4 v4
  · cases h3
def fSortedA (x : RV) : WE := fun s => match fSorted x s with
  | some p => some p
  | none => fSortedD x s
theorem j_sortedA {p pos : Pos} {e : Expr} {es : List Expr} {w : WA} (hc : X.calm = true) (hm : M.mg "sorted" = none) (ja : JA M X (e :: es) w) (hg : Gl X "sorted" := by rfl) (he : HE X e es := by rfl) (hpl : HP X pos es := by rfl) : J M X (.Call (.Name "sorted" p) (e :: es) [] pos) (wCB (f1 fSortedA) w) :=
  j_callB (fun hM => by rw [← hM.K]; exact cr_sortedS.or (call_sortedD hc)) (SimC1.or sim_sorted sim_sortedD).c hg hm PyProof.Rows.boot_sorted ja (he := he) (hpl := hpl)
abbrev fListA := fList
/-! ### x[::-1] -/
def wRev (w : WE) : WE := fun s => (w s).bind fun p => match its p.2 p.1 with
  | some (false, ds) => some (.n (.lst ds.reverse), p.2)
  | _ => none
theorem j_rev {e : Expr} {w : WE} {k : Nat} {p1 p2 p3 pos : Pos} (h : J M X e w) : J M X (.Subscript e (.Slice none none (some (.UnaryOp .USub (.Constant (.int 1) k p1) p2)) p3) pos) (wRev w) := fun hM => pe_mono (pe_revL (h hM)) fun σ H Q ⟨D, s, fp, e, r, s', hw, q⟩ => by
  simp only [wRev, Option.bind_eq_some_iff] at hw
  obtain ⟨⟨r1, s1⟩, h1, h2⟩ := hw
  refine ⟨D, s, fp, e, r1, s1, h1, fun v H1 D1 fp1 f1 a1 v1 => ?_⟩
  simp only at h2
  split at h2
  · rename_i hi
    cases h2
    obtain ⟨a, vs, rfl, d1, k | k⟩ := vr_its a1.e v1.v hi
    · cases k.1
    · refine ⟨a, vs, rfl, SqL.of k.2, fun p np => ?_⟩
      obtain ⟨a4, v4⟩ := a1.e.newL np (same_new np) upd_same (dxs_rev d1)
      exact q _ _ _ _ _ (a1.trans a4) (v4.back a1.st)
  · cases h2
end
end Tw

/-! calls by keywords, defs that call themselves, sorted pairs -/
namespace Tw
open PySem PySem.Spec PyProof.Rows L2
section
variable {M : Md} {X : Cx} {σ σ' : L2.St} {H D H' D' : Hp} {s s' : S} {fp fp' : Nat → List Addr}
/-! ### by keywords alone -/
def JK (M : Md) (X : Cx) (kws : List Keyword) (w : WA) : Prop := M.at X → PK X kws (tWA M w)
theorem pk_mono {kws : List Keyword} {t u : TA} (h : PK X kws t) (k : ∀ σ H Q, u σ H Q → t σ H Q) : PK X kws u := ⟨fun pos pins s σ H Q I q => h.run pos pins s σ H Q I (k σ H Q q)⟩
theorem jk_nil : JK M X [] wNil := fun _ => pk_mono pk_nil fun σ H Q ⟨D, s, fp, e, r, s', hw, q⟩ => by
  cases hw
  exact q _ _ _ _ [] (aft_refl e) ⟨.nil, fun _ h => by simp at h, fun _ h => by simp at h⟩
theorem jk_cons {nm : Option Str} {kpos : Pos} {e : Expr} {kws : List Keyword} {w : WE} {u : WA} (h : J M X e w) (k : JK M X kws u) : JK M X (⟨nm, e, kpos⟩ :: kws) (wCons w u) := fun hM => pk_mono (pk_cons (h hM) (k hM)) fun σ H Q ⟨D, s, fp, e, r, s', hw, q⟩ => by
  simp only [wCons, Option.bind_eq_some_iff, Option.some.injEq, Prod.mk.injEq] at hw
  obtain ⟨⟨r1, s1⟩, h1, ⟨rs, s2⟩, h2, rfl, rfl⟩ := hw
  refine ⟨D, s, fp, e, r1, s1, h1, fun v H1 D1 fp1 f1 a1 v1 => ⟨D1, s1, fp1, a1.e, rs, s2, h2, fun vs H2 D2 fp2 f2 a2 v2 => ?_⟩⟩
  have v1' := v1.step a2
  have v2' := v2.back a1.st
  exact q _ _ _ _ (f1 ++ f2) (a1.trans a2) ⟨.cons v1'.v v2'.v fun a h1 h2 => (v2.nu a h2).elim (v1.fr a h1).2 (v1.v.here a h1), v1'.fr.app v2'.fr, v1'.nu.app v2'.nu⟩
/-- the other way round, if b -/
def turnL {α : Type} (b : Bool) (l : List α) : List α := if b then l.reverse else l
def wTurn (b : Bool) (w : WA) : WA := fun s => (w s).bind fun p => some (turnL b p.1, p.2)
theorem VRs.snoc {v : V} {r : RV} {g : List Addr} (h : VR M σ H D s v r g) : ∀ {vs : List V} {rs : List RV} {f : List Addr}, VRs M σ H D s vs rs f → (∀ a ∈ g, a ∉ f) → ∃ f', VRs M σ H D s (vs ++ [v]) (rs ++ [r]) f' ∧ ∀ a, a ∈ f' ↔ a ∈ f ∨ a ∈ g
  | _, _, _, .nil, _ => ⟨_, .cons h .nil fun _ _ q => by simp at q, fun a => by simp⟩
  | _, _, _, @VRs.cons _ _ _ _ _ v0 vs r0 rs f1 f2 h0 k z, n => by
    obtain ⟨f', h1, h2⟩ := VRs.snoc h k fun a ha q => n a ha (List.mem_append_right _ q)
    refine ⟨_, .cons h0 h1 fun a ha q => ?_, fun a => ?_⟩
    · rcases (h2 a).mp q with q | q
      · exact z a ha q
      · exact n a q (List.mem_append_left _ ha)
    · rw [List.mem_append, h2, List.mem_append, or_assoc]
theorem VRs.rev : ∀ {vs : List V} {rs : List RV} {f : List Addr}, VRs M σ H D s vs rs f → ∃ f', VRs M σ H D s vs.reverse rs.reverse f' ∧ ∀ a, a ∈ f' ↔ a ∈ f
  | _, _, _, .nil => ⟨_, .nil, fun _ => Iff.rfl⟩
  | _, _, _, @VRs.cons _ _ _ _ _ v0 vs r0 rs f1 f2 h0 k z => by
    obtain ⟨f', h1, h2⟩ := VRs.rev k
    obtain ⟨f'', h3, h4⟩ := VRs.snoc h0 h1 fun a ha q => z a ha ((h2 a).mp q)
    refine ⟨f'', by rw [List.reverse_cons, List.reverse_cons]; exact h3, fun a => ?_⟩
    rw [h4, h2, List.mem_append]
    exact Or.comm
structure CalK (P : Program) (w : World) (K : PySem.W.Frag) (mg : Str → Option Value) (base : Heap) (x : Str) (k : Nat) (ps ks : List Str) (b : Bool) (sp : Sp) : Prop where
  ex : ∃ (f : Addr) (fd : FuncData) (g : List Value → List Value → List Value), FnOk P w K mg base CX0 k f fd ps sp ∧ mg x = some (.ref f) ∧ PySem.W.keepIn K (.ref f) = true ∧ KBn K fd ps 0 ks g (fun _ zs => turnL b zs)
theorem tWA_imp {w : WA} {Q Q' : List V → Hp → Prop} (h : tWA M w σ H Q) (k : ∀ vs H, Q vs H → Q' vs H) : tWA M w σ H Q' := by
  obtain ⟨D, s, fp, e, r, s', hw, q⟩ := h
  exact ⟨D, s, fp, e, r, s', hw, fun v H1 D1 fp1 f1 a1 v1 => k _ _ (q v H1 D1 fp1 f1 a1 v1)⟩
theorem tWA_turn {b : Bool} {w : WA} {Q : List V → Hp → Prop} (h : tWA M (wTurn b w) σ H Q) : tWA M w σ H fun vs H => Q (turnL b vs) H := by
  obtain ⟨D, s, fp, e, r, s', hw, q⟩ := h
  simp only [wTurn, Option.bind_eq_some_iff, Option.some.injEq, Prod.mk.injEq] at hw
  obtain ⟨⟨rs, s1⟩, h1, rfl, rfl⟩ := hw
  refine ⟨D, s, fp, e, rs, s1, h1, fun v H1 D1 fp1 f1 a1 v1 => ?_⟩
  cases b with
  | false => exact q _ _ _ _ _ a1 v1
  | true =>
    obtain ⟨f', k1, k2⟩ := VRs.rev v1.v
    exact q _ _ _ _ f' a1 ⟨k1, fun a ha => v1.fr a ((k2 a).mp ha), fun a ha => v1.nu a ((k2 a).mp ha)⟩
/-- f(a = .., b = ..) -/
theorem j_callK {x : Str} {j k m : Nat} {ps ks : List Str} {F : WF} {kws : List Keyword} {w : WA} {p pos : Pos} {b : Bool} (ms : List Bool) (C : CalK M.P M.w M.K M.mg X.base x k ps ks b (spV M m F)) (hr : Room j X.A) (ja : JK M X kws w) (hk : k ≤ j := by decide) (hl : ks.length = m := by rfl) (hg : Gl X x := by rfl)
    (hall : (backToKw pos (keywordEach kws X.env)).all (·.1.isSome) = true := by rfl) (hks : (backToKw pos (keywordEach kws X.env)).filterMap (·.1) = ks := by rfl) (hdb : (x == ("__debug__" : Str)) = false := by decide)
    (hpl : ((backTo pos (starEach [] X.env)).any (·.1) || (backToKw pos (keywordEach kws X.env)).any (·.1.isNone)) = false := by rfl) :
    J M X (.Call (.Name x p) [] kws pos) (wCall m ms F (wTurn b w)) := fun hM => by
  obtain ⟨f, fd, g, Fo, hm, hkp, hb⟩ := C.ex
  refine ⟨fun pins s σ H Q I h => ?_⟩
  refine wpAny_Call_Name_kw (ld_glob I hg (by rw [hM.mg]; exact hm) ?_ hdb)
  refine PySem.W.callWith_KW0 (h₀ := X.base) I.ok.mod.kin (by rw [hM.K]; exact hkp) hall ?_ hpl
  have h1 := tWA_turn (sim_call (E := E0) σ H Q h)
  refine thn ((ja hM).run pos pins s σ H _ I h1) fun ws s2 ⟨zs, H2, I2, rz, q2⟩ => ⟨I2.kIn, ?_⟩
  rw [hks]
  have l2 : (turnL b zs ++ []).length = m := q2.1
  have l3 : zs.length = ks.length := by
    rw [List.append_nil] at l2
    unfold turnL at l2
    split at l2
    · rw [List.length_reverse] at l2
      omega
    · omega
  have q2 : spV M m F (turnL b zs ++ []) H2 Q E0 := q2
  rw [List.append_nil] at q2
  exact run_fnN (n := 0) (us := []) (vs := []) (by rw [hM.P, hM.w, hM.K, hM.mg]; exact Fo) (hr.mono hk) (by rw [hM.K]; exact hb) pass0 I2 .nil rz rfl l3 q2
/-! ### what a name may hold -/
theorem cal_mono {P : Program} {w : World} {K : PySem.W.Frag} {mg : Str → Option Value} {base : Heap} {x : Str} {k j : Nat} {ps : List Str} {sp : Sp} (h : k ≤ j) (C : Cal P w K mg base x k ps sp) : Cal P w K mg base x j ps sp := by
  obtain ⟨f, fd, F, r⟩ := C.ex
  exact ⟨f, fd, F.mono h, r⟩
end
section
variable {M : Md} {base : Heap} {k m : Nat} {x y z : Str} {kx ky kz : Nat} {px py pz : List Str} {F G I : WF}
theorem hld_nil : Hld M base k m [] := ⟨fun _ _ h => by cases h⟩
theorem hld_cons {tab : List (Str × WF)} (hk : kx ≤ k) (C : Cal M.P M.w M.K M.mg base x kx px (spV M m F)) (h : Hld M base k m tab) : Hld M base k m ((x, F) :: tab) := ⟨fun u G hu => by
  rw [List.lookup_cons] at hu
  split at hu
  · rename_i e
    cases hu
    have : u = x := by simpa using e
    subst this
    exact ⟨px, cal_mono hk C⟩
  · exact h.all u G hu⟩
theorem hld_1 (h1 : kx ≤ k) (C1 : Cal M.P M.w M.K M.mg base x kx px (spV M m F)) : Hld M base k m [(x, F)] := hld_cons h1 C1 hld_nil
theorem hld_2 (h1 : kx ≤ k) (C1 : Cal M.P M.w M.K M.mg base x kx px (spV M m F)) (h2 : ky ≤ k) (C2 : Cal M.P M.w M.K M.mg base y ky py (spV M m G)) : Hld M base k m [(x, F), (y, G)] := hld_cons h1 C1 (hld_1 h2 C2)
theorem hld_3 (h1 : kx ≤ k) (C1 : Cal M.P M.w M.K M.mg base x kx px (spV M m F)) (h2 : ky ≤ k) (C2 : Cal M.P M.w M.K M.mg base y ky py (spV M m G)) (h3 : kz ≤ k) (C3 : Cal M.P M.w M.K M.mg base z kz pz (spV M m I)) : Hld M base k m [(x, F), (y, G), (z, I)] := hld_cons h1 C1 (hld_2 h2 C2 h3 C3)
end
/-- a def that is never called -/
theorem ok_never {P : Program} {w : World} {K : PySem.W.Frag} {mg : Str → Option Value} {base : Heap} {f : Addr} {fd : FuncData} {k m : Nat} {ps : List Str} (h : m = ps.length) : FnOk P w K mg base CX0 k f fd ps (spV ⟨P, w, K, mg⟩ m fun _ => none) :=
  ⟨fun vs H Q E h' => h'.1.trans h, fun A stack s H args us vs Q E hr I b r h' => by
    obtain ⟨_, D, as, fp, e, r, as', q, _⟩ := h'
    cases q⟩
end Tw

/-! sorted(x) of a list of pairs (text, number) -/
namespace Tw
open PySem PySem.Spec PyProof.Rows L2
def shp0 : Nat → Bool := fun i => i == 0
def rSortP (K : PySem.W.Frag) : List V → Hp → VK → Prop := fun vs H Q => ∃ (a : Addr) (xs : List V), vs = [V.ref a] ∧ SqL K H a xs ∧ (∀ x ∈ xs, ∃ t n i, x = V.ref t ∧ SqT K H t [.str n, .int i]) ∧
  ∀ (ys : List V) (p : Addr), ys.Perm xs → ys.Pairwise (fun x y => ∀ t u n m i j, x = V.ref t → y = V.ref u → SqT K H t [.str n, .int i] → SqT K H u [.str m, .int j] → leS n m) → H p = none → Q (.ref p) (upd H p (.lst ys))
section
variable {X : Cx} {pins : List (Addr × Obj)} {σ : L2.St} {H : Hp} {s : Shared}
theorem pair_raw (I : Inv X pins σ H s) {t : Addr} {n : Str} {i : Int} (h : SqT X.K H t [.str n, .int i]) : G.tupKeyC s.heap shp0 (.ref t) = some [Sum.inr n.cps.toList, Sum.inl i] ∧ ∃ f, TupOf s.heap shp0 (.ref t) f := by
  obtain ⟨its, rv, hT, _⟩ := I.tuple h
  obtain ⟨o, ho, hc, m, hd⟩ := hT
  cases rv with
  | cons r1 r2 =>
    cases r2 with
    | cons r2 r3 =>
      cases r3
      obtain ⟨t1, rfl⟩ := r1
      obtain ⟨t2, rfl⟩ := r2
      refine ⟨?_, _, t, o, _, m, rfl, ho, hc, hd, rfl, fun q => absurd q (by decide), fun _ => ⟨_, _, rfl⟩⟩
      have e1 : G.isTupObj s.heap (.ref t) = true := by simp [G.isTupObj, ho, hc]
      unfold G.tupKeyC
      rw [if_pos e1]
      simp only [tupKey, ho, hd]
      rfl
theorem tups_of {h : Heap} {shape : Nat → Bool} : ∀ {vs : List Value}, (∀ v ∈ vs, ∃ f, TupOf h shape v f) → ∃ fs, TupsOf h shape vs fs
  | [], _ => ⟨[], .nil⟩
  | v :: vs, q => by
    obtain ⟨f, hf⟩ := q v (by simp)
    obtain ⟨fs, hfs⟩ := tups_of (vs := vs) fun u hu => q u (List.mem_cons_of_mem _ hu)
    exact ⟨f :: fs, .cons hf hfs⟩
theorem cr_sortP : CallR X (.builtin "sorted") (rSortP X.K) := by
  intro pins s σ H vs us Q I r h
  obtain ⟨a, xs, rfl, hs, hx, q⟩ := h
  obtain ⟨its, rv, hl, hz⟩ := I.list hs
  rw [Vals.ref1 r]
  obtain ⟨e1, e2⟩ := bkV_refs rv fun x m => by
    obtain ⟨t, n, i, e, _⟩ := hx x m
    exact ⟨t, e⟩
  have raw : ∀ v ∈ its, ∃ t n i, v = Value.ref t ∧ SqT X.K H t [.str n, .int i] := fun v hv => by
    obtain ⟨t, rfl⟩ := e2 v hv
    have hm : V.ref t ∈ xs := by
      rw [e1]
      exact List.mem_map.mpr ⟨_, hv, rfl⟩
    obtain ⟨t', n, i, e, ht⟩ := hx _ hm
    cases e
    exact ⟨t, n, i, rfl, ht⟩
  obtain ⟨fs, hfs⟩ := tups_of (h := s.heap) (shape := shp0) (vs := its) fun v hv => by
    obtain ⟨t, n, i, rfl, ht⟩ := raw v hv
    exact (pair_raw I ht).2
  refine G.sorted_tups hl.isList hfs (fun v hv => ?_) (by rw [← rv.length]; exact hz) fun st' hp hS _ => ?_
  · obtain ⟨t, n, i, rfl, ht⟩ := raw v hv
    exact ⟨_, (pair_raw I ht).1⟩
  · have hpl : (arrOf st').toList.Perm (its.zip its) := by
      have e := Array.perm_iff_toList_perm.mp hp
      rw [pairsOf_toList] at e
      exact e
    have h1 : ((arrOf st').map (·.2)).toList.Perm its := by
      rw [Array.toList_map]
      have := hpl.map (·.2)
      rwa [List.map_snd_zip (Nat.le_refl _)] at this
    obtain ⟨ep, he'⟩ := PyProof.Rows.sortedAll_at s.heap its ((arrOf st').map (·.2))
    have h3 : ∀ u ∈ ((arrOf st').map (·.2)).toList, ∃ a, u = Value.ref a := fun u hu => e2 u (h1.mem_iff.mp hu)
    have hperm : (((arrOf st').map (·.2)).toList.map bkV).Perm xs := by
      rw [e1]
      exact h1.map bkV
    have hlen : (((arrOf st').map (·.2)).toList.map bkV).length ≤ sizeLine := by
      rw [hperm.length_eq]
      exact hz
    refine ⟨.ref _, upd H (s.heap.objs.size + 1) (.lst (((arrOf st').map (·.2)).toList.map bkV)), I.laid (t' := s.toks) (fun _ _ => PyProof.Rows.sortedAll_old) (Nat.le_succ _) ⟨hlen, ((arrOf st').map (·.2)).toList, ep, bkV_vals h3, he'⟩, rfl, q _ _ hperm ?_ (I.hok.fresh (Nat.le_succ _))⟩
    rw [List.pairwise_map, Array.toList_map, List.pairwise_map, List.pairwise_iff_getElem]
    intro i j hi hj hij t u n m k l ht hu hn hm
    have et := bkV_ref ht
    have eu := bkV_ref hu
    have szi : (arrOf st').toList.length = (arrOf st').size := Array.length_toList
    have s1 := hS i j (by omega) (by
      have := hp.size_eq
      omega)
    have zi := mem_zip_self (hpl.mem_iff.mp (List.getElem_mem hi))
    have zj := mem_zip_self (hpl.mem_iff.mp (List.getElem_mem hj))
    have k1 : KK (G.tupKindC s.heap shp0) (arrOf st') i = [Sum.inr n.cps.toList, Sum.inl k] := by
      unfold KK
      rw [← Array.getElem?_toList, List.getElem?_eq_getElem hi]
      show (G.tupKeyC s.heap shp0 _).getD _ = _
      rw [zi.1, et, (pair_raw I hn).1]
      rfl
    have k2 : KK (G.tupKindC s.heap shp0) (arrOf st') j = [Sum.inr m.cps.toList, Sum.inl l] := by
      unfold KK
      rw [← Array.getElem?_toList, List.getElem?_eq_getElem hj]
      show (G.tupKeyC s.heap shp0 _).getD _ = _
      rw [zj.1, eu, (pair_raw I hm).1]
      rfl
    rw [k1, k2] at s1
    have s2 : lexLt itemOrd [Sum.inr m.cps.toList, Sum.inl l] [Sum.inr n.cps.toList, Sum.inl k] = false := s1
    have s3 := (lex_false.mp s2).1
    exact leS_of_not s3
end
section
variable {M : Md} {X : Cx} {σ σ' : L2.St} {H D H' D' : Hp} {s s' : S} {fp fp' : Nat → List Addr}
/-- pairs of a text and a number -/
def prsD : List Da → Option (List (Str × Int))
  | [] => some []
  | .tup [.str x, .int i] :: r => (prsD r).bind fun l => some ((x, i) :: l)
  | _ => none
def prDa (p : Str × Int) : Da := .tup [.str p.1, .int p.2]
def getP (l : List (Str × Int)) (x : Str) : Str × Int := (x, (l.lookup x).getD 0)
def fSortedP (x : RV) : WE := fun s => match its s x with
  | some (false, ds) => match prsD ds with
    | some l => if (l.map (·.1)).Nodup then some (.n (.lst ((srtS (l.map (·.1))).map fun x => prDa (getP l x))), s) else none
    | none => none
  | _ => none
inductive Prs (M : Md) (D : Hp) : List V → List (Str × Int) → Prop
  | nil : Prs M D [] []
  | cons {t : Addr} {n : Str} {i : Int} {vs : List V} {l : List (Str × Int)} : SqT M.K D t [.str n, .int i] → SOk n → Prs M D vs l → Prs M D (.ref t :: vs) ((n, i) :: l)
theorem prs_of : ∀ {vs : List V} {ds : List Da} {l : List (Str × Int)}, Dxs M D vs ds → prsD ds = some l → Prs M D vs l
  | _, _, _, .nil, h => by
    cases h
    exact .nil
  | _, _, _, @Dxs.cons _ _ v vs d ds x r, h => by
    unfold prsD at h
    split at h
    · rename_i heq
      cases heq
    · rename_i n i r' heq
      cases heq
      simp only [Option.bind_eq_some_iff, Option.some.injEq] at h
      obtain ⟨l, h1, rfl⟩ := h
      obtain ⟨t, ws, rfl, k1, k2⟩ := dx_tup x
      cases k2 with
      | cons k2 k3 =>
        cases k3 with
        | cons k3 k4 =>
          cases k4
          cases k2 with
          | str hn =>
            cases k3
            exact .cons k1 hn (prs_of r h1)
    · cases h
theorem prs_perm {ys xs : List V} (p : ys.Perm xs) : ∀ {l : List (Str × Int)}, Prs M D xs l → ∃ l', l'.Perm l ∧ Prs M D ys l' := by
  induction p with
  | nil => exact fun h => ⟨_, List.Perm.refl _, h⟩
  | cons x p ih =>
    intro l h
    cases h with
    | cons a b c =>
      obtain ⟨l', p', h'⟩ := ih c
      exact ⟨_, p'.cons _, .cons a b h'⟩
  | swap x y r =>
    intro l h
    cases h with
    | cons a b c =>
      cases c with
      | cons a' b' c' => exact ⟨_, List.Perm.swap _ _ _, .cons a' b' (.cons a b c')⟩
  | trans p q ih1 ih2 =>
    intro l h
    obtain ⟨l1, p1, h1⟩ := ih2 h
    obtain ⟨l2, p2, h2⟩ := ih1 h1
    exact ⟨l2, p2.trans p1, h2⟩
theorem prs_dxs : ∀ {vs : List V} {l : List (Str × Int)}, Prs M D vs l → Dxs M D vs (l.map prDa)
  | _, _, .nil => .nil
  | _, _, .cons a b c => .cons (.tup a (.cons (.str b) (.cons (.int _) .nil))) (prs_dxs c)
theorem prs_mem : ∀ {vs : List V} {l : List (Str × Int)}, Prs M D vs l → ∀ p ∈ l, ∃ t, V.ref t ∈ vs ∧ SqT M.K D t [.str p.1, .int p.2]
  | _, _, .nil, _, h => by simp at h
  | _, _, .cons a b c, p, h => by
    rcases List.mem_cons.mp h with rfl | h
    · exact ⟨_, by simp, a⟩
    · obtain ⟨t, h1, h2⟩ := prs_mem c p h
      exact ⟨t, List.mem_cons_of_mem _ h1, h2⟩
theorem prs_all : ∀ {vs : List V} {l : List (Str × Int)}, Prs M D vs l → ∀ x ∈ vs, ∃ t n i, x = V.ref t ∧ SqT M.K D t [.str n, .int i]
  | _, _, .nil, _, h => by simp at h
  | _, _, .cons a b c, x, h => by
    rcases List.mem_cons.mp h with rfl | h
    · exact ⟨_, _, _, rfl, a⟩
    · exact prs_all c x h
theorem prs_pw : ∀ {vs : List V} {l : List (Str × Int)}, Prs M D vs l → vs.Pairwise (fun x y => ∀ t u n m i j, x = V.ref t → y = V.ref u → SqT M.K D t [.str n, .int i] → SqT M.K D u [.str m, .int j] → leS n m) → (l.map (·.1)).Pairwise leS
  | _, _, .nil, _ => .nil
  | _, _, .cons a b c, h => by
    have h' := List.pairwise_cons.mp h
    refine List.pairwise_cons.mpr ⟨fun z hz => ?_, prs_pw c h'.2⟩
    obtain ⟨p, hp, rfl⟩ := List.mem_map.mp hz
    obtain ⟨t, m1, m2⟩ := prs_mem c p hp
    exact h'.1 _ m1 _ _ _ _ _ _ rfl rfl a m2
theorem getP_is : ∀ {l : List (Str × Int)}, (l.map (·.1)).Nodup → ∀ p ∈ l, getP l p.1 = p
  | [], _, _, h => by simp at h
  | q :: l, hn, p, h => by
    rw [List.map_cons, List.nodup_cons] at hn
    unfold getP
    rw [List.lookup_cons]
    rcases List.mem_cons.mp h with rfl | h
    · simp
    · have : (p.1 == q.1) = false := by
        have : p.1 ≠ q.1 := fun z => hn.1 (by rw [← z]; exact List.mem_map.mpr ⟨p, h, rfl⟩)
        simpa using this
      rw [this]
      exact getP_is hn.2 p h
theorem sim_sortedP : SimC1 M (rSortP M.K) fSortedP := fun σ H D s fp v rv f r' s' Q e hv hf hw q => by
  unfold fSortedP at hw
  split at hw
  · rename_i hi
    split at hw
    · rename_i l hl
      split at hw
      · rename_i hnd
        cases hw
        obtain ⟨a, vs, rfl, d1, k | k⟩ := vr_its e hv hi
        · cases k.1
        · have hp := prs_of d1 hl
          refine ⟨a, vs, rfl, SqL.of k.2, fun x hx => ?_, fun ys p pm so np => ?_⟩
          · obtain ⟨t, n, i, rfl, ht⟩ := prs_all hp x hx
            exact ⟨t, n, i, rfl, same_sqt e.sub ht⟩
          · obtain ⟨l', p', h'⟩ := prs_perm pm hp
            have pw := prs_pw h' (so.imp fun {x y} hxy t u n m i j h1 h2 h3 h4 => hxy t u n m i j h1 h2 (same_sqt e.sub h3) (same_sqt e.sub h4))
            have e1 : l'.map (·.1) = srtS (l.map (·.1)) := sorted_one pw (srtS_pw _) ((p'.map _).trans (srtS_perm _).symm)
            have e2 : l'.map prDa = (srtS (l.map (·.1))).map fun x => prDa (getP l x) := by
              rw [← e1, List.map_map]
              refine List.map_congr_left fun z hz => ?_
              show prDa z = prDa (getP l z.1)
              rw [getP_is hnd z (p'.mem_iff.mp hz)]
            have d2 := prs_dxs h'
            rw [e2] at d2
            obtain ⟨a4, v4⟩ := e.newL np (same_new np) upd_same d2
            exact q _ _ _ _ _ a4 v4
      · cases hw
    · cases hw
  · cases hw
/-- sorted of texts, of a dict by its texts, of pairs -/
def fSortedB (x : RV) : WE := fun s => match fSortedA x s with
  | some p => some p
  | none => fSortedP x s
theorem j_sortedB {p pos : Pos} {e : Expr} {es : List Expr} {w : WA} (hc : X.calm = true) (hm : M.mg "sorted" = none) (ja : JA M X (e :: es) w) (hg : Gl X "sorted" := by rfl) (he : HE X e es := by rfl) (hpl : HP X pos es := by rfl) : J M X (.Call (.Name "sorted" p) (e :: es) [] pos) (wCB (f1 fSortedB) w) :=
  j_callB (fun hM => by rw [← hM.K]; exact (cr_sortedS.or (call_sortedD hc)).or cr_sortP) (SimC1.or (SimC1.or sim_sorted sim_sortedD) sim_sortedP).c hg hm PyProof.Rows.boot_sorted ja (he := he) (hpl := hpl)
/-- a thing becomes data at once -/
def wFrz (w : WE) : WE := fun s => (w s).bind fun p => (sto p.1 p.2).bind fun q => some (.d q.1, q.2)
theorem j_frz {e : Expr} {w : WE} (h : J M X e w) : J M X e (wFrz w) := fun hM => pe_mono (h hM) fun σ H Q ⟨D, s, fp, e, r, s', hw, q⟩ => by
  simp only [wFrz, Option.bind_eq_some_iff, Option.some.injEq, Prod.mk.injEq] at hw
  obtain ⟨⟨r1, s1⟩, h1, ⟨d, s2⟩, h2, rfl, rfl⟩ := hw
  refine ⟨D, s, fp, e, r1, s1, h1, fun v H1 D1 fp1 f1 a1 v1 => ?_⟩
  obtain ⟨D2, a2, x2⟩ := v1.sto a1 h2
  exact q _ _ _ _ [] a2 (.d x2)
end
end Tw

/-! meanings of defs that stand in many laws -/
namespace Tw
open PySem PySem.Spec PyProof.Rows L2
def d_LOOKS : Da := (.tab [("take", (.tup [(.fn "is_name")])), ("give", (.tup [(.fn "is_name")])), ("number", (.tup [(.fn "is_item")])), ("keep", (.tup [(.fn "is_place")])), ("kept", (.tup [(.fn "is_place")])), ("plus", (.tup [])), ("less", (.tup [])), ("times", (.tup [])), ("below", (.tup [])), ("twice", (.tup [])), ("swap", (.tup [])), ("drop", (.tup [])), ("pick", (.tup []))])
def d_LACKS_BELOW : Da := (.tab [("take", (.int 0)), ("give", (.int 1)), ("number", (.int 0)), ("keep", (.int 1)), ("kept", (.int 0)), ("plus", (.int 2)), ("less", (.int 2)), ("times", (.int 2)), ("below", (.int 2)), ("twice", (.int 1)), ("swap", (.int 2)), ("drop", (.int 1)), ("pick", (.int 3))])
def d_LEAVES_MORE : Da := (.tab [("take", (.int 1)), ("give", (.int (-1))), ("number", (.int 1)), ("keep", (.int (-1))), ("kept", (.int 1)), ("plus", (.int (-1))), ("less", (.int (-1))), ("times", (.int (-1))), ("below", (.int (-1))), ("twice", (.int 1)), ("swap", (.int 0)), ("drop", (.int (-1))), ("pick", (.int (-2)))])
def w_is_number : WF := fnW 1 1 [] (wRet (wAnd (wIsi ["int"] (wVar 0)) (wNot (wIsi ["bool"] (wVar 0)))))
def w_is_within : WF := fnW 3 3 [] (wRet (wAnd (wCall 1 [false] w_is_number (wCons (wVar 0) wNil)) (wChain fLeA fLeA (wVar 1) (wVar 0) (wVar 2))))
def w_is_item : WF := fnW 1 1 [] (wRet (wCall 3 [false, false, false] w_is_within (wCons (wVar 0) (wCons (wC (.int 0)) (wCons (wOp fSub (wC (.int 1000000)) (wC (.int 1))) wNil)))))
def w_is_name : WF := fnW 2 1 [] (wSeq (wIf (wOrT (wNotT (wTest (wIsi ["str"] (wVar 0)))) (wNotT (wTest (wChain fLeA fLeA (wC (.int 1)) (wCB (f1 fLen) (wCons (wVar 0) wNil)) (wC (.int 8))))))
    (wRet (wC (.bl false)))
    wNext)
  (wRet (wCB (f1 (fOfL blsD fun l => .bl (l.all id))) (wCons (wLc [1] (wIt (wVar 0)) (bindV 1) wYes (wOp (fInA false) (wVar 1) (wC (.str "abcdefghijklmnopqrstuvwxyz")))) wNil))))
def w_is_tuple : WF := fnW 3 3 [] (wRet (wAnd (wIsi ["tuple"] (wVar 0)) (wChain fLeA fLeA (wVar 1) (wCB (f1 fLen) (wCons (wVar 0) wNil)) (wVar 2))))
def w_is_place : WF := fnW 1 1 [] (wRet (wCall 3 [false, false, false] w_is_within (wCons (wVar 0) (wCons (wC (.int 0)) (wCons (wOp fSub (wC (.int 4)) (wC (.int 1))) wNil)))))
def w_is_act : WF := fnW 6 1 [1, 2, 3] (wSeq (wIf (wOrT (wNotT (wTest (wIsi ["tuple"] (wVar 0)))) (wOrT (wTest (wOp (fEq false) (wCB (f1 fLen) (wCons (wVar 0) wNil)) (wC (.int 0)))) (wOrT (wNotT (wTest (wIsi ["str"] (wOp fIxA (wVar 0) (wC (.int 0)))))) (wTest (wOp (fInA true) (wOp fIxA (wVar 0) (wC (.int 0))) (wC d_LOOKS))))))
    (wRet (wC (.bl false)))
    wNext)
  (wSeq (wAsg (wVar 0) (wgStar 1 2))
  (wSeq (wAsg (wOp fIxA (wC d_LOOKS) (wVar 1)) (bindV 3))
  (wRet (wAnd (wOp (fEq false) (wCB (f1 fLen) (wCons (wVar 2) wNil)) (wCB (f1 fLen) (wCons (wVar 3) wNil))) (wCB (f1 (fOfL blsD fun l => .bl (l.all id))) (wCons (wLc [4, 5] (wZip (wCons (wVar 3) (wCons (wVar 2) wNil))) (wgTup 2 (wgCons (bindV 4) (wgCons (bindV 5) wgNil))) wYes (wCallH 1 4 [false] [("is_name", w_is_name), ("is_item", w_is_item), ("is_place", w_is_place)] (wCons (wVar 5) wNil))) wNil)))))))
def w_is_code : WF := fnW 5 1 [1, 2, 3, 1] (wSeq (wIf (wOrT (wNotT (wTest (wCall 3 [false, false, false] w_is_tuple (wCons (wVar 0) (wCons (wC (.int 0)) (wCons (wC (.int 24)) wNil)))))) (wNotT (wTest (wCB (f1 (fOfL blsD fun l => .bl (l.all id))) (wCons (wLc [4] (wIt (wVar 0)) (bindV 4) wYes (wCall 1 [false] w_is_act (wCons (wVar 4) wNil))) wNil)))))
    (wRet (wC (.bl false)))
    wNext)
  (wSeq (wAsg (wC (.int 0)) (bindV 1))
  (wSeq (wFor (wIt (wVar 0)) (wgStar 2 3)
    (wSeq (wIf (wTest (wOp fLtA (wVar 1) (wOp fIxA (wC d_LACKS_BELOW) (wVar 2))))
      (wRet (wC (.bl false)))
      wNext)
    (wAugI (fun i j => i + j) 1 (wOp fIxA (wC d_LEAVES_MORE) (wVar 2)))))
  (wRet (wC (.bl true))))))
def w_moves : WF := fnW 4 3 [] (wRet (wCB (f1 fLen) (wCons (wLc [3] (wIt (wVar 0)) (bindV 3) (wAndT (wTest (wOp (fEq false) (wOp fIxA (wVar 3) (wC (.int 0))) (wVar 1))) (wTest (wOp (fEq false) (wOp fIxA (wVar 3) (wC (.int 1))) (wVar 2)))) (wVar 3)) wNil)))
def w_moves_all : WF := fnW 5 2 [2] (wSeq (wAsg (wDc [3] (wIt (wVar 0)) (bindV 3) (wTest (wOp (fEq false) (wOp fIxA (wVar 3) (wC (.int 0))) (wVar 1))) (wOp fIxA (wVar 3) (wC (.int 1))) (wC (.bl true))) (bindV 2))
  (wRet (wLc [4] (wIt (wCB (f1 fSortedB) (wCons (wVar 2) wNil))) (bindV 4) wYes (wTup (wCons (wVar 4) (wCons (wCall 3 [false, false, false] w_moves (wCons (wVar 0) (wCons (wVar 1) (wCons (wVar 4) wNil)))) wNil))))))
def w_takes_of : WF := fnW 1 1 [] (wRet (wCall 2 [false, false] w_moves_all (wCons (wVar 0) (wCons (wC (.str "take")) wNil))))
def w_gives_of : WF := fnW 1 1 [] (wRet (wCall 2 [false, false] w_moves_all (wCons (wVar 0) (wCons (wC (.str "give")) wNil))))
def w_l_tape : WF := fnW 3 2 [2] (wSeq (wAsg (wIfE (wTest (wOp fLtA (wVar 1) (wCB (f1 fLen) (wCons (wVar 0) wNil)))) (wOp fIxA (wVar 0) (wVar 1)) (wC (.int 0))) (bindV 2))
  (wRet (wLst (wCons (wOp fMul (wCB (f1 fAbs) (wCons (wVar 2) wNil)) (wCB (f1 fInt) (wCons (wOp fGeA (wCB (f1 fAbs) (wCons (wVar 2) wNil)) (wOp fPow (wC (.int 10)) (wC (.int 18)))) wNil))) (wCons (wOp fAdd (wOp fAdd (wOp fMod (wVar 2) (wC (.int 2305843009213693951))) (wOp fMul (wC (.int 39373)) (wVar 1))) (wC (.int 17))) (wCons (wC (.int 0)) wNil))))))
def w_l_draw : WF := fnW 6 2 [2, 3, 4, 5] (wSeq (wIf (wTest (wOp fGtA (wOp fIxA (wVar 0) (wC (.int 0))) (wC (.int 0))))
    (wSeq (wAsg (wOp fMod (wOp fIxA (wVar 0) (wC (.int 0))) (wVar 1)) (bindV 2))
    (wSeq (wAsg (wOp fDiv (wOp fIxA (wVar 0) (wC (.int 0))) (wVar 1)) (wgSub 0 (wC (.int 0))))
    (wRet (wVar 2))))
    wNext)
  (wSeq (wAsg (wOp fAdd (wOp fIxA (wVar 0) (wC (.int 2))) (wC (.int 1))) (wgSub 0 (wC (.int 2))))
  (wSeq (wAsg (wOp fMod (wOp fPow (wOp fAdd (wOp fIxA (wVar 0) (wC (.int 1))) (wOp fMul (wC (.int 39373)) (wOp fIxA (wVar 0) (wC (.int 2))))) (wC (.int 5))) (wC (.int 2147483647))) (bindV 3))
  (wSeq (wAsg (wOp fMod (wOp fMul (wOp fAdd (wVar 3) (wOp fIxA (wVar 0) (wC (.int 2)))) (wOp fAdd (wOp fAdd (wOp fMod (wVar 3) (wC (.int 40009))) (wC (.int 7))) (wOp fIxA (wVar 0) (wC (.int 2))))) (wC (.int 2147483629))) (bindV 4))
  (wSeq (wAsg (wOp fMod (wOp fAdd (wOp fAdd (wOp fDiv (wOp fIxA (wVar 0) (wC (.int 1))) (wC (.int 2147483647))) (wOp fMul (wVar 4) (wC (.int 40009)))) (wOp fIxA (wVar 0) (wC (.int 2)))) (wC (.int 2305843009213693951))) (bindV 5))
  (wRet (wOp fMod (wOp fDiv (wOp fMod (wOp fAdd (wOp fAdd (wOp fMul (wVar 4) (wC (.int 48271))) (wOp fMul (wVar 5) (wC (.int 39373)))) (wVar 3)) (wC (.int 2305843009213693921))) (wC (.int 64))) (wVar 1))))))))
def w_l_folded : WF := fnW 5 2 [2, 3, 4] (wSeq (wAsg (wCB (f1 fListA) (wCons (wSl (wVar 0) wNoPart (wPart (wVar 1))) wNil)) (bindV 2))
  (wSeq (wFor (wEnum (wCons (wSl (wVar 0) (wPart (wVar 1)) (wPart (wC (.int 63)))) wNil)) (wgTup 2 (wgCons (bindV 3) (wgCons (bindV 4) wgNil)))
    (wAsg (wOp fAdd (wOp fIxA (wVar 2) (wOp fMod (wVar 3) (wVar 1))) (wOp fMul (wVar 4) (wOp fAdd (wVar 3) (wC (.int 2))))) (wgSub 2 (wOp fMod (wVar 3) (wVar 1)))))
  (wRet (wVar 2))))
def w_l_names : WF := fnW 13 2 [2, 3, 4, 6, 7, 8, 9, 10, 5, 11, 12] (wSeq (wAsg (wTup (wCons (wC (.str "abcdefghijklmnopqrstuvwxyz")) (wCons (wCall 2 [true, false] w_l_draw (wCons (wVar 0) (wCons (wC (.int 26)) wNil))) wNil))) (wgTup 2 (wgCons (bindV 2) (wgCons (bindV 3) wgNil))))
  (wSeq (wAsg (wOp fJoin (wC (.str "")) (wLc [5] (wRange1 (wCons (wCall 2 [true, false] w_l_draw (wCons (wVar 0) (wCons (wC (.int 8)) wNil))) wNil)) (bindV 5) wYes (wOp fIxA (wVar 2) (wCall 2 [true, false] w_l_draw (wCons (wVar 0) (wCons (wC (.int 26)) wNil)))))) (bindV 4))
  (wSeq (wPar [6, 7, 8] (wCons (wCall 2 [true, false] w_l_draw (wCons (wVar 0) (wCons (wOp fAdd (wCB (f1 fLen) (wCons (wVar 4) wNil)) (wC (.int 1))) wNil))) (wCons (wOp fIxA (wLst (wCons (wC (.int 1)) (wCons (wC (.int 7)) (wCons (wC (.int 25)) wNil)))) (wCall 2 [true, false] w_l_draw (wCons (wVar 0) (wCons (wC (.int 3)) wNil)))) (wCons (wLst wNil) wNil))))
  (wSeq (wPar [9, 10] (wCons (wSl (wVar 4) wNoPart (wPart (wVar 6))) (wCons (wSl (wVar 4) (wPart (wVar 6)) wNoPart) wNil)))
  (wSeq (wFor (wRange1 (wCons (wVar 1) wNil)) (bindV 5)
    (wSeq (wAsg (wOp fMul (wOp fMod (wOp fAdd (wOp fAdd (wVar 3) (wVar 6)) (wCB (f1 fLen) (wCons (wVar 4) wNil))) (wC (.int 3))) (wCB (f1 fInt) (wCons (wOp (fEq true) (wVar 10) (wC (.str ""))) wNil))) (bindV 11))
    (wSeq (wAsg (wOp fIxA (wVar 2) (wOp fMod (wOp fAdd (wVar 3) (wOp fMul (wVar 7) (wOp fIxA (wLst (wCons (wVar 5) (wCons (wOp fDiv (wVar 5) (wC (.int 2))) (wCons (wVar 5) wNil)))) (wVar 11)))) (wC (.int 26)))) (bindV 12))
    (wDrop (wMeth 8 fAppend (wCons (wOp fAdd (wOp fAdd (wVar 9) (wVar 12)) (wOp fIxA (wLst (wCons (wVar 10) (wCons (wOp fMul (wVar 10) (wOp fMod (wVar 5) (wC (.int 2)))) (wCons (wSl (wVar 10) wNoPart (wPart (wOp fMod (wVar 5) (wOp fAdd (wCB (f1 fLen) (wCons (wVar 10) wNil)) (wC (.int 1)))))) wNil)))) (wVar 11))) wNil))))))
  (wRet (wVar 8)))))))
def w_l_part : WF := fnW 5 3 [3] (wSeq (wAsg (wCB (f1 fListA) (wCons (wVar 1) wNil)) (bindV 3))
  (wRet (wLc [4] (wRange1 (wCons (wVar 2) wNil)) (bindV 4) wYes (wMeth 3 fPopAt (wCons (wCall 2 [true, false] w_l_draw (wCons (wVar 0) (wCons (wCB (f1 fLen) (wCons (wVar 3) wNil)) wNil))) wNil)))))
def w_l_same : Nat → WF
  | 0 => fun _ => none
  | n + 1 => fnW 4 2 [] (wSeq (wIf (wTest (wIsi ["list", "tuple"] (wVar 1)))
    (wSeq (wIf (wOrT (wTest (wOp (fEq true) (wIsi ["list"] (wVar 0)) (wIsi ["list"] (wVar 1)))) (wTest (wOp (fEq true) (wIsi ["tuple"] (wVar 0)) (wIsi ["tuple"] (wVar 1)))))
      (wRet (wC (.bl false)))
      wNext)
    (wRet (wAnd (wOp (fEq false) (wCB (f1 fLen) (wCons (wVar 0) wNil)) (wCB (f1 fLen) (wCons (wVar 1) wNil))) (wCB (f1 (fOfL blsD fun l => .bl (l.all id))) (wCons (wLc [2, 3] (wZip (wCons (wVar 0) (wCons (wVar 1) wNil))) (wgTup 2 (wgCons (bindV 2) (wgCons (bindV 3) wgNil))) wYes (wCall 2 [false, false] (w_l_same n) (wCons (wVar 2) (wCons (wVar 3) wNil)))) wNil)))))
    wNext)
  (wSeq (wIf (wOrT (wTest (wOp (fIs false) (wVar 1) (wC .non))) (wTest (wIsi ["str", "bool"] (wVar 1))))
    (wRet (wAnd (wOp (fEq false) (wIsi ["bool"] (wVar 0)) (wIsi ["bool"] (wVar 1))) (wOp (fEq false) (wVar 0) (wVar 1))))
    wNext)
  (wRet (wAnd (wIsi ["int"] (wVar 0)) (wAnd (wNot (wIsi ["bool"] (wVar 0))) (wOp (fEq false) (wVar 0) (wVar 1)))))))
end Tw

/-! runs of pure meanings, step by step -/
namespace Tw
open PySem PySem.Spec PyProof.Rows L2
/-- it runs, and what comes out is so -/
def Rn {α : Type} (o : Option α) (Q : α → Prop) : Prop := ∃ a, o = some a ∧ Q a

theorem rn_some {α : Type} {a : α} {Q : α → Prop} : Rn (some a) Q = Q a := propext ⟨fun ⟨b, e, q⟩ => by cases e; exact q, fun q => ⟨a, rfl, q⟩⟩
theorem rn_none {α : Type} {Q : α → Prop} : Rn none Q = False := propext (Iff.intro (fun h => (by obtain ⟨b, e, q⟩ := h; cases e)) fun h => h.elim)
theorem rn_of {α : Type} {o : Option α} {a : α} {Q : α → Prop} (h : o = some a) : Rn o Q = Q a := by rw [h, rn_some]
theorem rn_bind {α β : Type} {o : Option α} {f : α → Option β} {Q : β → Prop} : Rn (o.bind f) Q = Rn o fun a => Rn (f a) Q := by
  cases o with
  | none => rw [Option.bind_none, rn_none, rn_none]
  | some a => rw [Option.bind_some, rn_some]
theorem rn_imp {α : Type} {o : Option α} {Q Q' : α → Prop} (h : Rn o Q) (k : ∀ a, Q a → Q' a) : Rn o Q' := let ⟨a, e, q⟩ := h; ⟨a, e, k a q⟩
theorem rn_if {α : Type} {c : Prop} [Decidable c] {o : Option α} {Q : α → Prop} : Rn (if c then o else none) Q = (c ∧ Rn o Q) := by
  by_cases h : c
  · rw [if_pos h]; exact propext ⟨fun q => ⟨h, q⟩, fun q => q.2⟩
  · rw [if_neg h, rn_none]; exact propext ⟨False.elim, fun q => h q.1⟩
theorem rn_iteT {α : Type} {o u : Option α} {Q : α → Prop} : Rn (if true = true then o else u) Q = Rn o Q := rfl
theorem rn_iteF {α : Type} {o u : Option α} {Q : α → Prop} : Rn (if false = true then o else u) Q = Rn u Q := rfl
section
variable {w a b c : WE} {u v : WA} {s : S} {F G : F2} {ws wu : WS} {t t' : WT} {P : RV × S → Prop} {PA : List RV × S → Prop} {PT : Bool × S → Prop} {PS : Fl × S → Prop} {PG : S → Prop} {PI : List Da × S → Prop} {g : WG} {gs : WGs} {wi : WI} {d : Da} {ds : List Da} {r : RV} {rs : List RV} {i n m : Nat} {K : FA} {Ts : List String} {l h : WO} {PO : Option Int × S → Prop} {vs T : List Nat} {W : WF} {ms : List Bool} {M : FM} {as : List SV} {b0 : Bool}
theorem u_C : Rn (wC d s) P = P (.d d, s) := rn_some
theorem u_nil : Rn (wNil s) PA = PA ([], s) := rn_some
theorem u_cons : Rn (wCons w u s) PA = Rn (w s) fun p => Rn (u p.2) fun q => PA (p.1 :: q.1, q.2) := by simp only [wCons, rn_bind, rn_some]
theorem u_tup : Rn (wTup u s) P = Rn (u s) fun p => p.1.length ≤ 100000 ∧ Rn (if p.1.all cold = false then some (.t p.1, p.2) else (stos p.1 p.2).bind fun q => some (.d (.tup q.1), q.2)) P := by simp only [wTup, rn_bind, rn_if]
theorem u_lst : Rn (wLst u s) P = Rn (u s) fun p => p.1.length ≤ 100000 ∧ Rn (if hots p.1 = true then some (.l p.1, p.2) else (stos p.1 p.2).bind fun q => some (.n (.lst q.1), q.2)) P := by simp only [wLst, rn_bind, rn_if]
theorem u_op : Rn (wOp F a b s) P = Rn (a s) fun p => Rn (b p.2) fun q => Rn (F p.1 q.1 q.2) P := by simp only [wOp, rn_bind]
/-- the ways behind -/
def kAnd (b : WE) (p : RV × S) : Option (RV × S) := match p.1 with
  | .d (.bl true) => b p.2
  | .d (.bl false) => some (.d (.bl false), p.2)
  | _ => none
def kOr (b : WE) (p : RV × S) : Option (RV × S) := match p.1 with
  | .d (.bl true) => some (.d (.bl true), p.2)
  | .d (.bl false) => b p.2
  | _ => none
theorem u_and : Rn (wAnd a b s) P = Rn (a s) fun p => Rn (kAnd b p) P := by
  show Rn ((a s).bind _) P = _
  rw [rn_bind]
  rfl
theorem u_or : Rn (wOr a b s) P = Rn (a s) fun p => Rn (kOr b p) P := by
  show Rn ((a s).bind _) P = _
  rw [rn_bind]
  rfl
theorem k_andT : kAnd b (.d (.bl true), s) = b s := rfl
theorem k_andF : kAnd b (.d (.bl false), s) = some (.d (.bl false), s) := rfl
theorem k_orT : kOr b (.d (.bl true), s) = some (.d (.bl true), s) := rfl
theorem k_orF : kOr b (.d (.bl false), s) = b s := rfl
def kB (p : RV × S) : Option (Bool × S) := match p.1 with
  | .d (.bl b) => some (b, p.2)
  | _ => none
theorem k_B : kB (.d (.bl b0), s) = some (b0, s) := rfl
theorem u_test : Rn (wTest a s) PT = Rn (a s) fun p => Rn (kB p) PT := by
  show Rn ((a s).bind _) PT = _
  rw [rn_bind]
  rfl
theorem u_not : Rn (wNot a s) P = Rn (a s) fun p => Rn (kB p) fun q => P (.d (.bl (!q.1)), q.2) := by
  unfold wNot
  rw [rn_bind]
  refine congrArg _ (funext fun p => ?_)
  obtain ⟨r, s1⟩ := p
  cases r with
  | d d =>
    cases d with
    | bl b => exact (rn_of (by rfl)).trans (rn_of (Q := fun q : Bool × S => P (.d (.bl (!q.1)), q.2)) (a := (b, s1)) (o := kB (.d (.bl b), s1)) rfl).symm
    | _ => exact (rn_none (Q := P)).trans (rn_none (Q := fun q : Bool × S => P (.d (.bl (!q.1)), q.2))).symm
  | _ => exact (rn_none (Q := P)).trans (rn_none (Q := fun q : Bool × S => P (.d (.bl (!q.1)), q.2))).symm
theorem u_notT : Rn (wNotT t s) PT = Rn (t s) fun p => PT (!p.1, p.2) := by simp only [wNotT, rn_bind, rn_some]
theorem u_andT : Rn (wAndT t t' s) PT = Rn (t s) fun p => Rn (if p.1 = true then t' p.2 else some (false, p.2)) PT := by simp only [wAndT, rn_bind]
theorem u_orT : Rn (wOrT t t' s) PT = Rn (t s) fun p => Rn (if p.1 = true then some (true, p.2) else t' p.2) PT := by simp only [wOrT, rn_bind]
theorem u_ifE : Rn (wIfE t a b s) P = Rn (t s) fun p => Rn (if p.1 = true then a p.2 else b p.2) P := by simp only [wIfE, rn_bind]
def kCh (G : F2) (c : WE) (x : RV) (z : RV × S) : Option (RV × S) := match z.1 with
  | .d (.bl true) => (c z.2).bind fun t => G x t.1 t.2
  | .d (.bl false) => some (.d (.bl false), z.2)
  | _ => none
theorem u_chain : Rn (wChain F G a b c s) P = Rn (a s) fun p => Rn (b p.2) fun q => Rn (F p.1 q.1 q.2) fun z => Rn (kCh G c q.1 z) P := by
  show Rn ((a s).bind fun p => (b p.2).bind fun q => (F p.1 q.1 q.2).bind (kCh G c q.1)) P = _
  simp only [rn_bind]
theorem k_chT : Rn (kCh G c r (.d (.bl true), s)) P = Rn (c s) fun t => Rn (G r t.1 t.2) P := by
  show Rn ((c s).bind _) P = _
  rw [rn_bind]
theorem k_chF : Rn (kCh G c r (.d (.bl false), s)) P = P (.d (.bl false), s) := rn_some
theorem u_CB : Rn (wCB K u s) P = Rn (u s) fun p => Rn (K p.1 p.2) P := by simp only [wCB, rn_bind]
def kIsi (Ts : List String) (p : RV × S) : Option (RV × S) := match dv p.2 p.1 with
  | some d => if isOk d = true then some (.d (.bl (Ts.any fun T => isA T d)), p.2) else none
  | none => none
theorem u_isi : Rn (wIsi Ts a s) P = Rn (a s) fun p => Rn (kIsi Ts p) P := by
  show Rn ((a s).bind _) P = _
  rw [rn_bind]
  rfl
theorem k_isiD (h : isOk d = true) : kIsi Ts (.d d, s) = some (.d (.bl (Ts.any fun T => isA T d)), s) := by
  show (if isOk d = true then _ else _) = _
  rw [if_pos h]
theorem k_isiN (h : isOk d = true) : kIsi Ts (.n d, s) = some (.d (.bl (Ts.any fun T => isA T d)), s) := by
  show (if isOk d = true then _ else _) = _
  rw [if_pos h]
theorem u_sl : Rn (wSl a l h s) P = Rn (a s) fun p => Rn (l p.2) fun q => Rn (h q.2) fun t => Rn (fSl p.1 q.1 t.1 t.2) P := by simp only [wSl, rn_bind]
theorem u_noPart : Rn (wNoPart s) PO = PO (none, s) := rn_some
def kInt (p : RV × S) : Option (Option Int × S) := match p.1 with
  | .d (.int i) => some (some i, p.2)
  | _ => none
theorem k_int {k : Int} : kInt (.d (.int k), s) = some (some k, s) := rfl
theorem u_part : Rn (wPart a s) PO = Rn (a s) fun p => Rn (kInt p) PO := by
  show Rn ((a s).bind _) PO = _
  rw [rn_bind]
  rfl
/-- statements -/
def kSeq (u : WS) (p : Fl × S) : Option (Fl × S) := match p.1 with
  | .nx => u p.2
  | fl => some (fl, p.2)
theorem u_seq : Rn (wSeq ws wu s) PS = Rn (ws s) fun p => Rn (kSeq wu p) PS := by
  show Rn ((ws s).bind _) PS = _
  rw [rn_bind]
  rfl
theorem k_seqN : kSeq wu (.nx, s) = wu s := rfl
theorem k_seqR : kSeq wu (.rt r, s) = some (.rt r, s) := rfl
theorem k_seqB : kSeq wu (.bk, s) = some (.bk, s) := rfl
theorem k_seqC : kSeq wu (.ct, s) = some (.ct, s) := rfl
theorem u_next : Rn (wNext s) PS = PS (.nx, s) := rn_some
theorem u_retN : Rn (wRetN s) PS = PS (.rt (.d .non), s) := rn_some
theorem u_bk : Rn (wBk s) PS = PS (.bk, s) := rn_some
theorem u_ct : Rn (wCt s) PS = PS (.ct, s) := rn_some
theorem u_drop : Rn (wDrop a s) PS = Rn (a s) fun p => PS (.nx, p.2) := by simp only [wDrop, rn_bind, rn_some]
theorem u_ret : Rn (wRet a s) PS = Rn (a s) fun p => PS (.rt p.1, p.2) := by simp only [wRet, rn_bind, rn_some]
theorem u_if : Rn (wIf t ws wu s) PS = Rn (t s) fun p => Rn (if p.1 = true then ws p.2 else wu p.2) PS := by simp only [wIf, rn_bind]
theorem u_asg : Rn (wAsg a g s) PS = Rn (a s) fun p => Rn (g p.1 p.2) fun s1 => PS (.nx, s1) := by simp only [wAsg, rn_bind, rn_some]
theorem u_par {is : List Nat} : Rn (wPar is u s) PS = Rn (u s) fun p => Rn (prep p.1 p.2) fun q => Rn (bindAll is q.1 q.2) fun s1 => PS (.nx, s1) := by simp only [wPar, rn_bind, rn_some]
theorem u_prepN {PP : List RV × S → Prop} : Rn (prep [] s) PP = PP ([], s) := rn_some
theorem u_prepD {PP : List RV × S → Prop} : Rn (prep (.d d :: rs) s) PP = Rn (prep rs s) fun q => PP (.d d :: q.1, q.2) := by
  show Rn ((prep rs s).bind _) PP = _
  rw [rn_bind]
  simp only [rn_some]
theorem u_prepO {PP : List RV × S → Prop} : Rn (prep (.n d :: rs) s) PP = Rn (prep rs s) fun q => PP (.n d :: q.1, q.2) := by
  show Rn ((prep rs s).bind _) PP = _
  rw [rn_bind]
  simp only [rn_some]
theorem u_allN : Rn (bindAll [] [] s) PG = PG s := rn_some
theorem u_allC {is : List Nat} : Rn (bindAll (i :: is) (r :: rs) s) PG = Rn (bindV i r s) fun s1 => Rn (bindAll is rs s1) PG := by
  show Rn ((bindV i r s).bind _) PG = _
  rw [rn_bind]
theorem u_for : Rn (wFor wi g ws s) PS = Rn (wi s) fun p => Rn (loopS g ws p.1 p.2) PS := by simp only [wFor, rn_bind]
def kLoop (g : WG) (b : WS) (ds : List Da) (p : Fl × S) : Option (Fl × S) := match p.1 with
  | .nx => loopS g b ds p.2
  | .ct => loopS g b ds p.2
  | .bk => some (.nx, p.2)
  | .rt v => some (.rt v, p.2)
theorem u_loopN : Rn (loopS g ws [] s) PS = PS (.nx, s) := rn_some
theorem u_loopC : Rn (loopS g ws (d :: ds) s) PS = Rn (g (.d d) s) fun s1 => Rn (ws s1) fun p => Rn (kLoop g ws ds p) PS := by
  show Rn ((g (.d d) s).bind fun s1 => (ws s1).bind (kLoop g ws ds)) PS = _
  simp only [rn_bind]
theorem k_loopN : kLoop g ws ds (.nx, s) = loopS g ws ds s := rfl
theorem k_loopR : kLoop g ws ds (.rt r, s) = some (.rt r, s) := rfl
theorem u_it : Rn (wIt a s) PI = Rn (a s) fun p => Rn (sto p.1 p.2) fun q => Rn (seqD q.1) fun ds => PI (ds, q.2) := by simp only [wIt, rn_bind, rn_some]
theorem u_stoD {PD : Da × S → Prop} : Rn (sto (.d d) s) PD = PD (d, s) := rn_some
theorem u_stoN {PD : Da × S → Prop} : Rn (sto (.n d) s) PD = PD (d, s) := rn_some
theorem u_stosN {PD : List Da × S → Prop} : Rn (stos [] s) PD = PD ([], s) := rn_some
theorem u_stosC {PD : List Da × S → Prop} : Rn (stos (r :: rs) s) PD = Rn (sto r s) fun p => Rn (stos rs p.2) fun q => PD (p.1 :: q.1, q.2) := by simp only [stos, rn_bind, rn_some]
def kRng (p : List RV × S) : Option (List Da × S) := match p.1 with
  | [.d (.int j)] => if small j = true then some (rngD 0 j.toNat, p.2) else none
  | _ => none
theorem u_range1 : Rn (wRange1 u s) PI = Rn (u s) fun p => Rn (kRng p) PI := by
  show Rn ((u s).bind _) PI = _
  rw [rn_bind]
  rfl
theorem k_rng {j : Int} (h : small j = true) : kRng ([.d (.int j)], s) = some (rngD 0 j.toNat, s) := by
  show (if small j = true then _ else _) = _
  rw [if_pos h]
def kEnum (q : List Da × S) : Option (List Da × S) := match q.1 with
  | [.lst ds] => some (enumD 0 ds, q.2)
  | _ => none
theorem u_enum : Rn (wEnum u s) PI = Rn (u s) fun p => Rn (stos p.1 p.2) fun q => Rn (kEnum q) PI := by
  show Rn ((u s).bind fun p => (stos p.1 p.2).bind kEnum) PI = _
  simp only [rn_bind]
theorem k_enum : kEnum ([.lst ds], s) = some (enumD 0 ds, s) := rfl
theorem u_lc {tt : WT} {e : WE} : Rn (wLc vs wi g tt e s) P = Rn (wi s) fun p => noOwn p.2 vs = true ∧ Rn (loopC vs g tt e p.1 (wipeS p.2 vs)) fun q => q.1.length ≤ 100000 ∧ P (.n (.lst q.1), backS p.2 vs q.2) := by simp only [wLc, rn_bind, rn_if, rn_some]
theorem u_lcN {tt : WT} {e : WE} : Rn (loopC vs g tt e [] s) PI = PI ([], s) := rn_some
theorem u_lcC {tt : WT} {e : WE} : Rn (loopC vs g tt e (d :: ds) s) PI = Rn (g (.d d) s) fun s1 => Rn (tt s1) fun p => Rn (if p.1 = true then (e p.2).bind fun q => (sto q.1 q.2).bind fun x => (loopC vs g tt e ds (wipeS x.2 vs)).bind fun z => some (x.1 :: z.1, z.2) else loopC vs g tt e ds (wipeS p.2 vs)) PI := by
  show Rn ((g (.d d) s).bind fun s1 => (tt s1).bind _) PI = _
  simp only [rn_bind]
theorem u_yes : Rn (wYes s) PT = PT (true, s) := rn_some
/-- calls -/
theorem u_call : Rn (wCall m ms W u s) P = Rn (u s) fun p => Rn (argsW ms p.1 p.2) fun q => q.1.length = m ∧ Rn (W q.1) fun r => Rn (backA q.2.1 r.2 q.2.2) fun s' => P (r.1, s') := by simp only [wCall, rn_bind, rn_if, rn_some]
variable {PQ : List SV × List (Option Nat) × S → Prop}
theorem u_argN : Rn (argsW [] [] s) PQ = PQ ([], [], s) := rn_some
theorem u_argD : Rn (argsW (false :: ms) (.d d :: rs) s) PQ = Rn (argsW ms rs s) fun q => PQ (.dat d :: q.1, none :: q.2.1, q.2.2) := by
  show Rn ((argsW ms rs s).bind _) PQ = _
  rw [rn_bind]
  simp only [rn_some]
theorem u_argM : Rn (argsW (false :: ms) (.n d :: rs) s) PQ = Rn (argsW ms rs s) fun q => PQ (.dat d :: q.1, none :: q.2.1, q.2.2) := by
  show Rn ((argsW ms rs s).bind _) PQ = _
  rw [rn_bind]
  simp only [rn_some]
theorem u_argO : Rn (argsW (false :: ms) (.o i :: rs) s) PQ = Rn (sto (.o i) s) fun p => Rn (argsW ms rs p.2) fun q => PQ (.dat p.1 :: q.1, none :: q.2.1, q.2.2) := by
  show Rn ((sto (.o i) s).bind _) PQ = _
  simp only [rn_bind, rn_some]
theorem u_argT : Rn (argsW (true :: ms) (.n d :: rs) s) PQ = Rn (argsW ms rs s) fun q => PQ (.own d :: q.1, none :: q.2.1, q.2.2) := by
  show Rn ((argsW ms rs s).bind _) PQ = _
  rw [rn_bind]
  simp only [rn_some]
theorem u_backN : Rn (backA [] as s) PG = PG s := by
  show Rn (some s) PG = _
  rw [rn_some]
theorem u_backC {x : SV} {mv : List (Option Nat)} : Rn (backA (none :: mv) (x :: as) s) PG = Rn (backA mv as s) PG := rfl
/-- a def -/
def kFn (m : Nat) (T : List Nat) (p : Fl × S) : Option (RV × S) := match p.1 with
  | .nx => some (.d .non, (wipeS p.2 T).take m)
  | .rt r => (retV m r p.2).bind fun q => some (q.1, (wipeS q.2 T).take m)
  | _ => none
theorem u_fn : Rn (fnW n m T ws as) P = (as.length = m ∧ Rn (ws (as ++ List.replicate (n - m) SV.un)) fun p => Rn (kFn m T p) P) := by
  show Rn (if as.length = m then ((ws _).bind (kFn m T)) else none) P = _
  simp only [rn_if, rn_bind]
theorem k_fnN : kFn m T (.nx, s) = some (.d .non, (wipeS s T).take m) := rfl
theorem k_fnD : kFn m T (.rt (.d d), s) = some (.d d, (wipeS s T).take m) := rfl
theorem k_fnNew : kFn m T (.rt (.n d), s) = some (.n d, (wipeS s T).take m) := rfl
theorem k_fnO : Rn (kFn m T (.rt (.o i), s)) P = Rn (retV m (.o i) s) fun q => P (q.1, (wipeS q.2 T).take m) := by
  show Rn ((retV m (.o i) s).bind _) P = _
  rw [rn_bind]
  simp only [rn_some]
/-- targets -/
theorem u_gtupD : Rn (wgTup n gs (.d (.tup ds)) s) PG = (ds.length = n ∧ Rn (gs (ds.map RV.d) s) PG) := rn_if
theorem u_gtupT : Rn (wgTup n gs (.t rs) s) PG = (rs.length = n ∧ Rn (prep rs s) fun p => Rn (gs p.1 p.2) PG) := by
  show Rn (if rs.length = n then ((prep rs s).bind fun p => gs p.1 p.2) else none) PG = _
  simp only [rn_if, rn_bind]
theorem u_gtupN : Rn (wgTup n gs (.n (.lst ds)) s) PG = (ds.length = n ∧ Rn (gs (ds.map RV.d) s) PG) := rn_if
theorem u_gtupL : Rn (wgTup n gs (.d (.lst ds)) s) PG = (ds.length = n ∧ Rn (gs (ds.map RV.d) s) PG) := rn_if
theorem u_gN : Rn (wgNil [] s) PG = PG s := rn_some
theorem u_gC : Rn (wgCons g gs (r :: rs) s) PG = Rn (g r s) fun s1 => Rn (gs rs s1) PG := by
  show Rn ((g r s).bind _) PG = _
  rw [rn_bind]
def kSubL (i : Nat) (r : RV) (p : RV × S) : Option S := match p.1 with
  | .d (.int k) => (sto r p.2).bind fun q => (ownL q.2 i).bind fun ds => (ixN ds.length k).bind fun j => some (q.2.set i (.own (.lst (ds.set j q.1))))
  | _ => none
theorem u_subL (h : ownL s i = some ds) : Rn (wgSub i a r s) PG = Rn (a s) fun p => Rn (kSubL i r p) PG := by
  have : wgSub i a r s = (a s).bind (kSubL i r) := by
    unfold wgSub
    rw [h]
    show (ownL s i).bind _ = _
    rw [h]
    rfl
  rw [this, rn_bind]
theorem k_subL {k : Int} : Rn (kSubL i r (.d (.int k), s)) PG = Rn (sto r s) fun q => Rn (ownL q.2 i) fun ds => Rn (ixN ds.length k) fun j => PG (q.2.set i (.own (.lst (ds.set j q.1)))) := by
  show Rn ((sto r s).bind fun q => (ownL q.2 i).bind fun ds => (ixN ds.length k).bind _) PG = _
  simp only [rn_bind, rn_some]
theorem u_meth : Rn (wMeth i M u s) P = Rn (ownL s i) fun _ => Rn (u s) fun p => Rn (M i p.1 p.2) P := by simp only [wMeth, rn_bind]
theorem u_append : Rn (fAppend i [r] s) P = Rn (sto r s) fun p => Rn (ownL p.2 i) fun ds => ds.length < 100000 ∧ P (.d .non, p.2.set i (.own (.lst (ds ++ [p.1])))) := by
  show Rn ((sto r s).bind fun p => (ownL p.2 i).bind fun ds => if ds.length < 100000 then _ else none) P = _
  simp only [rn_bind, rn_if, rn_some]
theorem u_popAt {k : Int} : Rn (fPopAt i [.d (.int k)] s) P = Rn (ownL s i) fun ds => Rn (seqIndex? k ds.length) fun j => Rn (ds[j]?) fun d => (decide (-(2 ^ 63) ≤ k) && decide (k < 2 ^ 63)) = true ∧ P (.d d, s.set i (.own (.lst (ds.eraseIdx j)))) := by
  show Rn ((ownL s i).bind fun ds => (seqIndex? k ds.length).bind fun j => (ds[j]?).bind fun d => if (decide (-(2 ^ 63) ≤ k) && decide (k < 2 ^ 63)) = true then _ else none) P = _
  simp only [rn_bind, rn_if, rn_some]
end
section
variable {i j k : Int} {s : S} {ds : List Da} {d e f : Da} {n : Nat} {b : Bool} {x y z : Str}
theorem e_addI : fAdd (.d (.int i)) (.d (.int j)) s = some (.d (.int (i + j)), s) := rfl
theorem e_subI : fSub (.d (.int i)) (.d (.int j)) s = some (.d (.int (i - j)), s) := rfl
theorem e_modI (h : 0 < j) : fMod (.d (.int i)) (.d (.int j)) s = some (.d (.int (i % j)), s) := by
  show (if cMod i j = true then _ else _) = _
  rw [if_pos (show cMod i j = true from decide_eq_true h)]
theorem log_lt {j : Int} (h : 0 < j) (h2 : j < 2 ^ 64) : j.natAbs.log2 < 9000 := by
  have h1 : j.natAbs < 2 ^ 64 := by omega
  have h0 : j.natAbs ≠ 0 := by omega
  have := (Nat.log2_lt h0).mpr h1
  omega
theorem e_divI (h : 0 < j) (h2 : j < 2 ^ 64) : fDiv (.d (.int i)) (.d (.int j)) s = some (.d (.int (i / j)), s) := by
  show (if cDiv i j = true then _ else _) = _
  rw [if_pos (by unfold cDiv; rw [decide_eq_true h, decide_eq_true (log_lt h h2)]; rfl)]
theorem e_powI (h : 0 ≤ j) (h1 : j ≤ 1000000) (h2 : 0 ≤ i) (h3 : i < 2 ^ 64) : fPow (.d (.int i)) (.d (.int j)) s = some (.d (.int (i ^ j.toNat)), s) := by
  show (if cPow i j = true then _ else _) = _
  rw [if_pos (by unfold cPow; rw [decide_eq_true h, decide_eq_true h1, decide_eq_true (show i.natAbs < 2 ^ 64 by omega)]; rfl)]
theorem e_mulI (h : 0 ≤ j) (h2 : j < 2 ^ 64) : fMul (.d (.int i)) (.d (.int j)) s = some (.d (.int (i * j)), s) := by
  show (if cMul i j = true then _ else _) = _
  rw [if_pos (by unfold cMul; rw [decide_eq_true (show -(2 ^ 64) < j by omega), decide_eq_true h2]; simp)]
theorem e_ltI : fLtA (.d (.int i)) (.d (.int j)) s = some (.d (.bl (decide (i < j))), s) := rfl
theorem e_leI : fLeA (.d (.int i)) (.d (.int j)) s = some (.d (.bl (decide (i ≤ j))), s) := rfl
theorem e_gtI : fGtA (.d (.int i)) (.d (.int j)) s = some (.d (.bl (decide (j < i))), s) := rfl
theorem e_geI : fGeA (.d (.int i)) (.d (.int j)) s = some (.d (.bl (decide (j ≤ i))), s) := rfl
theorem e_eqI : fEq false (.d (.int i)) (.d (.int j)) s = some (.d (.bl (decide (i = j))), s) := by
  have : eqD (.int i) (.int j) = decide (i = j) := by
    show PyData.eqv (.int i) (.int j) = _
    rfl
  show some (RV.d (.bl (eqD (.int i) (.int j))), s) = _
  rw [this]
theorem e_neI : fEq true (.d (.int i)) (.d (.int j)) s = some (.d (.bl (!decide (i = j))), s) := by
  have : eqD (.int i) (.int j) = decide (i = j) := by
    show PyData.eqv (.int i) (.int j) = _
    rfl
  show some (RV.d (.bl (!eqD (.int i) (.int j))), s) = _
  rw [this]
theorem e_abs : fAbs (.d (.int i)) s = some (.d (.int (if i < 0 then -i else i)), s) := rfl
theorem e_intI : fInt (.d (.int i)) s = some (.d (.int i), s) := rfl
theorem e_intB : fInt (.d (.bl b)) s = some (.d (.int (if b then 1 else 0)), s) := rfl
/-- x[k] -/
def ixR (ds : List Da) (k : Int) (s : S) : Option (RV × S) := match atI ds k with
  | some d => some (.d d, s)
  | none => none
theorem orF_some {F G : F2} {a b : RV} {p : RV × S} (h : F a b s = some p) : orF F G a b s = some p := by
  unfold orF
  rw [h]
theorem orF_none {F G : F2} {a b : RV} (h : F a b s = none) : orF F G a b s = G a b s := by
  unfold orF
  rw [h]
theorem e_ixG {a : RV} {t : Bool} (hi : its s a = some (t, ds)) (h : atI ds k = some d) (ha : ∀ rs, a ≠ .l rs) (hb : ∀ z, a ≠ .d (.str z)) (hc : ∀ z, a ≠ .d (.scr z)) : fIxA a (.d (.int k)) s = some (.d d, s) := by
  refine orF_some ?_
  unfold fIx
  cases a with
  | d d0 =>
    cases d0 with
    | str z => exact absurd rfl (hb z)
    | scr z => exact absurd rfl (hc z)
    | _ => simp only [hi, h]
  | l rs => exact absurd rfl (ha rs)
  | _ => simp only [hi, h]
theorem e_ixO {o : Nat} (ho : s[o]? = some (SV.own (.lst ds))) (h : atI ds k = some d) : fIxA (.o o) (.d (.int k)) s = some (.d d, s) := e_ixG (t := false) (by simp only [its, ho]) h (fun _ z => nomatch z) (fun _ z => nomatch z) fun _ z => nomatch z
theorem e_ixD (h : atI ds k = some d) : fIxA (.d (.lst ds)) (.d (.int k)) s = some (.d d, s) := e_ixG (t := false) rfl h (fun _ z => nomatch z) (fun _ z => nomatch z) fun _ z => nomatch z
theorem e_ixN (h : atI ds k = some d) : fIxA (.n (.lst ds)) (.d (.int k)) s = some (.d d, s) := e_ixG (t := false) rfl h (fun _ z => nomatch z) (fun _ z => nomatch z) fun _ z => nomatch z
theorem e_ixT (h : atI ds k = some d) : fIxA (.d (.tup ds)) (.d (.int k)) s = some (.d d, s) := e_ixG (t := true) rfl h (fun _ z => nomatch z) (fun _ z => nomatch z) fun _ z => nomatch z
theorem e_ixS (h : atI ds k = some d) : fIxA (.d (.scr ds)) (.d (.int k)) s = some (.d d, s) := orF_some (by unfold fIx; simp only [h])
theorem e_ixX {c : Nat} (h : atI z.cps.toList k = some c) : fIxA (.d (.str z)) (.d (.int k)) s = some (.d (.str ⟨#[c]⟩), s) := orF_some (by unfold fIx; simp only [h])
theorem fIxT_int {a : RV} : fIxT a (.d (.int k)) s = none := by
  unfold fIxT
  split
  · rename_i heq
    cases heq
  · rfl
theorem u_ixG {P : RV × S → Prop} {a : RV} {t : Bool} (hi : its s a = some (t, ds)) (hd : dctD s a = none) (ha : ∀ rs, a ≠ .l rs) (hb : ∀ z, a ≠ .d (.str z)) (hc : ∀ z, a ≠ .d (.scr z)) : Rn (fIxA a (.d (.int k)) s) P = Rn (atI ds k) fun d => P (.d d, s) := by
  cases h : atI ds k with
  | some d => rw [e_ixG hi h ha hb hc, rn_some, rn_some]
  | none =>
    have h1 : fIx a (.d (.int k)) s = none := by
      unfold fIx
      cases a with
      | d d0 =>
        cases d0 with
        | str z => exact absurd rfl (hb z)
        | scr z => exact absurd rfl (hc z)
        | _ => simp only [hi, h]
      | l rs => exact absurd rfl (ha rs)
      | _ => simp only [hi, h]
    have h2 : fIxD a (.d (.int k)) s = none := by
      unfold fIxD
      rw [hd]
      rfl
    rw [show fIxA a (.d (.int k)) s = none from (orF_none h1).trans ((orF_none h2).trans fIxT_int), rn_none, rn_none]
theorem u_ixD {P : RV × S → Prop} : Rn (fIxA (.d (.lst ds)) (.d (.int k)) s) P = Rn (atI ds k) fun d => P (.d d, s) := u_ixG (t := false) rfl rfl (fun _ z => nomatch z) (fun _ z => nomatch z) fun _ z => nomatch z
theorem u_ixN {P : RV × S → Prop} : Rn (fIxA (.n (.lst ds)) (.d (.int k)) s) P = Rn (atI ds k) fun d => P (.d d, s) := u_ixG (t := false) rfl rfl (fun _ z => nomatch z) (fun _ z => nomatch z) fun _ z => nomatch z
theorem u_ixT {P : RV × S → Prop} : Rn (fIxA (.d (.tup ds)) (.d (.int k)) s) P = Rn (atI ds k) fun d => P (.d d, s) := u_ixG (t := true) rfl rfl (fun _ z => nomatch z) (fun _ z => nomatch z) fun _ z => nomatch z
theorem u_ixO {P : RV × S → Prop} {o : Nat} (ho : s[o]? = some (SV.own (.lst ds))) : Rn (fIxA (.o o) (.d (.int k)) s) P = Rn (atI ds k) fun d => P (.d d, s) := u_ixG (t := false) (by simp only [its, ho]) (by simp only [dctD, ho]) (fun _ z => nomatch z) (fun _ z => nomatch z) fun _ z => nomatch z
theorem u_ixS {P : RV × S → Prop} : Rn (fIxA (.d (.scr ds)) (.d (.int k)) s) P = Rn (atI ds k) fun d => P (.d d, s) := by
  cases h : atI ds k with
  | some d => rw [e_ixS h, rn_some, rn_some]
  | none =>
    have h1 : fIx (.d (.scr ds)) (.d (.int k)) s = none := by
      unfold fIx
      simp only [h]
    rw [show fIxA (.d (.scr ds)) (.d (.int k)) s = none from (orF_none h1).trans ((orF_none rfl).trans fIxT_int), rn_none, rn_none]
theorem u_ixX {P : RV × S → Prop} : Rn (fIxA (.d (.str z)) (.d (.int k)) s) P = Rn (atI z.cps.toList k) fun c => P (.d (.str ⟨#[c]⟩), s) := by
  cases h : atI z.cps.toList k with
  | some d => rw [e_ixX h, rn_some, rn_some]
  | none =>
    have h1 : fIx (.d (.str z)) (.d (.int k)) s = none := by
      unfold fIx
      simp only [h]
    rw [show fIxA (.d (.str z)) (.d (.int k)) s = none from (orF_none h1).trans ((orF_none rfl).trans fIxT_int), rn_none, rn_none]
theorem at_nat {α : Type} {l : List α} {n : Nat} (h : n < l.length) : atI l (n : Int) = l[n]? := by
  unfold atI ixN
  rw [if_pos (by omega), if_pos (by omega), Option.bind_some]
  simp
theorem e_at0 {α : Type} {a : α} {l : List α} : atI (a :: l) 0 = some a := at_nat (n := 0) (by simp)
theorem e_at1 {α : Type} {a b : α} {l : List α} : atI (a :: b :: l) 1 = some b := at_nat (n := 1) (by simp)
theorem e_at2 {α : Type} {a b c : α} {l : List α} : atI (a :: b :: c :: l) 2 = some c := at_nat (n := 2) (by simp)
theorem e_ixN0 {n : Nat} : ixN (n + 1) 0 = some 0 := by
  unfold ixN
  rw [if_pos (by omega), if_pos (by omega)]
  rfl
theorem u_mod {P : RV × S → Prop} : Rn (fMod (.d (.int i)) (.d (.int j)) s) P = (0 < j ∧ P (.d (.int (i % j)), s)) := by
  show Rn (if cMod i j = true then some (RV.d (.int (i % j)), s) else none) P = _
  rw [rn_if, rn_some]
  unfold cMod
  rw [decide_eq_true_eq]
theorem u_div {P : RV × S → Prop} : Rn (fDiv (.d (.int i)) (.d (.int j)) s) P = (cDiv i j = true ∧ P (.d (.int (i / j)), s)) := by
  show Rn (if cDiv i j = true then some (RV.d (.int (i / j)), s) else none) P = _
  rw [rn_if, rn_some]
theorem u_pow {P : RV × S → Prop} : Rn (fPow (.d (.int i)) (.d (.int j)) s) P = (cPow i j = true ∧ P (.d (.int (i ^ j.toNat)), s)) := by
  show Rn (if cPow i j = true then some (RV.d (.int (i ^ j.toNat)), s) else none) P = _
  rw [rn_if, rn_some]
theorem u_mul {P : RV × S → Prop} : Rn (fMul (.d (.int i)) (.d (.int j)) s) P = (cMul i j = true ∧ P (.d (.int (i * j)), s)) := by
  show Rn (if cMul i j = true then some (RV.d (.int (i * j)), s) else none) P = _
  rw [rn_if, rn_some]
theorem c_div (h : 0 < j) (h2 : j < 2 ^ 64) : cDiv i j = true := by unfold cDiv; rw [decide_eq_true h, decide_eq_true (log_lt h h2)]; rfl
theorem c_pow (h : 0 ≤ j) (h1 : j ≤ 1000000) (h2 : 0 ≤ i) (h3 : i < 2 ^ 64) : cPow i j = true := by unfold cPow; rw [decide_eq_true h, decide_eq_true h1, decide_eq_true (show i.natAbs < 2 ^ 64 by omega)]; rfl
theorem c_mul (h : -(2 ^ 64) < j) (h2 : j < 2 ^ 64) : cMul i j = true := by unfold cMul; rw [decide_eq_true h, decide_eq_true h2]; simp
theorem c_mulL (h : -(2 ^ 64) < i) (h2 : i < 2 ^ 64) : cMul i j = true := by unfold cMul; rw [decide_eq_true h, decide_eq_true h2]; simp
theorem u_lenX {P : RV × S → Prop} : Rn (fLen (.d (.str z)) s) P = P (.d (.int (z.length : Nat)), s) := rn_of (by rfl)
theorem u_lenL {P : RV × S → Prop} : Rn (fLen (.d (.lst ds)) s) P = P (.d (.int (ds.length : Nat)), s) := rn_of (by rfl)
theorem u_lenT {P : RV × S → Prop} : Rn (fLen (.d (.tup ds)) s) P = P (.d (.int (ds.length : Nat)), s) := rn_of (by rfl)
theorem u_lenC {P : RV × S → Prop} : Rn (fLen (.d (.scr ds)) s) P = P (.d (.int (ds.length : Nat)), s) := rn_of (by rfl)
theorem u_lenN {P : RV × S → Prop} : Rn (fLen (.n (.lst ds)) s) P = P (.d (.int (ds.length : Nat)), s) := rn_of (by rfl)
theorem u_addS {P : RV × S → Prop} : Rn (fAdd (.d (.str x)) (.d (.str y)) s) P = (x.length + y.length ≤ 100000 ∧ P (.d (.str (x ++ y)), s)) := by
  show Rn (if x.length + y.length ≤ 100000 then some (RV.d (.str (x ++ y)), s) else none) P = _
  rw [rn_if, rn_some]
theorem u_isiD {P : RV × S → Prop} {Ts : List String} : Rn (kIsi Ts (.d d, s)) P = (isOk d = true ∧ P (.d (.bl (Ts.any fun T => isA T d)), s)) := by
  show Rn (if isOk d = true then some (RV.d (.bl (Ts.any fun T => isA T d)), s) else none) P = _
  rw [rn_if, rn_some]
theorem u_isiN {P : RV × S → Prop} {Ts : List String} : Rn (kIsi Ts (.n d, s)) P = (isOk d = true ∧ P (.d (.bl (Ts.any fun T => isA T d)), s)) := by
  show Rn (if isOk d = true then some (RV.d (.bl (Ts.any fun T => isA T d)), s) else none) P = _
  rw [rn_if, rn_some]
def kZip (q : List Da × S) : Option (List Da × S) := match q.1 with
  | [.lst as, .lst bs] => some (zipD as bs, q.2)
  | [.tup as, .tup bs] => some (zipD as bs, q.2)
  | [.tup as, .lst bs] => some (zipD as bs, q.2)
  | _ => none
theorem u_zip {u : WA} {PI : List Da × S → Prop} : Rn (wZip u s) PI = Rn (u s) fun p => Rn (stos p.1 p.2) fun q => Rn (kZip q) PI := by
  show Rn ((u s).bind fun p => (stos p.1 p.2).bind kZip) PI = _
  simp only [rn_bind]
theorem k_zipLL {as bs : List Da} : kZip ([.lst as, .lst bs], s) = some (zipD as bs, s) := rfl
theorem k_zipTT {as bs : List Da} : kZip ([.tup as, .tup bs], s) = some (zipD as bs, s) := rfl
theorem k_zipTL {as bs : List Da} : kZip ([.tup as, .lst bs], s) = some (zipD as bs, s) := rfl
theorem e_eqB {c : Bool} : fEq false (.d (.bl b)) (.d (.bl c)) s = some (.d (.bl (b == c)), s) := by cases b <;> cases c <;> rfl
theorem e_neB {c : Bool} : fEq true (.d (.bl b)) (.d (.bl c)) s = some (.d (.bl (b != c)), s) := by cases b <;> cases c <;> rfl
theorem e_eqX : fEq false (.d (.str x)) (.d (.str y)) s = some (.d (.bl (decide (x = y))), s) := by
  have h1 : eqOk (.str x) (.str y) = true := rfl
  show (if eqOk (.str x) (.str y) = true then some (RV.d (.bl (eqD (.str x) (.str y))), s) else none) = _
  rw [if_pos h1]
  have : eqD (.str x) (.str y) = decide (x = y) := by
    show PyData.eqv (.str x) (.str y) = _
    simp only [PyData.eqv]
    by_cases h : x = y
    · subst h
      simp
    · simp [h]
  rw [this]
theorem bls_map : ∀ bs : List Bool, blsD (bs.map Da.bl) = some bs
  | [] => rfl
  | b :: bs => by
    show (blsD (bs.map Da.bl)).bind _ = _
    rw [bls_map bs]
    rfl
theorem e_all {bs : List Bool} {ds : List Da} (h : ds = bs.map Da.bl) : fOfL blsD (fun l => .bl (l.all id)) (.n (.lst ds)) s = some (.d (.bl (bs.all id)), s) := by
  subst h
  unfold fOfL
  simp only [its, bls_map]
theorem u_all {P : RV × S → Prop} : Rn (fOfL blsD (fun l => .bl (l.all id)) (.n (.lst ds)) s) P = Rn (blsD ds) fun l => P (.d (.bl (l.all id)), s) := by
  unfold fOfL
  simp only [its]
  cases blsD ds with
  | none => simp only [rn_none]
  | some l => simp only [rn_some]
theorem e_isN : fIs false (.d d) (.d .non) s = some (.d (.bl (isNo d)), s) := rfl
theorem e_isNot : fIs true (.d d) (.d .non) s = some (.d (.bl (!isNo d)), s) := rfl
theorem u_mulT {P : RV × S → Prop} : Rn (fMul (.d (.tup ds)) (.d (.int j)) s) P = ((decide (0 ≤ j) && decide (j ≤ 1000) && decide (ds.length ≤ 1000) && decide (0 < ds.length)) = true ∧ P (.d (.tup (List.replicate j.toNat ds).flatten), s)) := by
  show Rn (if (decide (0 ≤ j) && decide (j ≤ 1000) && decide (ds.length ≤ 1000) && decide (0 < ds.length)) = true then some (RV.d (.tup (List.replicate j.toNat ds).flatten), s) else none) P = _
  rw [rn_if, rn_some]
theorem u_addT {P : RV × S → Prop} {es : List Da} : Rn (fAdd (.d (.tup ds)) (.d (.tup es)) s) P = (ds.length + es.length ≤ 100000 ∧ P (.d (.tup (ds ++ es)), s)) := by
  show Rn (if ds.length + es.length ≤ 100000 then some (RV.d (.tup (ds ++ es)), s) else none) P = _
  rw [rn_if, rn_some]
theorem u_addO {P : RV × S → Prop} {es : List Da} {o : Nat} (ho : s[o]? = some (SV.own (.lst ds))) : Rn (fAdd (.o o) (.n (.lst es)) s) P = (ds.length + es.length ≤ 100000 ∧ P (.n (.lst (ds ++ es)), s)) := by
  have hi : its s (.o o) = some (false, ds) := by simp only [its, ho]
  have hj : its s (.n (.lst es)) = some (false, es) := rfl
  show Rn (match its s (.o o), its s (.n (.lst es)) with
    | some (false, xs), some (false, ys) => if xs.length + ys.length ≤ 100000 then some (RV.n (.lst (xs ++ ys)), s) else none
    | some (true, xs), some (true, ys) => if xs.length + ys.length ≤ 100000 then some (RV.d (.tup (xs ++ ys)), s) else none
    | _, _ => none) P = _
  simp only [hi, hj, rn_if, rn_some]
theorem u_listT {P : RV × S → Prop} : Rn (fListA (.d (.tup ds)) s) P = P (.n (.lst ds), s) := rn_of (by rfl)
theorem u_listL {P : RV × S → Prop} : Rn (fListA (.d (.lst ds)) s) P = P (.n (.lst ds), s) := rn_of (by rfl)
theorem u_slT {P : RV × S → Prop} {lo hi : Option Int} : Rn (fSl (.d (.tup ds)) lo hi s) P = P (.d (.tup (cutD ds lo hi)), s) := rn_of (by rfl)
theorem cut_1 : cutD (d :: ds) none (some 1) = [d] := by
  unfold cutD
  have h1 : HT.sIx (d :: ds).length (d :: ds).length (some 1) = min 1 (d :: ds).length := HT.sIx_nat _ _ 1
  rw [HT.sIx_none, h1]
  simp
theorem u_stoT {PD : Da × S → Prop} {rs : List RV} : Rn (sto (.t rs) s) PD = Rn (stos rs s) fun p => PD (.tup p.1, p.2) := by
  simp only [sto, rn_bind, rn_some]
theorem u_stoL {PD : Da × S → Prop} {rs : List RV} : Rn (sto (.l rs) s) PD = Rn (stos rs s) fun p => PD (.lst p.1, p.2) := by
  simp only [sto, rn_bind, rn_some]
theorem u_frz {P : RV × S → Prop} {w : WE} : Rn (wFrz w s) P = Rn (w s) fun p => Rn (sto p.1 p.2) fun q => P (.d q.1, q.2) := by
  simp only [wFrz, rn_bind, rn_some]
theorem u_neg {P : RV × S → Prop} {w : WE} : Rn (wNeg w s) P = Rn (w s) fun p => Rn (kInt p) fun q => Rn q.1 fun i => P (.d (.int (-i)), q.2) := by
  unfold wNeg
  rw [rn_bind]
  refine congrArg _ (funext fun p => ?_)
  obtain ⟨r, s1⟩ := p
  unfold kInt
  cases r with
  | d d =>
    cases d with
    | int i => simp only [rn_some]
    | _ => simp only [rn_none]
  | _ => simp only [rn_none]
theorem cp6 : cPow 10 6 = true := by decide +kernel
def kDc (vs : List Nat) (g : WG) (t : WT) (k e : WE) (r : List Da) (acc : List (Da × Da)) (q : RV × S) : Option (List (Da × Da) × S) := match q.1 with
  | .d kd => (toKey kd).bind fun kk => (e q.2).bind fun z => (sto z.1 z.2).bind fun u => if acc.length < 100000 then loopD vs g t k e r (putD acc kk u.1) (wipeS u.2 vs) else none
  | _ => none
section
variable {vs : List Nat} {g : WG} {t : WT} {ke ve : WE} {acc : List (Da × Da)} {PP : List (Da × Da) × S → Prop} {wi : WI}
theorem u_dc {P : RV × S → Prop} : Rn (wDc vs wi g t ke ve s) P = Rn (wi s) fun p => noOwn p.2 vs = true ∧ Rn (loopD vs g t ke ve p.1 [] (wipeS p.2 vs)) fun q => P (.n (.dct q.1), backS p.2 vs q.2) := by simp only [wDc, rn_bind, rn_if, rn_some]
theorem u_dcN : Rn (loopD vs g t ke ve [] acc s) PP = PP (acc, s) := rn_some
theorem u_dcC : Rn (loopD vs g t ke ve (d :: ds) acc s) PP = Rn (g (.d d) s) fun s1 => Rn (t s1) fun p => Rn (if p.1 = true then (ke p.2).bind (kDc vs g t ke ve ds acc) else loopD vs g t ke ve ds acc (wipeS p.2 vs)) PP := by
  show Rn ((g (.d d) s).bind fun s1 => (t s1).bind fun p => if p.1 = true then (ke p.2).bind (kDc vs g t ke ve ds acc) else loopD vs g t ke ve ds acc (wipeS p.2 vs)) PP = _
  simp only [rn_bind]
theorem k_dcX : Rn (kDc vs g t ke ve ds acc (.d (.str x), s)) PP = Rn (ve s) fun z => Rn (sto z.1 z.2) fun u => acc.length < 100000 ∧ Rn (loopD vs g t ke ve ds (putD acc (.inr x) u.1) (wipeS u.2 vs)) PP := by
  show Rn ((ve s).bind fun z => (sto z.1 z.2).bind fun u => if acc.length < 100000 then loopD vs g t ke ve ds (putD acc (.inr x) u.1) (wipeS u.2 vs) else none) PP = _
  simp only [rn_bind, rn_if]
end
theorem u_turn {u : WA} {PA : List RV × S → Prop} : Rn (wTurn b u s) PA = Rn (u s) fun p => PA (turnL b p.1, p.2) := by
  simp only [wTurn, rn_bind, rn_some]
theorem turn_f {α : Type} {l : List α} : turnL false l = l := rfl
theorem turn_t {α : Type} {l : List α} : turnL true l = l.reverse := rfl
theorem u_argL {ms : List Bool} {l rs : List RV} {PQ : List SV × List (Option Nat) × S → Prop} : Rn (argsW (false :: ms) (.l l :: rs) s) PQ = Rn (sto (.l l) s) fun p => Rn (argsW ms rs p.2) fun q => PQ (.dat p.1 :: q.1, none :: q.2.1, q.2.2) := by
  show Rn ((sto (.l l) s).bind _) PQ = _
  simp only [rn_bind, rn_some]
theorem u_argV {ms : List Bool} {l rs : List RV} {PQ : List SV × List (Option Nat) × S → Prop} : Rn (argsW (false :: ms) (.t l :: rs) s) PQ = Rn (sto (.t l) s) fun p => Rn (argsW ms rs p.2) fun q => PQ (.dat p.1 :: q.1, none :: q.2.1, q.2.2) := by
  show Rn ((sto (.t l) s).bind _) PQ = _
  simp only [rn_bind, rn_some]
theorem cast0 : ((0 : Nat) : Int) = 0 := rfl
theorem cast1 : ((1 : Nat) : Int) = 1 := rfl
theorem e_ix30 : ixN 3 0 = some 0 := rfl
theorem e_ix32 : ixN 3 2 = some 2 := rfl
theorem e_len {o : RV} {m : Nat} (h : dv s o = some d) (k : lenOf d = some m) : fLen o s = some (.d (.int m), s) := by
  unfold fLen
  simp only [h, k]
end
section
variable {d : Da} {ds : List Da} {s : S} {P : RV × S → Prop} {G : S → Prop} {T : Da × S → Prop} {L : List Da → Prop} {A : List SV × List (Option Nat) × S → Prop}
theorem rv0 : Rn (wVar 0 (.dat d :: s)) P = P (.d d, .dat d :: s) := rn_of (by rfl)
theorem ro0 : Rn (wVar 0 (.own d :: s)) P = P (.o 0, .own d :: s) := rn_of (by rfl)
theorem rb0 {x : SV} : Rn (bindV 0 (.d d) (x :: s)) G = G (.dat d :: s) := rn_of (by rfl)
theorem rn0 {x : SV} : Rn (bindV 0 (.n d) (x :: s)) G = G (.own d :: s) := rn_of (by rfl)
theorem rs0 : Rn (sto (.o 0) (.own d :: s)) T = T (d, .dat d :: s) := rn_of (by rfl)
theorem rl0 : Rn (ownL (.own (.lst ds) :: s) 0) L = L ds := rn_of (by rfl)
theorem ra0 {ms : List Bool} {rs : List RV} : Rn (argsW (true :: ms) (.o 0 :: rs) (.own d :: s)) A = Rn (argsW ms rs (.un :: s)) fun q => A (.own d :: q.1, some 0 :: q.2.1, q.2.2) := by show Rn ((argsW ms rs (.un :: s)).bind _) A = _; rw [rn_bind]; simp only [rn_some]
theorem rk0 {x : SV} {mv : List (Option Nat)} {as : List SV} : Rn (backA (some 0 :: mv) (.own d :: as) (x :: s)) G = Rn (backA mv as (.own d :: s)) G := rfl
theorem rx0 {k : Int} : Rn (fIxA (.o 0) (.d (.int k)) (.own (.lst ds) :: s)) P = Rn (atI ds k) fun d => P (.d d, .own (.lst ds) :: s) := u_ixO rfl
theorem rg0 {w : WE} {r : RV} : Rn (wgSub 0 w r (.own (.lst ds) :: s)) G = Rn (w (.own (.lst ds) :: s)) fun p => Rn (kSubL 0 r p) G := u_subL (ds := ds) rfl
theorem rh0 : Rn (fLen (.o 0) (.own (.lst ds) :: s)) P = P (.d (.int (ds.length : Nat)), .own (.lst ds) :: s) := rn_of (by rfl)
theorem rp0 {es : List Da} : Rn (fAdd (.o 0) (.n (.lst es)) (.own (.lst ds) :: s)) P = (ds.length + es.length ≤ 100000 ∧ P (.n (.lst (ds ++ es)), .own (.lst ds) :: s)) := u_addO rfl
theorem ri0 {x : SV} : (x :: s)[0]? = some x := rfl
theorem rt0 {x y : SV} : List.set (x :: s) 0 y = y :: s := rfl
theorem rv1 {a0 : SV} : Rn (wVar 1 (a0 :: .dat d :: s)) P = P (.d d, a0 :: .dat d :: s) := rn_of (by rfl)
theorem ro1 {a0 : SV} : Rn (wVar 1 (a0 :: .own d :: s)) P = P (.o 1, a0 :: .own d :: s) := rn_of (by rfl)
theorem rb1 {x : SV} {a0 : SV} : Rn (bindV 1 (.d d) (a0 :: x :: s)) G = G (a0 :: .dat d :: s) := rn_of (by rfl)
theorem rn1 {x : SV} {a0 : SV} : Rn (bindV 1 (.n d) (a0 :: x :: s)) G = G (a0 :: .own d :: s) := rn_of (by rfl)
theorem rs1 {a0 : SV} : Rn (sto (.o 1) (a0 :: .own d :: s)) T = T (d, a0 :: .dat d :: s) := rn_of (by rfl)
theorem rl1 {a0 : SV} : Rn (ownL (a0 :: .own (.lst ds) :: s) 1) L = L ds := rn_of (by rfl)
theorem ra1 {ms : List Bool} {rs : List RV} {a0 : SV} : Rn (argsW (true :: ms) (.o 1 :: rs) (a0 :: .own d :: s)) A = Rn (argsW ms rs (a0 :: .un :: s)) fun q => A (.own d :: q.1, some 1 :: q.2.1, q.2.2) := by show Rn ((argsW ms rs (a0 :: .un :: s)).bind _) A = _; rw [rn_bind]; simp only [rn_some]
theorem rk1 {x : SV} {mv : List (Option Nat)} {as : List SV} {a0 : SV} : Rn (backA (some 1 :: mv) (.own d :: as) (a0 :: x :: s)) G = Rn (backA mv as (a0 :: .own d :: s)) G := rfl
theorem rx1 {k : Int} {a0 : SV} : Rn (fIxA (.o 1) (.d (.int k)) (a0 :: .own (.lst ds) :: s)) P = Rn (atI ds k) fun d => P (.d d, a0 :: .own (.lst ds) :: s) := u_ixO rfl
theorem rg1 {w : WE} {r : RV} {a0 : SV} : Rn (wgSub 1 w r (a0 :: .own (.lst ds) :: s)) G = Rn (w (a0 :: .own (.lst ds) :: s)) fun p => Rn (kSubL 1 r p) G := u_subL (ds := ds) rfl
theorem rh1 {a0 : SV} : Rn (fLen (.o 1) (a0 :: .own (.lst ds) :: s)) P = P (.d (.int (ds.length : Nat)), a0 :: .own (.lst ds) :: s) := rn_of (by rfl)
theorem rp1 {es : List Da} {a0 : SV} : Rn (fAdd (.o 1) (.n (.lst es)) (a0 :: .own (.lst ds) :: s)) P = (ds.length + es.length ≤ 100000 ∧ P (.n (.lst (ds ++ es)), a0 :: .own (.lst ds) :: s)) := u_addO rfl
theorem ri1 {x : SV} {a0 : SV} : (a0 :: x :: s)[1]? = some x := rfl
theorem rt1 {x y : SV} {a0 : SV} : List.set (a0 :: x :: s) 1 y = a0 :: y :: s := rfl
theorem rv2 {a0 a1 : SV} : Rn (wVar 2 (a0 :: a1 :: .dat d :: s)) P = P (.d d, a0 :: a1 :: .dat d :: s) := rn_of (by rfl)
theorem ro2 {a0 a1 : SV} : Rn (wVar 2 (a0 :: a1 :: .own d :: s)) P = P (.o 2, a0 :: a1 :: .own d :: s) := rn_of (by rfl)
theorem rb2 {x : SV} {a0 a1 : SV} : Rn (bindV 2 (.d d) (a0 :: a1 :: x :: s)) G = G (a0 :: a1 :: .dat d :: s) := rn_of (by rfl)
theorem rn2 {x : SV} {a0 a1 : SV} : Rn (bindV 2 (.n d) (a0 :: a1 :: x :: s)) G = G (a0 :: a1 :: .own d :: s) := rn_of (by rfl)
theorem rs2 {a0 a1 : SV} : Rn (sto (.o 2) (a0 :: a1 :: .own d :: s)) T = T (d, a0 :: a1 :: .dat d :: s) := rn_of (by rfl)
theorem rl2 {a0 a1 : SV} : Rn (ownL (a0 :: a1 :: .own (.lst ds) :: s) 2) L = L ds := rn_of (by rfl)
theorem ra2 {ms : List Bool} {rs : List RV} {a0 a1 : SV} : Rn (argsW (true :: ms) (.o 2 :: rs) (a0 :: a1 :: .own d :: s)) A = Rn (argsW ms rs (a0 :: a1 :: .un :: s)) fun q => A (.own d :: q.1, some 2 :: q.2.1, q.2.2) := by show Rn ((argsW ms rs (a0 :: a1 :: .un :: s)).bind _) A = _; rw [rn_bind]; simp only [rn_some]
theorem rk2 {x : SV} {mv : List (Option Nat)} {as : List SV} {a0 a1 : SV} : Rn (backA (some 2 :: mv) (.own d :: as) (a0 :: a1 :: x :: s)) G = Rn (backA mv as (a0 :: a1 :: .own d :: s)) G := rfl
theorem rx2 {k : Int} {a0 a1 : SV} : Rn (fIxA (.o 2) (.d (.int k)) (a0 :: a1 :: .own (.lst ds) :: s)) P = Rn (atI ds k) fun d => P (.d d, a0 :: a1 :: .own (.lst ds) :: s) := u_ixO rfl
theorem rg2 {w : WE} {r : RV} {a0 a1 : SV} : Rn (wgSub 2 w r (a0 :: a1 :: .own (.lst ds) :: s)) G = Rn (w (a0 :: a1 :: .own (.lst ds) :: s)) fun p => Rn (kSubL 2 r p) G := u_subL (ds := ds) rfl
theorem rh2 {a0 a1 : SV} : Rn (fLen (.o 2) (a0 :: a1 :: .own (.lst ds) :: s)) P = P (.d (.int (ds.length : Nat)), a0 :: a1 :: .own (.lst ds) :: s) := rn_of (by rfl)
theorem rp2 {es : List Da} {a0 a1 : SV} : Rn (fAdd (.o 2) (.n (.lst es)) (a0 :: a1 :: .own (.lst ds) :: s)) P = (ds.length + es.length ≤ 100000 ∧ P (.n (.lst (ds ++ es)), a0 :: a1 :: .own (.lst ds) :: s)) := u_addO rfl
theorem ri2 {x : SV} {a0 a1 : SV} : (a0 :: a1 :: x :: s)[2]? = some x := rfl
theorem rt2 {x y : SV} {a0 a1 : SV} : List.set (a0 :: a1 :: x :: s) 2 y = a0 :: a1 :: y :: s := rfl
theorem rv3 {a0 a1 a2 : SV} : Rn (wVar 3 (a0 :: a1 :: a2 :: .dat d :: s)) P = P (.d d, a0 :: a1 :: a2 :: .dat d :: s) := rn_of (by rfl)
theorem ro3 {a0 a1 a2 : SV} : Rn (wVar 3 (a0 :: a1 :: a2 :: .own d :: s)) P = P (.o 3, a0 :: a1 :: a2 :: .own d :: s) := rn_of (by rfl)
theorem rb3 {x : SV} {a0 a1 a2 : SV} : Rn (bindV 3 (.d d) (a0 :: a1 :: a2 :: x :: s)) G = G (a0 :: a1 :: a2 :: .dat d :: s) := rn_of (by rfl)
theorem rn3 {x : SV} {a0 a1 a2 : SV} : Rn (bindV 3 (.n d) (a0 :: a1 :: a2 :: x :: s)) G = G (a0 :: a1 :: a2 :: .own d :: s) := rn_of (by rfl)
theorem rs3 {a0 a1 a2 : SV} : Rn (sto (.o 3) (a0 :: a1 :: a2 :: .own d :: s)) T = T (d, a0 :: a1 :: a2 :: .dat d :: s) := rn_of (by rfl)
theorem rl3 {a0 a1 a2 : SV} : Rn (ownL (a0 :: a1 :: a2 :: .own (.lst ds) :: s) 3) L = L ds := rn_of (by rfl)
theorem ra3 {ms : List Bool} {rs : List RV} {a0 a1 a2 : SV} : Rn (argsW (true :: ms) (.o 3 :: rs) (a0 :: a1 :: a2 :: .own d :: s)) A = Rn (argsW ms rs (a0 :: a1 :: a2 :: .un :: s)) fun q => A (.own d :: q.1, some 3 :: q.2.1, q.2.2) := by show Rn ((argsW ms rs (a0 :: a1 :: a2 :: .un :: s)).bind _) A = _; rw [rn_bind]; simp only [rn_some]
theorem rk3 {x : SV} {mv : List (Option Nat)} {as : List SV} {a0 a1 a2 : SV} : Rn (backA (some 3 :: mv) (.own d :: as) (a0 :: a1 :: a2 :: x :: s)) G = Rn (backA mv as (a0 :: a1 :: a2 :: .own d :: s)) G := rfl
theorem rx3 {k : Int} {a0 a1 a2 : SV} : Rn (fIxA (.o 3) (.d (.int k)) (a0 :: a1 :: a2 :: .own (.lst ds) :: s)) P = Rn (atI ds k) fun d => P (.d d, a0 :: a1 :: a2 :: .own (.lst ds) :: s) := u_ixO rfl
theorem rg3 {w : WE} {r : RV} {a0 a1 a2 : SV} : Rn (wgSub 3 w r (a0 :: a1 :: a2 :: .own (.lst ds) :: s)) G = Rn (w (a0 :: a1 :: a2 :: .own (.lst ds) :: s)) fun p => Rn (kSubL 3 r p) G := u_subL (ds := ds) rfl
theorem rh3 {a0 a1 a2 : SV} : Rn (fLen (.o 3) (a0 :: a1 :: a2 :: .own (.lst ds) :: s)) P = P (.d (.int (ds.length : Nat)), a0 :: a1 :: a2 :: .own (.lst ds) :: s) := rn_of (by rfl)
theorem rp3 {es : List Da} {a0 a1 a2 : SV} : Rn (fAdd (.o 3) (.n (.lst es)) (a0 :: a1 :: a2 :: .own (.lst ds) :: s)) P = (ds.length + es.length ≤ 100000 ∧ P (.n (.lst (ds ++ es)), a0 :: a1 :: a2 :: .own (.lst ds) :: s)) := u_addO rfl
theorem ri3 {x : SV} {a0 a1 a2 : SV} : (a0 :: a1 :: a2 :: x :: s)[3]? = some x := rfl
theorem rt3 {x y : SV} {a0 a1 a2 : SV} : List.set (a0 :: a1 :: a2 :: x :: s) 3 y = a0 :: a1 :: a2 :: y :: s := rfl
theorem rv4 {a0 a1 a2 a3 : SV} : Rn (wVar 4 (a0 :: a1 :: a2 :: a3 :: .dat d :: s)) P = P (.d d, a0 :: a1 :: a2 :: a3 :: .dat d :: s) := rn_of (by rfl)
theorem ro4 {a0 a1 a2 a3 : SV} : Rn (wVar 4 (a0 :: a1 :: a2 :: a3 :: .own d :: s)) P = P (.o 4, a0 :: a1 :: a2 :: a3 :: .own d :: s) := rn_of (by rfl)
theorem rb4 {x : SV} {a0 a1 a2 a3 : SV} : Rn (bindV 4 (.d d) (a0 :: a1 :: a2 :: a3 :: x :: s)) G = G (a0 :: a1 :: a2 :: a3 :: .dat d :: s) := rn_of (by rfl)
theorem rn4 {x : SV} {a0 a1 a2 a3 : SV} : Rn (bindV 4 (.n d) (a0 :: a1 :: a2 :: a3 :: x :: s)) G = G (a0 :: a1 :: a2 :: a3 :: .own d :: s) := rn_of (by rfl)
theorem rs4 {a0 a1 a2 a3 : SV} : Rn (sto (.o 4) (a0 :: a1 :: a2 :: a3 :: .own d :: s)) T = T (d, a0 :: a1 :: a2 :: a3 :: .dat d :: s) := rn_of (by rfl)
theorem rl4 {a0 a1 a2 a3 : SV} : Rn (ownL (a0 :: a1 :: a2 :: a3 :: .own (.lst ds) :: s) 4) L = L ds := rn_of (by rfl)
theorem ra4 {ms : List Bool} {rs : List RV} {a0 a1 a2 a3 : SV} : Rn (argsW (true :: ms) (.o 4 :: rs) (a0 :: a1 :: a2 :: a3 :: .own d :: s)) A = Rn (argsW ms rs (a0 :: a1 :: a2 :: a3 :: .un :: s)) fun q => A (.own d :: q.1, some 4 :: q.2.1, q.2.2) := by show Rn ((argsW ms rs (a0 :: a1 :: a2 :: a3 :: .un :: s)).bind _) A = _; rw [rn_bind]; simp only [rn_some]
theorem rk4 {x : SV} {mv : List (Option Nat)} {as : List SV} {a0 a1 a2 a3 : SV} : Rn (backA (some 4 :: mv) (.own d :: as) (a0 :: a1 :: a2 :: a3 :: x :: s)) G = Rn (backA mv as (a0 :: a1 :: a2 :: a3 :: .own d :: s)) G := rfl
theorem rx4 {k : Int} {a0 a1 a2 a3 : SV} : Rn (fIxA (.o 4) (.d (.int k)) (a0 :: a1 :: a2 :: a3 :: .own (.lst ds) :: s)) P = Rn (atI ds k) fun d => P (.d d, a0 :: a1 :: a2 :: a3 :: .own (.lst ds) :: s) := u_ixO rfl
theorem rg4 {w : WE} {r : RV} {a0 a1 a2 a3 : SV} : Rn (wgSub 4 w r (a0 :: a1 :: a2 :: a3 :: .own (.lst ds) :: s)) G = Rn (w (a0 :: a1 :: a2 :: a3 :: .own (.lst ds) :: s)) fun p => Rn (kSubL 4 r p) G := u_subL (ds := ds) rfl
theorem rh4 {a0 a1 a2 a3 : SV} : Rn (fLen (.o 4) (a0 :: a1 :: a2 :: a3 :: .own (.lst ds) :: s)) P = P (.d (.int (ds.length : Nat)), a0 :: a1 :: a2 :: a3 :: .own (.lst ds) :: s) := rn_of (by rfl)
theorem rp4 {es : List Da} {a0 a1 a2 a3 : SV} : Rn (fAdd (.o 4) (.n (.lst es)) (a0 :: a1 :: a2 :: a3 :: .own (.lst ds) :: s)) P = (ds.length + es.length ≤ 100000 ∧ P (.n (.lst (ds ++ es)), a0 :: a1 :: a2 :: a3 :: .own (.lst ds) :: s)) := u_addO rfl
theorem ri4 {x : SV} {a0 a1 a2 a3 : SV} : (a0 :: a1 :: a2 :: a3 :: x :: s)[4]? = some x := rfl
theorem rt4 {x y : SV} {a0 a1 a2 a3 : SV} : List.set (a0 :: a1 :: a2 :: a3 :: x :: s) 4 y = a0 :: a1 :: a2 :: a3 :: y :: s := rfl
theorem rv5 {a0 a1 a2 a3 a4 : SV} : Rn (wVar 5 (a0 :: a1 :: a2 :: a3 :: a4 :: .dat d :: s)) P = P (.d d, a0 :: a1 :: a2 :: a3 :: a4 :: .dat d :: s) := rn_of (by rfl)
theorem ro5 {a0 a1 a2 a3 a4 : SV} : Rn (wVar 5 (a0 :: a1 :: a2 :: a3 :: a4 :: .own d :: s)) P = P (.o 5, a0 :: a1 :: a2 :: a3 :: a4 :: .own d :: s) := rn_of (by rfl)
theorem rb5 {x : SV} {a0 a1 a2 a3 a4 : SV} : Rn (bindV 5 (.d d) (a0 :: a1 :: a2 :: a3 :: a4 :: x :: s)) G = G (a0 :: a1 :: a2 :: a3 :: a4 :: .dat d :: s) := rn_of (by rfl)
theorem rn5 {x : SV} {a0 a1 a2 a3 a4 : SV} : Rn (bindV 5 (.n d) (a0 :: a1 :: a2 :: a3 :: a4 :: x :: s)) G = G (a0 :: a1 :: a2 :: a3 :: a4 :: .own d :: s) := rn_of (by rfl)
theorem rs5 {a0 a1 a2 a3 a4 : SV} : Rn (sto (.o 5) (a0 :: a1 :: a2 :: a3 :: a4 :: .own d :: s)) T = T (d, a0 :: a1 :: a2 :: a3 :: a4 :: .dat d :: s) := rn_of (by rfl)
theorem rl5 {a0 a1 a2 a3 a4 : SV} : Rn (ownL (a0 :: a1 :: a2 :: a3 :: a4 :: .own (.lst ds) :: s) 5) L = L ds := rn_of (by rfl)
theorem ra5 {ms : List Bool} {rs : List RV} {a0 a1 a2 a3 a4 : SV} : Rn (argsW (true :: ms) (.o 5 :: rs) (a0 :: a1 :: a2 :: a3 :: a4 :: .own d :: s)) A = Rn (argsW ms rs (a0 :: a1 :: a2 :: a3 :: a4 :: .un :: s)) fun q => A (.own d :: q.1, some 5 :: q.2.1, q.2.2) := by show Rn ((argsW ms rs (a0 :: a1 :: a2 :: a3 :: a4 :: .un :: s)).bind _) A = _; rw [rn_bind]; simp only [rn_some]
theorem rk5 {x : SV} {mv : List (Option Nat)} {as : List SV} {a0 a1 a2 a3 a4 : SV} : Rn (backA (some 5 :: mv) (.own d :: as) (a0 :: a1 :: a2 :: a3 :: a4 :: x :: s)) G = Rn (backA mv as (a0 :: a1 :: a2 :: a3 :: a4 :: .own d :: s)) G := rfl
theorem rx5 {k : Int} {a0 a1 a2 a3 a4 : SV} : Rn (fIxA (.o 5) (.d (.int k)) (a0 :: a1 :: a2 :: a3 :: a4 :: .own (.lst ds) :: s)) P = Rn (atI ds k) fun d => P (.d d, a0 :: a1 :: a2 :: a3 :: a4 :: .own (.lst ds) :: s) := u_ixO rfl
theorem rg5 {w : WE} {r : RV} {a0 a1 a2 a3 a4 : SV} : Rn (wgSub 5 w r (a0 :: a1 :: a2 :: a3 :: a4 :: .own (.lst ds) :: s)) G = Rn (w (a0 :: a1 :: a2 :: a3 :: a4 :: .own (.lst ds) :: s)) fun p => Rn (kSubL 5 r p) G := u_subL (ds := ds) rfl
theorem rh5 {a0 a1 a2 a3 a4 : SV} : Rn (fLen (.o 5) (a0 :: a1 :: a2 :: a3 :: a4 :: .own (.lst ds) :: s)) P = P (.d (.int (ds.length : Nat)), a0 :: a1 :: a2 :: a3 :: a4 :: .own (.lst ds) :: s) := rn_of (by rfl)
theorem rp5 {es : List Da} {a0 a1 a2 a3 a4 : SV} : Rn (fAdd (.o 5) (.n (.lst es)) (a0 :: a1 :: a2 :: a3 :: a4 :: .own (.lst ds) :: s)) P = (ds.length + es.length ≤ 100000 ∧ P (.n (.lst (ds ++ es)), a0 :: a1 :: a2 :: a3 :: a4 :: .own (.lst ds) :: s)) := u_addO rfl
theorem ri5 {x : SV} {a0 a1 a2 a3 a4 : SV} : (a0 :: a1 :: a2 :: a3 :: a4 :: x :: s)[5]? = some x := rfl
theorem rt5 {x y : SV} {a0 a1 a2 a3 a4 : SV} : List.set (a0 :: a1 :: a2 :: a3 :: a4 :: x :: s) 5 y = a0 :: a1 :: a2 :: a3 :: a4 :: y :: s := rfl
theorem rv6 {a0 a1 a2 a3 a4 a5 : SV} : Rn (wVar 6 (a0 :: a1 :: a2 :: a3 :: a4 :: a5 :: .dat d :: s)) P = P (.d d, a0 :: a1 :: a2 :: a3 :: a4 :: a5 :: .dat d :: s) := rn_of (by rfl)
theorem ro6 {a0 a1 a2 a3 a4 a5 : SV} : Rn (wVar 6 (a0 :: a1 :: a2 :: a3 :: a4 :: a5 :: .own d :: s)) P = P (.o 6, a0 :: a1 :: a2 :: a3 :: a4 :: a5 :: .own d :: s) := rn_of (by rfl)
theorem rb6 {x : SV} {a0 a1 a2 a3 a4 a5 : SV} : Rn (bindV 6 (.d d) (a0 :: a1 :: a2 :: a3 :: a4 :: a5 :: x :: s)) G = G (a0 :: a1 :: a2 :: a3 :: a4 :: a5 :: .dat d :: s) := rn_of (by rfl)
theorem rn6 {x : SV} {a0 a1 a2 a3 a4 a5 : SV} : Rn (bindV 6 (.n d) (a0 :: a1 :: a2 :: a3 :: a4 :: a5 :: x :: s)) G = G (a0 :: a1 :: a2 :: a3 :: a4 :: a5 :: .own d :: s) := rn_of (by rfl)
theorem rs6 {a0 a1 a2 a3 a4 a5 : SV} : Rn (sto (.o 6) (a0 :: a1 :: a2 :: a3 :: a4 :: a5 :: .own d :: s)) T = T (d, a0 :: a1 :: a2 :: a3 :: a4 :: a5 :: .dat d :: s) := rn_of (by rfl)
theorem rl6 {a0 a1 a2 a3 a4 a5 : SV} : Rn (ownL (a0 :: a1 :: a2 :: a3 :: a4 :: a5 :: .own (.lst ds) :: s) 6) L = L ds := rn_of (by rfl)
theorem ra6 {ms : List Bool} {rs : List RV} {a0 a1 a2 a3 a4 a5 : SV} : Rn (argsW (true :: ms) (.o 6 :: rs) (a0 :: a1 :: a2 :: a3 :: a4 :: a5 :: .own d :: s)) A = Rn (argsW ms rs (a0 :: a1 :: a2 :: a3 :: a4 :: a5 :: .un :: s)) fun q => A (.own d :: q.1, some 6 :: q.2.1, q.2.2) := by show Rn ((argsW ms rs (a0 :: a1 :: a2 :: a3 :: a4 :: a5 :: .un :: s)).bind _) A = _; rw [rn_bind]; simp only [rn_some]
theorem rk6 {x : SV} {mv : List (Option Nat)} {as : List SV} {a0 a1 a2 a3 a4 a5 : SV} : Rn (backA (some 6 :: mv) (.own d :: as) (a0 :: a1 :: a2 :: a3 :: a4 :: a5 :: x :: s)) G = Rn (backA mv as (a0 :: a1 :: a2 :: a3 :: a4 :: a5 :: .own d :: s)) G := rfl
theorem rx6 {k : Int} {a0 a1 a2 a3 a4 a5 : SV} : Rn (fIxA (.o 6) (.d (.int k)) (a0 :: a1 :: a2 :: a3 :: a4 :: a5 :: .own (.lst ds) :: s)) P = Rn (atI ds k) fun d => P (.d d, a0 :: a1 :: a2 :: a3 :: a4 :: a5 :: .own (.lst ds) :: s) := u_ixO rfl
theorem rg6 {w : WE} {r : RV} {a0 a1 a2 a3 a4 a5 : SV} : Rn (wgSub 6 w r (a0 :: a1 :: a2 :: a3 :: a4 :: a5 :: .own (.lst ds) :: s)) G = Rn (w (a0 :: a1 :: a2 :: a3 :: a4 :: a5 :: .own (.lst ds) :: s)) fun p => Rn (kSubL 6 r p) G := u_subL (ds := ds) rfl
theorem rh6 {a0 a1 a2 a3 a4 a5 : SV} : Rn (fLen (.o 6) (a0 :: a1 :: a2 :: a3 :: a4 :: a5 :: .own (.lst ds) :: s)) P = P (.d (.int (ds.length : Nat)), a0 :: a1 :: a2 :: a3 :: a4 :: a5 :: .own (.lst ds) :: s) := rn_of (by rfl)
theorem rp6 {es : List Da} {a0 a1 a2 a3 a4 a5 : SV} : Rn (fAdd (.o 6) (.n (.lst es)) (a0 :: a1 :: a2 :: a3 :: a4 :: a5 :: .own (.lst ds) :: s)) P = (ds.length + es.length ≤ 100000 ∧ P (.n (.lst (ds ++ es)), a0 :: a1 :: a2 :: a3 :: a4 :: a5 :: .own (.lst ds) :: s)) := u_addO rfl
theorem ri6 {x : SV} {a0 a1 a2 a3 a4 a5 : SV} : (a0 :: a1 :: a2 :: a3 :: a4 :: a5 :: x :: s)[6]? = some x := rfl
theorem rt6 {x y : SV} {a0 a1 a2 a3 a4 a5 : SV} : List.set (a0 :: a1 :: a2 :: a3 :: a4 :: a5 :: x :: s) 6 y = a0 :: a1 :: a2 :: a3 :: a4 :: a5 :: y :: s := rfl
theorem rv7 {a0 a1 a2 a3 a4 a5 a6 : SV} : Rn (wVar 7 (a0 :: a1 :: a2 :: a3 :: a4 :: a5 :: a6 :: .dat d :: s)) P = P (.d d, a0 :: a1 :: a2 :: a3 :: a4 :: a5 :: a6 :: .dat d :: s) := rn_of (by rfl)
theorem ro7 {a0 a1 a2 a3 a4 a5 a6 : SV} : Rn (wVar 7 (a0 :: a1 :: a2 :: a3 :: a4 :: a5 :: a6 :: .own d :: s)) P = P (.o 7, a0 :: a1 :: a2 :: a3 :: a4 :: a5 :: a6 :: .own d :: s) := rn_of (by rfl)
theorem rb7 {x : SV} {a0 a1 a2 a3 a4 a5 a6 : SV} : Rn (bindV 7 (.d d) (a0 :: a1 :: a2 :: a3 :: a4 :: a5 :: a6 :: x :: s)) G = G (a0 :: a1 :: a2 :: a3 :: a4 :: a5 :: a6 :: .dat d :: s) := rn_of (by rfl)
theorem rn7 {x : SV} {a0 a1 a2 a3 a4 a5 a6 : SV} : Rn (bindV 7 (.n d) (a0 :: a1 :: a2 :: a3 :: a4 :: a5 :: a6 :: x :: s)) G = G (a0 :: a1 :: a2 :: a3 :: a4 :: a5 :: a6 :: .own d :: s) := rn_of (by rfl)
theorem rs7 {a0 a1 a2 a3 a4 a5 a6 : SV} : Rn (sto (.o 7) (a0 :: a1 :: a2 :: a3 :: a4 :: a5 :: a6 :: .own d :: s)) T = T (d, a0 :: a1 :: a2 :: a3 :: a4 :: a5 :: a6 :: .dat d :: s) := rn_of (by rfl)
theorem rl7 {a0 a1 a2 a3 a4 a5 a6 : SV} : Rn (ownL (a0 :: a1 :: a2 :: a3 :: a4 :: a5 :: a6 :: .own (.lst ds) :: s) 7) L = L ds := rn_of (by rfl)
theorem ra7 {ms : List Bool} {rs : List RV} {a0 a1 a2 a3 a4 a5 a6 : SV} : Rn (argsW (true :: ms) (.o 7 :: rs) (a0 :: a1 :: a2 :: a3 :: a4 :: a5 :: a6 :: .own d :: s)) A = Rn (argsW ms rs (a0 :: a1 :: a2 :: a3 :: a4 :: a5 :: a6 :: .un :: s)) fun q => A (.own d :: q.1, some 7 :: q.2.1, q.2.2) := by show Rn ((argsW ms rs (a0 :: a1 :: a2 :: a3 :: a4 :: a5 :: a6 :: .un :: s)).bind _) A = _; rw [rn_bind]; simp only [rn_some]
theorem rk7 {x : SV} {mv : List (Option Nat)} {as : List SV} {a0 a1 a2 a3 a4 a5 a6 : SV} : Rn (backA (some 7 :: mv) (.own d :: as) (a0 :: a1 :: a2 :: a3 :: a4 :: a5 :: a6 :: x :: s)) G = Rn (backA mv as (a0 :: a1 :: a2 :: a3 :: a4 :: a5 :: a6 :: .own d :: s)) G := rfl
theorem rx7 {k : Int} {a0 a1 a2 a3 a4 a5 a6 : SV} : Rn (fIxA (.o 7) (.d (.int k)) (a0 :: a1 :: a2 :: a3 :: a4 :: a5 :: a6 :: .own (.lst ds) :: s)) P = Rn (atI ds k) fun d => P (.d d, a0 :: a1 :: a2 :: a3 :: a4 :: a5 :: a6 :: .own (.lst ds) :: s) := u_ixO rfl
theorem rg7 {w : WE} {r : RV} {a0 a1 a2 a3 a4 a5 a6 : SV} : Rn (wgSub 7 w r (a0 :: a1 :: a2 :: a3 :: a4 :: a5 :: a6 :: .own (.lst ds) :: s)) G = Rn (w (a0 :: a1 :: a2 :: a3 :: a4 :: a5 :: a6 :: .own (.lst ds) :: s)) fun p => Rn (kSubL 7 r p) G := u_subL (ds := ds) rfl
theorem rh7 {a0 a1 a2 a3 a4 a5 a6 : SV} : Rn (fLen (.o 7) (a0 :: a1 :: a2 :: a3 :: a4 :: a5 :: a6 :: .own (.lst ds) :: s)) P = P (.d (.int (ds.length : Nat)), a0 :: a1 :: a2 :: a3 :: a4 :: a5 :: a6 :: .own (.lst ds) :: s) := rn_of (by rfl)
theorem rp7 {es : List Da} {a0 a1 a2 a3 a4 a5 a6 : SV} : Rn (fAdd (.o 7) (.n (.lst es)) (a0 :: a1 :: a2 :: a3 :: a4 :: a5 :: a6 :: .own (.lst ds) :: s)) P = (ds.length + es.length ≤ 100000 ∧ P (.n (.lst (ds ++ es)), a0 :: a1 :: a2 :: a3 :: a4 :: a5 :: a6 :: .own (.lst ds) :: s)) := u_addO rfl
theorem ri7 {x : SV} {a0 a1 a2 a3 a4 a5 a6 : SV} : (a0 :: a1 :: a2 :: a3 :: a4 :: a5 :: a6 :: x :: s)[7]? = some x := rfl
theorem rt7 {x y : SV} {a0 a1 a2 a3 a4 a5 a6 : SV} : List.set (a0 :: a1 :: a2 :: a3 :: a4 :: a5 :: a6 :: x :: s) 7 y = a0 :: a1 :: a2 :: a3 :: a4 :: a5 :: a6 :: y :: s := rfl
theorem rv8 {a0 a1 a2 a3 a4 a5 a6 a7 : SV} : Rn (wVar 8 (a0 :: a1 :: a2 :: a3 :: a4 :: a5 :: a6 :: a7 :: .dat d :: s)) P = P (.d d, a0 :: a1 :: a2 :: a3 :: a4 :: a5 :: a6 :: a7 :: .dat d :: s) := rn_of (by rfl)
theorem ro8 {a0 a1 a2 a3 a4 a5 a6 a7 : SV} : Rn (wVar 8 (a0 :: a1 :: a2 :: a3 :: a4 :: a5 :: a6 :: a7 :: .own d :: s)) P = P (.o 8, a0 :: a1 :: a2 :: a3 :: a4 :: a5 :: a6 :: a7 :: .own d :: s) := rn_of (by rfl)
theorem rb8 {x : SV} {a0 a1 a2 a3 a4 a5 a6 a7 : SV} : Rn (bindV 8 (.d d) (a0 :: a1 :: a2 :: a3 :: a4 :: a5 :: a6 :: a7 :: x :: s)) G = G (a0 :: a1 :: a2 :: a3 :: a4 :: a5 :: a6 :: a7 :: .dat d :: s) := rn_of (by rfl)
theorem rn8 {x : SV} {a0 a1 a2 a3 a4 a5 a6 a7 : SV} : Rn (bindV 8 (.n d) (a0 :: a1 :: a2 :: a3 :: a4 :: a5 :: a6 :: a7 :: x :: s)) G = G (a0 :: a1 :: a2 :: a3 :: a4 :: a5 :: a6 :: a7 :: .own d :: s) := rn_of (by rfl)
theorem rs8 {a0 a1 a2 a3 a4 a5 a6 a7 : SV} : Rn (sto (.o 8) (a0 :: a1 :: a2 :: a3 :: a4 :: a5 :: a6 :: a7 :: .own d :: s)) T = T (d, a0 :: a1 :: a2 :: a3 :: a4 :: a5 :: a6 :: a7 :: .dat d :: s) := rn_of (by rfl)
theorem rl8 {a0 a1 a2 a3 a4 a5 a6 a7 : SV} : Rn (ownL (a0 :: a1 :: a2 :: a3 :: a4 :: a5 :: a6 :: a7 :: .own (.lst ds) :: s) 8) L = L ds := rn_of (by rfl)
theorem ra8 {ms : List Bool} {rs : List RV} {a0 a1 a2 a3 a4 a5 a6 a7 : SV} : Rn (argsW (true :: ms) (.o 8 :: rs) (a0 :: a1 :: a2 :: a3 :: a4 :: a5 :: a6 :: a7 :: .own d :: s)) A = Rn (argsW ms rs (a0 :: a1 :: a2 :: a3 :: a4 :: a5 :: a6 :: a7 :: .un :: s)) fun q => A (.own d :: q.1, some 8 :: q.2.1, q.2.2) := by show Rn ((argsW ms rs (a0 :: a1 :: a2 :: a3 :: a4 :: a5 :: a6 :: a7 :: .un :: s)).bind _) A = _; rw [rn_bind]; simp only [rn_some]
theorem rk8 {x : SV} {mv : List (Option Nat)} {as : List SV} {a0 a1 a2 a3 a4 a5 a6 a7 : SV} : Rn (backA (some 8 :: mv) (.own d :: as) (a0 :: a1 :: a2 :: a3 :: a4 :: a5 :: a6 :: a7 :: x :: s)) G = Rn (backA mv as (a0 :: a1 :: a2 :: a3 :: a4 :: a5 :: a6 :: a7 :: .own d :: s)) G := rfl
theorem rx8 {k : Int} {a0 a1 a2 a3 a4 a5 a6 a7 : SV} : Rn (fIxA (.o 8) (.d (.int k)) (a0 :: a1 :: a2 :: a3 :: a4 :: a5 :: a6 :: a7 :: .own (.lst ds) :: s)) P = Rn (atI ds k) fun d => P (.d d, a0 :: a1 :: a2 :: a3 :: a4 :: a5 :: a6 :: a7 :: .own (.lst ds) :: s) := u_ixO rfl
theorem rg8 {w : WE} {r : RV} {a0 a1 a2 a3 a4 a5 a6 a7 : SV} : Rn (wgSub 8 w r (a0 :: a1 :: a2 :: a3 :: a4 :: a5 :: a6 :: a7 :: .own (.lst ds) :: s)) G = Rn (w (a0 :: a1 :: a2 :: a3 :: a4 :: a5 :: a6 :: a7 :: .own (.lst ds) :: s)) fun p => Rn (kSubL 8 r p) G := u_subL (ds := ds) rfl
theorem rh8 {a0 a1 a2 a3 a4 a5 a6 a7 : SV} : Rn (fLen (.o 8) (a0 :: a1 :: a2 :: a3 :: a4 :: a5 :: a6 :: a7 :: .own (.lst ds) :: s)) P = P (.d (.int (ds.length : Nat)), a0 :: a1 :: a2 :: a3 :: a4 :: a5 :: a6 :: a7 :: .own (.lst ds) :: s) := rn_of (by rfl)
theorem rp8 {es : List Da} {a0 a1 a2 a3 a4 a5 a6 a7 : SV} : Rn (fAdd (.o 8) (.n (.lst es)) (a0 :: a1 :: a2 :: a3 :: a4 :: a5 :: a6 :: a7 :: .own (.lst ds) :: s)) P = (ds.length + es.length ≤ 100000 ∧ P (.n (.lst (ds ++ es)), a0 :: a1 :: a2 :: a3 :: a4 :: a5 :: a6 :: a7 :: .own (.lst ds) :: s)) := u_addO rfl
theorem ri8 {x : SV} {a0 a1 a2 a3 a4 a5 a6 a7 : SV} : (a0 :: a1 :: a2 :: a3 :: a4 :: a5 :: a6 :: a7 :: x :: s)[8]? = some x := rfl
theorem rt8 {x y : SV} {a0 a1 a2 a3 a4 a5 a6 a7 : SV} : List.set (a0 :: a1 :: a2 :: a3 :: a4 :: a5 :: a6 :: a7 :: x :: s) 8 y = a0 :: a1 :: a2 :: a3 :: a4 :: a5 :: a6 :: a7 :: y :: s := rfl
theorem rv9 {a0 a1 a2 a3 a4 a5 a6 a7 a8 : SV} : Rn (wVar 9 (a0 :: a1 :: a2 :: a3 :: a4 :: a5 :: a6 :: a7 :: a8 :: .dat d :: s)) P = P (.d d, a0 :: a1 :: a2 :: a3 :: a4 :: a5 :: a6 :: a7 :: a8 :: .dat d :: s) := rn_of (by rfl)
theorem ro9 {a0 a1 a2 a3 a4 a5 a6 a7 a8 : SV} : Rn (wVar 9 (a0 :: a1 :: a2 :: a3 :: a4 :: a5 :: a6 :: a7 :: a8 :: .own d :: s)) P = P (.o 9, a0 :: a1 :: a2 :: a3 :: a4 :: a5 :: a6 :: a7 :: a8 :: .own d :: s) := rn_of (by rfl)
theorem rb9 {x : SV} {a0 a1 a2 a3 a4 a5 a6 a7 a8 : SV} : Rn (bindV 9 (.d d) (a0 :: a1 :: a2 :: a3 :: a4 :: a5 :: a6 :: a7 :: a8 :: x :: s)) G = G (a0 :: a1 :: a2 :: a3 :: a4 :: a5 :: a6 :: a7 :: a8 :: .dat d :: s) := rn_of (by rfl)
theorem rn9 {x : SV} {a0 a1 a2 a3 a4 a5 a6 a7 a8 : SV} : Rn (bindV 9 (.n d) (a0 :: a1 :: a2 :: a3 :: a4 :: a5 :: a6 :: a7 :: a8 :: x :: s)) G = G (a0 :: a1 :: a2 :: a3 :: a4 :: a5 :: a6 :: a7 :: a8 :: .own d :: s) := rn_of (by rfl)
theorem rs9 {a0 a1 a2 a3 a4 a5 a6 a7 a8 : SV} : Rn (sto (.o 9) (a0 :: a1 :: a2 :: a3 :: a4 :: a5 :: a6 :: a7 :: a8 :: .own d :: s)) T = T (d, a0 :: a1 :: a2 :: a3 :: a4 :: a5 :: a6 :: a7 :: a8 :: .dat d :: s) := rn_of (by rfl)
theorem rl9 {a0 a1 a2 a3 a4 a5 a6 a7 a8 : SV} : Rn (ownL (a0 :: a1 :: a2 :: a3 :: a4 :: a5 :: a6 :: a7 :: a8 :: .own (.lst ds) :: s) 9) L = L ds := rn_of (by rfl)
theorem ra9 {ms : List Bool} {rs : List RV} {a0 a1 a2 a3 a4 a5 a6 a7 a8 : SV} : Rn (argsW (true :: ms) (.o 9 :: rs) (a0 :: a1 :: a2 :: a3 :: a4 :: a5 :: a6 :: a7 :: a8 :: .own d :: s)) A = Rn (argsW ms rs (a0 :: a1 :: a2 :: a3 :: a4 :: a5 :: a6 :: a7 :: a8 :: .un :: s)) fun q => A (.own d :: q.1, some 9 :: q.2.1, q.2.2) := by show Rn ((argsW ms rs (a0 :: a1 :: a2 :: a3 :: a4 :: a5 :: a6 :: a7 :: a8 :: .un :: s)).bind _) A = _; rw [rn_bind]; simp only [rn_some]
theorem rk9 {x : SV} {mv : List (Option Nat)} {as : List SV} {a0 a1 a2 a3 a4 a5 a6 a7 a8 : SV} : Rn (backA (some 9 :: mv) (.own d :: as) (a0 :: a1 :: a2 :: a3 :: a4 :: a5 :: a6 :: a7 :: a8 :: x :: s)) G = Rn (backA mv as (a0 :: a1 :: a2 :: a3 :: a4 :: a5 :: a6 :: a7 :: a8 :: .own d :: s)) G := rfl
theorem rx9 {k : Int} {a0 a1 a2 a3 a4 a5 a6 a7 a8 : SV} : Rn (fIxA (.o 9) (.d (.int k)) (a0 :: a1 :: a2 :: a3 :: a4 :: a5 :: a6 :: a7 :: a8 :: .own (.lst ds) :: s)) P = Rn (atI ds k) fun d => P (.d d, a0 :: a1 :: a2 :: a3 :: a4 :: a5 :: a6 :: a7 :: a8 :: .own (.lst ds) :: s) := u_ixO rfl
theorem rg9 {w : WE} {r : RV} {a0 a1 a2 a3 a4 a5 a6 a7 a8 : SV} : Rn (wgSub 9 w r (a0 :: a1 :: a2 :: a3 :: a4 :: a5 :: a6 :: a7 :: a8 :: .own (.lst ds) :: s)) G = Rn (w (a0 :: a1 :: a2 :: a3 :: a4 :: a5 :: a6 :: a7 :: a8 :: .own (.lst ds) :: s)) fun p => Rn (kSubL 9 r p) G := u_subL (ds := ds) rfl
theorem rh9 {a0 a1 a2 a3 a4 a5 a6 a7 a8 : SV} : Rn (fLen (.o 9) (a0 :: a1 :: a2 :: a3 :: a4 :: a5 :: a6 :: a7 :: a8 :: .own (.lst ds) :: s)) P = P (.d (.int (ds.length : Nat)), a0 :: a1 :: a2 :: a3 :: a4 :: a5 :: a6 :: a7 :: a8 :: .own (.lst ds) :: s) := rn_of (by rfl)
theorem rp9 {es : List Da} {a0 a1 a2 a3 a4 a5 a6 a7 a8 : SV} : Rn (fAdd (.o 9) (.n (.lst es)) (a0 :: a1 :: a2 :: a3 :: a4 :: a5 :: a6 :: a7 :: a8 :: .own (.lst ds) :: s)) P = (ds.length + es.length ≤ 100000 ∧ P (.n (.lst (ds ++ es)), a0 :: a1 :: a2 :: a3 :: a4 :: a5 :: a6 :: a7 :: a8 :: .own (.lst ds) :: s)) := u_addO rfl
theorem ri9 {x : SV} {a0 a1 a2 a3 a4 a5 a6 a7 a8 : SV} : (a0 :: a1 :: a2 :: a3 :: a4 :: a5 :: a6 :: a7 :: a8 :: x :: s)[9]? = some x := rfl
theorem rt9 {x y : SV} {a0 a1 a2 a3 a4 a5 a6 a7 a8 : SV} : List.set (a0 :: a1 :: a2 :: a3 :: a4 :: a5 :: a6 :: a7 :: a8 :: x :: s) 9 y = a0 :: a1 :: a2 :: a3 :: a4 :: a5 :: a6 :: a7 :: a8 :: y :: s := rfl
theorem rv10 {a0 a1 a2 a3 a4 a5 a6 a7 a8 a9 : SV} : Rn (wVar 10 (a0 :: a1 :: a2 :: a3 :: a4 :: a5 :: a6 :: a7 :: a8 :: a9 :: .dat d :: s)) P = P (.d d, a0 :: a1 :: a2 :: a3 :: a4 :: a5 :: a6 :: a7 :: a8 :: a9 :: .dat d :: s) := rn_of (by rfl)
theorem ro10 {a0 a1 a2 a3 a4 a5 a6 a7 a8 a9 : SV} : Rn (wVar 10 (a0 :: a1 :: a2 :: a3 :: a4 :: a5 :: a6 :: a7 :: a8 :: a9 :: .own d :: s)) P = P (.o 10, a0 :: a1 :: a2 :: a3 :: a4 :: a5 :: a6 :: a7 :: a8 :: a9 :: .own d :: s) := rn_of (by rfl)
theorem rb10 {x : SV} {a0 a1 a2 a3 a4 a5 a6 a7 a8 a9 : SV} : Rn (bindV 10 (.d d) (a0 :: a1 :: a2 :: a3 :: a4 :: a5 :: a6 :: a7 :: a8 :: a9 :: x :: s)) G = G (a0 :: a1 :: a2 :: a3 :: a4 :: a5 :: a6 :: a7 :: a8 :: a9 :: .dat d :: s) := rn_of (by rfl)
theorem rn10 {x : SV} {a0 a1 a2 a3 a4 a5 a6 a7 a8 a9 : SV} : Rn (bindV 10 (.n d) (a0 :: a1 :: a2 :: a3 :: a4 :: a5 :: a6 :: a7 :: a8 :: a9 :: x :: s)) G = G (a0 :: a1 :: a2 :: a3 :: a4 :: a5 :: a6 :: a7 :: a8 :: a9 :: .own d :: s) := rn_of (by rfl)
theorem rs10 {a0 a1 a2 a3 a4 a5 a6 a7 a8 a9 : SV} : Rn (sto (.o 10) (a0 :: a1 :: a2 :: a3 :: a4 :: a5 :: a6 :: a7 :: a8 :: a9 :: .own d :: s)) T = T (d, a0 :: a1 :: a2 :: a3 :: a4 :: a5 :: a6 :: a7 :: a8 :: a9 :: .dat d :: s) := rn_of (by rfl)
theorem rl10 {a0 a1 a2 a3 a4 a5 a6 a7 a8 a9 : SV} : Rn (ownL (a0 :: a1 :: a2 :: a3 :: a4 :: a5 :: a6 :: a7 :: a8 :: a9 :: .own (.lst ds) :: s) 10) L = L ds := rn_of (by rfl)
theorem ra10 {ms : List Bool} {rs : List RV} {a0 a1 a2 a3 a4 a5 a6 a7 a8 a9 : SV} : Rn (argsW (true :: ms) (.o 10 :: rs) (a0 :: a1 :: a2 :: a3 :: a4 :: a5 :: a6 :: a7 :: a8 :: a9 :: .own d :: s)) A = Rn (argsW ms rs (a0 :: a1 :: a2 :: a3 :: a4 :: a5 :: a6 :: a7 :: a8 :: a9 :: .un :: s)) fun q => A (.own d :: q.1, some 10 :: q.2.1, q.2.2) := by show Rn ((argsW ms rs (a0 :: a1 :: a2 :: a3 :: a4 :: a5 :: a6 :: a7 :: a8 :: a9 :: .un :: s)).bind _) A = _; rw [rn_bind]; simp only [rn_some]
theorem rk10 {x : SV} {mv : List (Option Nat)} {as : List SV} {a0 a1 a2 a3 a4 a5 a6 a7 a8 a9 : SV} : Rn (backA (some 10 :: mv) (.own d :: as) (a0 :: a1 :: a2 :: a3 :: a4 :: a5 :: a6 :: a7 :: a8 :: a9 :: x :: s)) G = Rn (backA mv as (a0 :: a1 :: a2 :: a3 :: a4 :: a5 :: a6 :: a7 :: a8 :: a9 :: .own d :: s)) G := rfl
theorem rx10 {k : Int} {a0 a1 a2 a3 a4 a5 a6 a7 a8 a9 : SV} : Rn (fIxA (.o 10) (.d (.int k)) (a0 :: a1 :: a2 :: a3 :: a4 :: a5 :: a6 :: a7 :: a8 :: a9 :: .own (.lst ds) :: s)) P = Rn (atI ds k) fun d => P (.d d, a0 :: a1 :: a2 :: a3 :: a4 :: a5 :: a6 :: a7 :: a8 :: a9 :: .own (.lst ds) :: s) := u_ixO rfl
theorem rg10 {w : WE} {r : RV} {a0 a1 a2 a3 a4 a5 a6 a7 a8 a9 : SV} : Rn (wgSub 10 w r (a0 :: a1 :: a2 :: a3 :: a4 :: a5 :: a6 :: a7 :: a8 :: a9 :: .own (.lst ds) :: s)) G = Rn (w (a0 :: a1 :: a2 :: a3 :: a4 :: a5 :: a6 :: a7 :: a8 :: a9 :: .own (.lst ds) :: s)) fun p => Rn (kSubL 10 r p) G := u_subL (ds := ds) rfl
theorem rh10 {a0 a1 a2 a3 a4 a5 a6 a7 a8 a9 : SV} : Rn (fLen (.o 10) (a0 :: a1 :: a2 :: a3 :: a4 :: a5 :: a6 :: a7 :: a8 :: a9 :: .own (.lst ds) :: s)) P = P (.d (.int (ds.length : Nat)), a0 :: a1 :: a2 :: a3 :: a4 :: a5 :: a6 :: a7 :: a8 :: a9 :: .own (.lst ds) :: s) := rn_of (by rfl)
theorem rp10 {es : List Da} {a0 a1 a2 a3 a4 a5 a6 a7 a8 a9 : SV} : Rn (fAdd (.o 10) (.n (.lst es)) (a0 :: a1 :: a2 :: a3 :: a4 :: a5 :: a6 :: a7 :: a8 :: a9 :: .own (.lst ds) :: s)) P = (ds.length + es.length ≤ 100000 ∧ P (.n (.lst (ds ++ es)), a0 :: a1 :: a2 :: a3 :: a4 :: a5 :: a6 :: a7 :: a8 :: a9 :: .own (.lst ds) :: s)) := u_addO rfl
theorem ri10 {x : SV} {a0 a1 a2 a3 a4 a5 a6 a7 a8 a9 : SV} : (a0 :: a1 :: a2 :: a3 :: a4 :: a5 :: a6 :: a7 :: a8 :: a9 :: x :: s)[10]? = some x := rfl
theorem rt10 {x y : SV} {a0 a1 a2 a3 a4 a5 a6 a7 a8 a9 : SV} : List.set (a0 :: a1 :: a2 :: a3 :: a4 :: a5 :: a6 :: a7 :: a8 :: a9 :: x :: s) 10 y = a0 :: a1 :: a2 :: a3 :: a4 :: a5 :: a6 :: a7 :: a8 :: a9 :: y :: s := rfl
theorem rv11 {a0 a1 a2 a3 a4 a5 a6 a7 a8 a9 a10 : SV} : Rn (wVar 11 (a0 :: a1 :: a2 :: a3 :: a4 :: a5 :: a6 :: a7 :: a8 :: a9 :: a10 :: .dat d :: s)) P = P (.d d, a0 :: a1 :: a2 :: a3 :: a4 :: a5 :: a6 :: a7 :: a8 :: a9 :: a10 :: .dat d :: s) := rn_of (by rfl)
theorem ro11 {a0 a1 a2 a3 a4 a5 a6 a7 a8 a9 a10 : SV} : Rn (wVar 11 (a0 :: a1 :: a2 :: a3 :: a4 :: a5 :: a6 :: a7 :: a8 :: a9 :: a10 :: .own d :: s)) P = P (.o 11, a0 :: a1 :: a2 :: a3 :: a4 :: a5 :: a6 :: a7 :: a8 :: a9 :: a10 :: .own d :: s) := rn_of (by rfl)
theorem rb11 {x : SV} {a0 a1 a2 a3 a4 a5 a6 a7 a8 a9 a10 : SV} : Rn (bindV 11 (.d d) (a0 :: a1 :: a2 :: a3 :: a4 :: a5 :: a6 :: a7 :: a8 :: a9 :: a10 :: x :: s)) G = G (a0 :: a1 :: a2 :: a3 :: a4 :: a5 :: a6 :: a7 :: a8 :: a9 :: a10 :: .dat d :: s) := rn_of (by rfl)
theorem rn11 {x : SV} {a0 a1 a2 a3 a4 a5 a6 a7 a8 a9 a10 : SV} : Rn (bindV 11 (.n d) (a0 :: a1 :: a2 :: a3 :: a4 :: a5 :: a6 :: a7 :: a8 :: a9 :: a10 :: x :: s)) G = G (a0 :: a1 :: a2 :: a3 :: a4 :: a5 :: a6 :: a7 :: a8 :: a9 :: a10 :: .own d :: s) := rn_of (by rfl)
theorem rs11 {a0 a1 a2 a3 a4 a5 a6 a7 a8 a9 a10 : SV} : Rn (sto (.o 11) (a0 :: a1 :: a2 :: a3 :: a4 :: a5 :: a6 :: a7 :: a8 :: a9 :: a10 :: .own d :: s)) T = T (d, a0 :: a1 :: a2 :: a3 :: a4 :: a5 :: a6 :: a7 :: a8 :: a9 :: a10 :: .dat d :: s) := rn_of (by rfl)
theorem rl11 {a0 a1 a2 a3 a4 a5 a6 a7 a8 a9 a10 : SV} : Rn (ownL (a0 :: a1 :: a2 :: a3 :: a4 :: a5 :: a6 :: a7 :: a8 :: a9 :: a10 :: .own (.lst ds) :: s) 11) L = L ds := rn_of (by rfl)
theorem ra11 {ms : List Bool} {rs : List RV} {a0 a1 a2 a3 a4 a5 a6 a7 a8 a9 a10 : SV} : Rn (argsW (true :: ms) (.o 11 :: rs) (a0 :: a1 :: a2 :: a3 :: a4 :: a5 :: a6 :: a7 :: a8 :: a9 :: a10 :: .own d :: s)) A = Rn (argsW ms rs (a0 :: a1 :: a2 :: a3 :: a4 :: a5 :: a6 :: a7 :: a8 :: a9 :: a10 :: .un :: s)) fun q => A (.own d :: q.1, some 11 :: q.2.1, q.2.2) := by show Rn ((argsW ms rs (a0 :: a1 :: a2 :: a3 :: a4 :: a5 :: a6 :: a7 :: a8 :: a9 :: a10 :: .un :: s)).bind _) A = _; rw [rn_bind]; simp only [rn_some]
theorem rk11 {x : SV} {mv : List (Option Nat)} {as : List SV} {a0 a1 a2 a3 a4 a5 a6 a7 a8 a9 a10 : SV} : Rn (backA (some 11 :: mv) (.own d :: as) (a0 :: a1 :: a2 :: a3 :: a4 :: a5 :: a6 :: a7 :: a8 :: a9 :: a10 :: x :: s)) G = Rn (backA mv as (a0 :: a1 :: a2 :: a3 :: a4 :: a5 :: a6 :: a7 :: a8 :: a9 :: a10 :: .own d :: s)) G := rfl
theorem rx11 {k : Int} {a0 a1 a2 a3 a4 a5 a6 a7 a8 a9 a10 : SV} : Rn (fIxA (.o 11) (.d (.int k)) (a0 :: a1 :: a2 :: a3 :: a4 :: a5 :: a6 :: a7 :: a8 :: a9 :: a10 :: .own (.lst ds) :: s)) P = Rn (atI ds k) fun d => P (.d d, a0 :: a1 :: a2 :: a3 :: a4 :: a5 :: a6 :: a7 :: a8 :: a9 :: a10 :: .own (.lst ds) :: s) := u_ixO rfl
theorem rg11 {w : WE} {r : RV} {a0 a1 a2 a3 a4 a5 a6 a7 a8 a9 a10 : SV} : Rn (wgSub 11 w r (a0 :: a1 :: a2 :: a3 :: a4 :: a5 :: a6 :: a7 :: a8 :: a9 :: a10 :: .own (.lst ds) :: s)) G = Rn (w (a0 :: a1 :: a2 :: a3 :: a4 :: a5 :: a6 :: a7 :: a8 :: a9 :: a10 :: .own (.lst ds) :: s)) fun p => Rn (kSubL 11 r p) G := u_subL (ds := ds) rfl
theorem rh11 {a0 a1 a2 a3 a4 a5 a6 a7 a8 a9 a10 : SV} : Rn (fLen (.o 11) (a0 :: a1 :: a2 :: a3 :: a4 :: a5 :: a6 :: a7 :: a8 :: a9 :: a10 :: .own (.lst ds) :: s)) P = P (.d (.int (ds.length : Nat)), a0 :: a1 :: a2 :: a3 :: a4 :: a5 :: a6 :: a7 :: a8 :: a9 :: a10 :: .own (.lst ds) :: s) := rn_of (by rfl)
theorem rp11 {es : List Da} {a0 a1 a2 a3 a4 a5 a6 a7 a8 a9 a10 : SV} : Rn (fAdd (.o 11) (.n (.lst es)) (a0 :: a1 :: a2 :: a3 :: a4 :: a5 :: a6 :: a7 :: a8 :: a9 :: a10 :: .own (.lst ds) :: s)) P = (ds.length + es.length ≤ 100000 ∧ P (.n (.lst (ds ++ es)), a0 :: a1 :: a2 :: a3 :: a4 :: a5 :: a6 :: a7 :: a8 :: a9 :: a10 :: .own (.lst ds) :: s)) := u_addO rfl
theorem ri11 {x : SV} {a0 a1 a2 a3 a4 a5 a6 a7 a8 a9 a10 : SV} : (a0 :: a1 :: a2 :: a3 :: a4 :: a5 :: a6 :: a7 :: a8 :: a9 :: a10 :: x :: s)[11]? = some x := rfl
theorem rt11 {x y : SV} {a0 a1 a2 a3 a4 a5 a6 a7 a8 a9 a10 : SV} : List.set (a0 :: a1 :: a2 :: a3 :: a4 :: a5 :: a6 :: a7 :: a8 :: a9 :: a10 :: x :: s) 11 y = a0 :: a1 :: a2 :: a3 :: a4 :: a5 :: a6 :: a7 :: a8 :: a9 :: a10 :: y :: s := rfl
theorem rv12 {a0 a1 a2 a3 a4 a5 a6 a7 a8 a9 a10 a11 : SV} : Rn (wVar 12 (a0 :: a1 :: a2 :: a3 :: a4 :: a5 :: a6 :: a7 :: a8 :: a9 :: a10 :: a11 :: .dat d :: s)) P = P (.d d, a0 :: a1 :: a2 :: a3 :: a4 :: a5 :: a6 :: a7 :: a8 :: a9 :: a10 :: a11 :: .dat d :: s) := rn_of (by rfl)
theorem ro12 {a0 a1 a2 a3 a4 a5 a6 a7 a8 a9 a10 a11 : SV} : Rn (wVar 12 (a0 :: a1 :: a2 :: a3 :: a4 :: a5 :: a6 :: a7 :: a8 :: a9 :: a10 :: a11 :: .own d :: s)) P = P (.o 12, a0 :: a1 :: a2 :: a3 :: a4 :: a5 :: a6 :: a7 :: a8 :: a9 :: a10 :: a11 :: .own d :: s) := rn_of (by rfl)
theorem rb12 {x : SV} {a0 a1 a2 a3 a4 a5 a6 a7 a8 a9 a10 a11 : SV} : Rn (bindV 12 (.d d) (a0 :: a1 :: a2 :: a3 :: a4 :: a5 :: a6 :: a7 :: a8 :: a9 :: a10 :: a11 :: x :: s)) G = G (a0 :: a1 :: a2 :: a3 :: a4 :: a5 :: a6 :: a7 :: a8 :: a9 :: a10 :: a11 :: .dat d :: s) := rn_of (by rfl)
theorem rn12 {x : SV} {a0 a1 a2 a3 a4 a5 a6 a7 a8 a9 a10 a11 : SV} : Rn (bindV 12 (.n d) (a0 :: a1 :: a2 :: a3 :: a4 :: a5 :: a6 :: a7 :: a8 :: a9 :: a10 :: a11 :: x :: s)) G = G (a0 :: a1 :: a2 :: a3 :: a4 :: a5 :: a6 :: a7 :: a8 :: a9 :: a10 :: a11 :: .own d :: s) := rn_of (by rfl)
theorem rs12 {a0 a1 a2 a3 a4 a5 a6 a7 a8 a9 a10 a11 : SV} : Rn (sto (.o 12) (a0 :: a1 :: a2 :: a3 :: a4 :: a5 :: a6 :: a7 :: a8 :: a9 :: a10 :: a11 :: .own d :: s)) T = T (d, a0 :: a1 :: a2 :: a3 :: a4 :: a5 :: a6 :: a7 :: a8 :: a9 :: a10 :: a11 :: .dat d :: s) := rn_of (by rfl)
theorem rl12 {a0 a1 a2 a3 a4 a5 a6 a7 a8 a9 a10 a11 : SV} : Rn (ownL (a0 :: a1 :: a2 :: a3 :: a4 :: a5 :: a6 :: a7 :: a8 :: a9 :: a10 :: a11 :: .own (.lst ds) :: s) 12) L = L ds := rn_of (by rfl)
theorem ra12 {ms : List Bool} {rs : List RV} {a0 a1 a2 a3 a4 a5 a6 a7 a8 a9 a10 a11 : SV} : Rn (argsW (true :: ms) (.o 12 :: rs) (a0 :: a1 :: a2 :: a3 :: a4 :: a5 :: a6 :: a7 :: a8 :: a9 :: a10 :: a11 :: .own d :: s)) A = Rn (argsW ms rs (a0 :: a1 :: a2 :: a3 :: a4 :: a5 :: a6 :: a7 :: a8 :: a9 :: a10 :: a11 :: .un :: s)) fun q => A (.own d :: q.1, some 12 :: q.2.1, q.2.2) := by show Rn ((argsW ms rs (a0 :: a1 :: a2 :: a3 :: a4 :: a5 :: a6 :: a7 :: a8 :: a9 :: a10 :: a11 :: .un :: s)).bind _) A = _; rw [rn_bind]; simp only [rn_some]
theorem rk12 {x : SV} {mv : List (Option Nat)} {as : List SV} {a0 a1 a2 a3 a4 a5 a6 a7 a8 a9 a10 a11 : SV} : Rn (backA (some 12 :: mv) (.own d :: as) (a0 :: a1 :: a2 :: a3 :: a4 :: a5 :: a6 :: a7 :: a8 :: a9 :: a10 :: a11 :: x :: s)) G = Rn (backA mv as (a0 :: a1 :: a2 :: a3 :: a4 :: a5 :: a6 :: a7 :: a8 :: a9 :: a10 :: a11 :: .own d :: s)) G := rfl
theorem rx12 {k : Int} {a0 a1 a2 a3 a4 a5 a6 a7 a8 a9 a10 a11 : SV} : Rn (fIxA (.o 12) (.d (.int k)) (a0 :: a1 :: a2 :: a3 :: a4 :: a5 :: a6 :: a7 :: a8 :: a9 :: a10 :: a11 :: .own (.lst ds) :: s)) P = Rn (atI ds k) fun d => P (.d d, a0 :: a1 :: a2 :: a3 :: a4 :: a5 :: a6 :: a7 :: a8 :: a9 :: a10 :: a11 :: .own (.lst ds) :: s) := u_ixO rfl
theorem rg12 {w : WE} {r : RV} {a0 a1 a2 a3 a4 a5 a6 a7 a8 a9 a10 a11 : SV} : Rn (wgSub 12 w r (a0 :: a1 :: a2 :: a3 :: a4 :: a5 :: a6 :: a7 :: a8 :: a9 :: a10 :: a11 :: .own (.lst ds) :: s)) G = Rn (w (a0 :: a1 :: a2 :: a3 :: a4 :: a5 :: a6 :: a7 :: a8 :: a9 :: a10 :: a11 :: .own (.lst ds) :: s)) fun p => Rn (kSubL 12 r p) G := u_subL (ds := ds) rfl
theorem rh12 {a0 a1 a2 a3 a4 a5 a6 a7 a8 a9 a10 a11 : SV} : Rn (fLen (.o 12) (a0 :: a1 :: a2 :: a3 :: a4 :: a5 :: a6 :: a7 :: a8 :: a9 :: a10 :: a11 :: .own (.lst ds) :: s)) P = P (.d (.int (ds.length : Nat)), a0 :: a1 :: a2 :: a3 :: a4 :: a5 :: a6 :: a7 :: a8 :: a9 :: a10 :: a11 :: .own (.lst ds) :: s) := rn_of (by rfl)
theorem rp12 {es : List Da} {a0 a1 a2 a3 a4 a5 a6 a7 a8 a9 a10 a11 : SV} : Rn (fAdd (.o 12) (.n (.lst es)) (a0 :: a1 :: a2 :: a3 :: a4 :: a5 :: a6 :: a7 :: a8 :: a9 :: a10 :: a11 :: .own (.lst ds) :: s)) P = (ds.length + es.length ≤ 100000 ∧ P (.n (.lst (ds ++ es)), a0 :: a1 :: a2 :: a3 :: a4 :: a5 :: a6 :: a7 :: a8 :: a9 :: a10 :: a11 :: .own (.lst ds) :: s)) := u_addO rfl
theorem ri12 {x : SV} {a0 a1 a2 a3 a4 a5 a6 a7 a8 a9 a10 a11 : SV} : (a0 :: a1 :: a2 :: a3 :: a4 :: a5 :: a6 :: a7 :: a8 :: a9 :: a10 :: a11 :: x :: s)[12]? = some x := rfl
theorem rt12 {x y : SV} {a0 a1 a2 a3 a4 a5 a6 a7 a8 a9 a10 a11 : SV} : List.set (a0 :: a1 :: a2 :: a3 :: a4 :: a5 :: a6 :: a7 :: a8 :: a9 :: a10 :: a11 :: x :: s) 12 y = a0 :: a1 :: a2 :: a3 :: a4 :: a5 :: a6 :: a7 :: a8 :: a9 :: a10 :: a11 :: y :: s := rfl
theorem rv13 {a0 a1 a2 a3 a4 a5 a6 a7 a8 a9 a10 a11 a12 : SV} : Rn (wVar 13 (a0 :: a1 :: a2 :: a3 :: a4 :: a5 :: a6 :: a7 :: a8 :: a9 :: a10 :: a11 :: a12 :: .dat d :: s)) P = P (.d d, a0 :: a1 :: a2 :: a3 :: a4 :: a5 :: a6 :: a7 :: a8 :: a9 :: a10 :: a11 :: a12 :: .dat d :: s) := rn_of (by rfl)
theorem ro13 {a0 a1 a2 a3 a4 a5 a6 a7 a8 a9 a10 a11 a12 : SV} : Rn (wVar 13 (a0 :: a1 :: a2 :: a3 :: a4 :: a5 :: a6 :: a7 :: a8 :: a9 :: a10 :: a11 :: a12 :: .own d :: s)) P = P (.o 13, a0 :: a1 :: a2 :: a3 :: a4 :: a5 :: a6 :: a7 :: a8 :: a9 :: a10 :: a11 :: a12 :: .own d :: s) := rn_of (by rfl)
theorem rb13 {x : SV} {a0 a1 a2 a3 a4 a5 a6 a7 a8 a9 a10 a11 a12 : SV} : Rn (bindV 13 (.d d) (a0 :: a1 :: a2 :: a3 :: a4 :: a5 :: a6 :: a7 :: a8 :: a9 :: a10 :: a11 :: a12 :: x :: s)) G = G (a0 :: a1 :: a2 :: a3 :: a4 :: a5 :: a6 :: a7 :: a8 :: a9 :: a10 :: a11 :: a12 :: .dat d :: s) := rn_of (by rfl)
theorem rn13 {x : SV} {a0 a1 a2 a3 a4 a5 a6 a7 a8 a9 a10 a11 a12 : SV} : Rn (bindV 13 (.n d) (a0 :: a1 :: a2 :: a3 :: a4 :: a5 :: a6 :: a7 :: a8 :: a9 :: a10 :: a11 :: a12 :: x :: s)) G = G (a0 :: a1 :: a2 :: a3 :: a4 :: a5 :: a6 :: a7 :: a8 :: a9 :: a10 :: a11 :: a12 :: .own d :: s) := rn_of (by rfl)
theorem rs13 {a0 a1 a2 a3 a4 a5 a6 a7 a8 a9 a10 a11 a12 : SV} : Rn (sto (.o 13) (a0 :: a1 :: a2 :: a3 :: a4 :: a5 :: a6 :: a7 :: a8 :: a9 :: a10 :: a11 :: a12 :: .own d :: s)) T = T (d, a0 :: a1 :: a2 :: a3 :: a4 :: a5 :: a6 :: a7 :: a8 :: a9 :: a10 :: a11 :: a12 :: .dat d :: s) := rn_of (by rfl)
theorem rl13 {a0 a1 a2 a3 a4 a5 a6 a7 a8 a9 a10 a11 a12 : SV} : Rn (ownL (a0 :: a1 :: a2 :: a3 :: a4 :: a5 :: a6 :: a7 :: a8 :: a9 :: a10 :: a11 :: a12 :: .own (.lst ds) :: s) 13) L = L ds := rn_of (by rfl)
theorem ra13 {ms : List Bool} {rs : List RV} {a0 a1 a2 a3 a4 a5 a6 a7 a8 a9 a10 a11 a12 : SV} : Rn (argsW (true :: ms) (.o 13 :: rs) (a0 :: a1 :: a2 :: a3 :: a4 :: a5 :: a6 :: a7 :: a8 :: a9 :: a10 :: a11 :: a12 :: .own d :: s)) A = Rn (argsW ms rs (a0 :: a1 :: a2 :: a3 :: a4 :: a5 :: a6 :: a7 :: a8 :: a9 :: a10 :: a11 :: a12 :: .un :: s)) fun q => A (.own d :: q.1, some 13 :: q.2.1, q.2.2) := by show Rn ((argsW ms rs (a0 :: a1 :: a2 :: a3 :: a4 :: a5 :: a6 :: a7 :: a8 :: a9 :: a10 :: a11 :: a12 :: .un :: s)).bind _) A = _; rw [rn_bind]; simp only [rn_some]
theorem rk13 {x : SV} {mv : List (Option Nat)} {as : List SV} {a0 a1 a2 a3 a4 a5 a6 a7 a8 a9 a10 a11 a12 : SV} : Rn (backA (some 13 :: mv) (.own d :: as) (a0 :: a1 :: a2 :: a3 :: a4 :: a5 :: a6 :: a7 :: a8 :: a9 :: a10 :: a11 :: a12 :: x :: s)) G = Rn (backA mv as (a0 :: a1 :: a2 :: a3 :: a4 :: a5 :: a6 :: a7 :: a8 :: a9 :: a10 :: a11 :: a12 :: .own d :: s)) G := rfl
theorem rx13 {k : Int} {a0 a1 a2 a3 a4 a5 a6 a7 a8 a9 a10 a11 a12 : SV} : Rn (fIxA (.o 13) (.d (.int k)) (a0 :: a1 :: a2 :: a3 :: a4 :: a5 :: a6 :: a7 :: a8 :: a9 :: a10 :: a11 :: a12 :: .own (.lst ds) :: s)) P = Rn (atI ds k) fun d => P (.d d, a0 :: a1 :: a2 :: a3 :: a4 :: a5 :: a6 :: a7 :: a8 :: a9 :: a10 :: a11 :: a12 :: .own (.lst ds) :: s) := u_ixO rfl
theorem rg13 {w : WE} {r : RV} {a0 a1 a2 a3 a4 a5 a6 a7 a8 a9 a10 a11 a12 : SV} : Rn (wgSub 13 w r (a0 :: a1 :: a2 :: a3 :: a4 :: a5 :: a6 :: a7 :: a8 :: a9 :: a10 :: a11 :: a12 :: .own (.lst ds) :: s)) G = Rn (w (a0 :: a1 :: a2 :: a3 :: a4 :: a5 :: a6 :: a7 :: a8 :: a9 :: a10 :: a11 :: a12 :: .own (.lst ds) :: s)) fun p => Rn (kSubL 13 r p) G := u_subL (ds := ds) rfl
theorem rh13 {a0 a1 a2 a3 a4 a5 a6 a7 a8 a9 a10 a11 a12 : SV} : Rn (fLen (.o 13) (a0 :: a1 :: a2 :: a3 :: a4 :: a5 :: a6 :: a7 :: a8 :: a9 :: a10 :: a11 :: a12 :: .own (.lst ds) :: s)) P = P (.d (.int (ds.length : Nat)), a0 :: a1 :: a2 :: a3 :: a4 :: a5 :: a6 :: a7 :: a8 :: a9 :: a10 :: a11 :: a12 :: .own (.lst ds) :: s) := rn_of (by rfl)
theorem rp13 {es : List Da} {a0 a1 a2 a3 a4 a5 a6 a7 a8 a9 a10 a11 a12 : SV} : Rn (fAdd (.o 13) (.n (.lst es)) (a0 :: a1 :: a2 :: a3 :: a4 :: a5 :: a6 :: a7 :: a8 :: a9 :: a10 :: a11 :: a12 :: .own (.lst ds) :: s)) P = (ds.length + es.length ≤ 100000 ∧ P (.n (.lst (ds ++ es)), a0 :: a1 :: a2 :: a3 :: a4 :: a5 :: a6 :: a7 :: a8 :: a9 :: a10 :: a11 :: a12 :: .own (.lst ds) :: s)) := u_addO rfl
theorem ri13 {x : SV} {a0 a1 a2 a3 a4 a5 a6 a7 a8 a9 a10 a11 a12 : SV} : (a0 :: a1 :: a2 :: a3 :: a4 :: a5 :: a6 :: a7 :: a8 :: a9 :: a10 :: a11 :: a12 :: x :: s)[13]? = some x := rfl
theorem rt13 {x y : SV} {a0 a1 a2 a3 a4 a5 a6 a7 a8 a9 a10 a11 a12 : SV} : List.set (a0 :: a1 :: a2 :: a3 :: a4 :: a5 :: a6 :: a7 :: a8 :: a9 :: a10 :: a11 :: a12 :: x :: s) 13 y = a0 :: a1 :: a2 :: a3 :: a4 :: a5 :: a6 :: a7 :: a8 :: a9 :: a10 :: a11 :: a12 :: y :: s := rfl
theorem rv14 {a0 a1 a2 a3 a4 a5 a6 a7 a8 a9 a10 a11 a12 a13 : SV} : Rn (wVar 14 (a0 :: a1 :: a2 :: a3 :: a4 :: a5 :: a6 :: a7 :: a8 :: a9 :: a10 :: a11 :: a12 :: a13 :: .dat d :: s)) P = P (.d d, a0 :: a1 :: a2 :: a3 :: a4 :: a5 :: a6 :: a7 :: a8 :: a9 :: a10 :: a11 :: a12 :: a13 :: .dat d :: s) := rn_of (by rfl)
theorem ro14 {a0 a1 a2 a3 a4 a5 a6 a7 a8 a9 a10 a11 a12 a13 : SV} : Rn (wVar 14 (a0 :: a1 :: a2 :: a3 :: a4 :: a5 :: a6 :: a7 :: a8 :: a9 :: a10 :: a11 :: a12 :: a13 :: .own d :: s)) P = P (.o 14, a0 :: a1 :: a2 :: a3 :: a4 :: a5 :: a6 :: a7 :: a8 :: a9 :: a10 :: a11 :: a12 :: a13 :: .own d :: s) := rn_of (by rfl)
theorem rb14 {x : SV} {a0 a1 a2 a3 a4 a5 a6 a7 a8 a9 a10 a11 a12 a13 : SV} : Rn (bindV 14 (.d d) (a0 :: a1 :: a2 :: a3 :: a4 :: a5 :: a6 :: a7 :: a8 :: a9 :: a10 :: a11 :: a12 :: a13 :: x :: s)) G = G (a0 :: a1 :: a2 :: a3 :: a4 :: a5 :: a6 :: a7 :: a8 :: a9 :: a10 :: a11 :: a12 :: a13 :: .dat d :: s) := rn_of (by rfl)
theorem rn14 {x : SV} {a0 a1 a2 a3 a4 a5 a6 a7 a8 a9 a10 a11 a12 a13 : SV} : Rn (bindV 14 (.n d) (a0 :: a1 :: a2 :: a3 :: a4 :: a5 :: a6 :: a7 :: a8 :: a9 :: a10 :: a11 :: a12 :: a13 :: x :: s)) G = G (a0 :: a1 :: a2 :: a3 :: a4 :: a5 :: a6 :: a7 :: a8 :: a9 :: a10 :: a11 :: a12 :: a13 :: .own d :: s) := rn_of (by rfl)
theorem rs14 {a0 a1 a2 a3 a4 a5 a6 a7 a8 a9 a10 a11 a12 a13 : SV} : Rn (sto (.o 14) (a0 :: a1 :: a2 :: a3 :: a4 :: a5 :: a6 :: a7 :: a8 :: a9 :: a10 :: a11 :: a12 :: a13 :: .own d :: s)) T = T (d, a0 :: a1 :: a2 :: a3 :: a4 :: a5 :: a6 :: a7 :: a8 :: a9 :: a10 :: a11 :: a12 :: a13 :: .dat d :: s) := rn_of (by rfl)
theorem rl14 {a0 a1 a2 a3 a4 a5 a6 a7 a8 a9 a10 a11 a12 a13 : SV} : Rn (ownL (a0 :: a1 :: a2 :: a3 :: a4 :: a5 :: a6 :: a7 :: a8 :: a9 :: a10 :: a11 :: a12 :: a13 :: .own (.lst ds) :: s) 14) L = L ds := rn_of (by rfl)
theorem ra14 {ms : List Bool} {rs : List RV} {a0 a1 a2 a3 a4 a5 a6 a7 a8 a9 a10 a11 a12 a13 : SV} : Rn (argsW (true :: ms) (.o 14 :: rs) (a0 :: a1 :: a2 :: a3 :: a4 :: a5 :: a6 :: a7 :: a8 :: a9 :: a10 :: a11 :: a12 :: a13 :: .own d :: s)) A = Rn (argsW ms rs (a0 :: a1 :: a2 :: a3 :: a4 :: a5 :: a6 :: a7 :: a8 :: a9 :: a10 :: a11 :: a12 :: a13 :: .un :: s)) fun q => A (.own d :: q.1, some 14 :: q.2.1, q.2.2) := by show Rn ((argsW ms rs (a0 :: a1 :: a2 :: a3 :: a4 :: a5 :: a6 :: a7 :: a8 :: a9 :: a10 :: a11 :: a12 :: a13 :: .un :: s)).bind _) A = _; rw [rn_bind]; simp only [rn_some]
theorem rk14 {x : SV} {mv : List (Option Nat)} {as : List SV} {a0 a1 a2 a3 a4 a5 a6 a7 a8 a9 a10 a11 a12 a13 : SV} : Rn (backA (some 14 :: mv) (.own d :: as) (a0 :: a1 :: a2 :: a3 :: a4 :: a5 :: a6 :: a7 :: a8 :: a9 :: a10 :: a11 :: a12 :: a13 :: x :: s)) G = Rn (backA mv as (a0 :: a1 :: a2 :: a3 :: a4 :: a5 :: a6 :: a7 :: a8 :: a9 :: a10 :: a11 :: a12 :: a13 :: .own d :: s)) G := rfl
theorem rx14 {k : Int} {a0 a1 a2 a3 a4 a5 a6 a7 a8 a9 a10 a11 a12 a13 : SV} : Rn (fIxA (.o 14) (.d (.int k)) (a0 :: a1 :: a2 :: a3 :: a4 :: a5 :: a6 :: a7 :: a8 :: a9 :: a10 :: a11 :: a12 :: a13 :: .own (.lst ds) :: s)) P = Rn (atI ds k) fun d => P (.d d, a0 :: a1 :: a2 :: a3 :: a4 :: a5 :: a6 :: a7 :: a8 :: a9 :: a10 :: a11 :: a12 :: a13 :: .own (.lst ds) :: s) := u_ixO rfl
theorem rg14 {w : WE} {r : RV} {a0 a1 a2 a3 a4 a5 a6 a7 a8 a9 a10 a11 a12 a13 : SV} : Rn (wgSub 14 w r (a0 :: a1 :: a2 :: a3 :: a4 :: a5 :: a6 :: a7 :: a8 :: a9 :: a10 :: a11 :: a12 :: a13 :: .own (.lst ds) :: s)) G = Rn (w (a0 :: a1 :: a2 :: a3 :: a4 :: a5 :: a6 :: a7 :: a8 :: a9 :: a10 :: a11 :: a12 :: a13 :: .own (.lst ds) :: s)) fun p => Rn (kSubL 14 r p) G := u_subL (ds := ds) rfl
theorem rh14 {a0 a1 a2 a3 a4 a5 a6 a7 a8 a9 a10 a11 a12 a13 : SV} : Rn (fLen (.o 14) (a0 :: a1 :: a2 :: a3 :: a4 :: a5 :: a6 :: a7 :: a8 :: a9 :: a10 :: a11 :: a12 :: a13 :: .own (.lst ds) :: s)) P = P (.d (.int (ds.length : Nat)), a0 :: a1 :: a2 :: a3 :: a4 :: a5 :: a6 :: a7 :: a8 :: a9 :: a10 :: a11 :: a12 :: a13 :: .own (.lst ds) :: s) := rn_of (by rfl)
theorem rp14 {es : List Da} {a0 a1 a2 a3 a4 a5 a6 a7 a8 a9 a10 a11 a12 a13 : SV} : Rn (fAdd (.o 14) (.n (.lst es)) (a0 :: a1 :: a2 :: a3 :: a4 :: a5 :: a6 :: a7 :: a8 :: a9 :: a10 :: a11 :: a12 :: a13 :: .own (.lst ds) :: s)) P = (ds.length + es.length ≤ 100000 ∧ P (.n (.lst (ds ++ es)), a0 :: a1 :: a2 :: a3 :: a4 :: a5 :: a6 :: a7 :: a8 :: a9 :: a10 :: a11 :: a12 :: a13 :: .own (.lst ds) :: s)) := u_addO rfl
theorem ri14 {x : SV} {a0 a1 a2 a3 a4 a5 a6 a7 a8 a9 a10 a11 a12 a13 : SV} : (a0 :: a1 :: a2 :: a3 :: a4 :: a5 :: a6 :: a7 :: a8 :: a9 :: a10 :: a11 :: a12 :: a13 :: x :: s)[14]? = some x := rfl
theorem rt14 {x y : SV} {a0 a1 a2 a3 a4 a5 a6 a7 a8 a9 a10 a11 a12 a13 : SV} : List.set (a0 :: a1 :: a2 :: a3 :: a4 :: a5 :: a6 :: a7 :: a8 :: a9 :: a10 :: a11 :: a12 :: a13 :: x :: s) 14 y = a0 :: a1 :: a2 :: a3 :: a4 :: a5 :: a6 :: a7 :: a8 :: a9 :: a10 :: a11 :: a12 :: a13 :: y :: s := rfl
theorem rv15 {a0 a1 a2 a3 a4 a5 a6 a7 a8 a9 a10 a11 a12 a13 a14 : SV} : Rn (wVar 15 (a0 :: a1 :: a2 :: a3 :: a4 :: a5 :: a6 :: a7 :: a8 :: a9 :: a10 :: a11 :: a12 :: a13 :: a14 :: .dat d :: s)) P = P (.d d, a0 :: a1 :: a2 :: a3 :: a4 :: a5 :: a6 :: a7 :: a8 :: a9 :: a10 :: a11 :: a12 :: a13 :: a14 :: .dat d :: s) := rn_of (by rfl)
theorem ro15 {a0 a1 a2 a3 a4 a5 a6 a7 a8 a9 a10 a11 a12 a13 a14 : SV} : Rn (wVar 15 (a0 :: a1 :: a2 :: a3 :: a4 :: a5 :: a6 :: a7 :: a8 :: a9 :: a10 :: a11 :: a12 :: a13 :: a14 :: .own d :: s)) P = P (.o 15, a0 :: a1 :: a2 :: a3 :: a4 :: a5 :: a6 :: a7 :: a8 :: a9 :: a10 :: a11 :: a12 :: a13 :: a14 :: .own d :: s) := rn_of (by rfl)
theorem rb15 {x : SV} {a0 a1 a2 a3 a4 a5 a6 a7 a8 a9 a10 a11 a12 a13 a14 : SV} : Rn (bindV 15 (.d d) (a0 :: a1 :: a2 :: a3 :: a4 :: a5 :: a6 :: a7 :: a8 :: a9 :: a10 :: a11 :: a12 :: a13 :: a14 :: x :: s)) G = G (a0 :: a1 :: a2 :: a3 :: a4 :: a5 :: a6 :: a7 :: a8 :: a9 :: a10 :: a11 :: a12 :: a13 :: a14 :: .dat d :: s) := rn_of (by rfl)
theorem rn15 {x : SV} {a0 a1 a2 a3 a4 a5 a6 a7 a8 a9 a10 a11 a12 a13 a14 : SV} : Rn (bindV 15 (.n d) (a0 :: a1 :: a2 :: a3 :: a4 :: a5 :: a6 :: a7 :: a8 :: a9 :: a10 :: a11 :: a12 :: a13 :: a14 :: x :: s)) G = G (a0 :: a1 :: a2 :: a3 :: a4 :: a5 :: a6 :: a7 :: a8 :: a9 :: a10 :: a11 :: a12 :: a13 :: a14 :: .own d :: s) := rn_of (by rfl)
theorem rs15 {a0 a1 a2 a3 a4 a5 a6 a7 a8 a9 a10 a11 a12 a13 a14 : SV} : Rn (sto (.o 15) (a0 :: a1 :: a2 :: a3 :: a4 :: a5 :: a6 :: a7 :: a8 :: a9 :: a10 :: a11 :: a12 :: a13 :: a14 :: .own d :: s)) T = T (d, a0 :: a1 :: a2 :: a3 :: a4 :: a5 :: a6 :: a7 :: a8 :: a9 :: a10 :: a11 :: a12 :: a13 :: a14 :: .dat d :: s) := rn_of (by rfl)
theorem rl15 {a0 a1 a2 a3 a4 a5 a6 a7 a8 a9 a10 a11 a12 a13 a14 : SV} : Rn (ownL (a0 :: a1 :: a2 :: a3 :: a4 :: a5 :: a6 :: a7 :: a8 :: a9 :: a10 :: a11 :: a12 :: a13 :: a14 :: .own (.lst ds) :: s) 15) L = L ds := rn_of (by rfl)
theorem ra15 {ms : List Bool} {rs : List RV} {a0 a1 a2 a3 a4 a5 a6 a7 a8 a9 a10 a11 a12 a13 a14 : SV} : Rn (argsW (true :: ms) (.o 15 :: rs) (a0 :: a1 :: a2 :: a3 :: a4 :: a5 :: a6 :: a7 :: a8 :: a9 :: a10 :: a11 :: a12 :: a13 :: a14 :: .own d :: s)) A = Rn (argsW ms rs (a0 :: a1 :: a2 :: a3 :: a4 :: a5 :: a6 :: a7 :: a8 :: a9 :: a10 :: a11 :: a12 :: a13 :: a14 :: .un :: s)) fun q => A (.own d :: q.1, some 15 :: q.2.1, q.2.2) := by show Rn ((argsW ms rs (a0 :: a1 :: a2 :: a3 :: a4 :: a5 :: a6 :: a7 :: a8 :: a9 :: a10 :: a11 :: a12 :: a13 :: a14 :: .un :: s)).bind _) A = _; rw [rn_bind]; simp only [rn_some]
theorem rk15 {x : SV} {mv : List (Option Nat)} {as : List SV} {a0 a1 a2 a3 a4 a5 a6 a7 a8 a9 a10 a11 a12 a13 a14 : SV} : Rn (backA (some 15 :: mv) (.own d :: as) (a0 :: a1 :: a2 :: a3 :: a4 :: a5 :: a6 :: a7 :: a8 :: a9 :: a10 :: a11 :: a12 :: a13 :: a14 :: x :: s)) G = Rn (backA mv as (a0 :: a1 :: a2 :: a3 :: a4 :: a5 :: a6 :: a7 :: a8 :: a9 :: a10 :: a11 :: a12 :: a13 :: a14 :: .own d :: s)) G := rfl
theorem rx15 {k : Int} {a0 a1 a2 a3 a4 a5 a6 a7 a8 a9 a10 a11 a12 a13 a14 : SV} : Rn (fIxA (.o 15) (.d (.int k)) (a0 :: a1 :: a2 :: a3 :: a4 :: a5 :: a6 :: a7 :: a8 :: a9 :: a10 :: a11 :: a12 :: a13 :: a14 :: .own (.lst ds) :: s)) P = Rn (atI ds k) fun d => P (.d d, a0 :: a1 :: a2 :: a3 :: a4 :: a5 :: a6 :: a7 :: a8 :: a9 :: a10 :: a11 :: a12 :: a13 :: a14 :: .own (.lst ds) :: s) := u_ixO rfl
theorem rg15 {w : WE} {r : RV} {a0 a1 a2 a3 a4 a5 a6 a7 a8 a9 a10 a11 a12 a13 a14 : SV} : Rn (wgSub 15 w r (a0 :: a1 :: a2 :: a3 :: a4 :: a5 :: a6 :: a7 :: a8 :: a9 :: a10 :: a11 :: a12 :: a13 :: a14 :: .own (.lst ds) :: s)) G = Rn (w (a0 :: a1 :: a2 :: a3 :: a4 :: a5 :: a6 :: a7 :: a8 :: a9 :: a10 :: a11 :: a12 :: a13 :: a14 :: .own (.lst ds) :: s)) fun p => Rn (kSubL 15 r p) G := u_subL (ds := ds) rfl
theorem rh15 {a0 a1 a2 a3 a4 a5 a6 a7 a8 a9 a10 a11 a12 a13 a14 : SV} : Rn (fLen (.o 15) (a0 :: a1 :: a2 :: a3 :: a4 :: a5 :: a6 :: a7 :: a8 :: a9 :: a10 :: a11 :: a12 :: a13 :: a14 :: .own (.lst ds) :: s)) P = P (.d (.int (ds.length : Nat)), a0 :: a1 :: a2 :: a3 :: a4 :: a5 :: a6 :: a7 :: a8 :: a9 :: a10 :: a11 :: a12 :: a13 :: a14 :: .own (.lst ds) :: s) := rn_of (by rfl)
theorem rp15 {es : List Da} {a0 a1 a2 a3 a4 a5 a6 a7 a8 a9 a10 a11 a12 a13 a14 : SV} : Rn (fAdd (.o 15) (.n (.lst es)) (a0 :: a1 :: a2 :: a3 :: a4 :: a5 :: a6 :: a7 :: a8 :: a9 :: a10 :: a11 :: a12 :: a13 :: a14 :: .own (.lst ds) :: s)) P = (ds.length + es.length ≤ 100000 ∧ P (.n (.lst (ds ++ es)), a0 :: a1 :: a2 :: a3 :: a4 :: a5 :: a6 :: a7 :: a8 :: a9 :: a10 :: a11 :: a12 :: a13 :: a14 :: .own (.lst ds) :: s)) := u_addO rfl
theorem ri15 {x : SV} {a0 a1 a2 a3 a4 a5 a6 a7 a8 a9 a10 a11 a12 a13 a14 : SV} : (a0 :: a1 :: a2 :: a3 :: a4 :: a5 :: a6 :: a7 :: a8 :: a9 :: a10 :: a11 :: a12 :: a13 :: a14 :: x :: s)[15]? = some x := rfl
theorem rt15 {x y : SV} {a0 a1 a2 a3 a4 a5 a6 a7 a8 a9 a10 a11 a12 a13 a14 : SV} : List.set (a0 :: a1 :: a2 :: a3 :: a4 :: a5 :: a6 :: a7 :: a8 :: a9 :: a10 :: a11 :: a12 :: a13 :: a14 :: x :: s) 15 y = a0 :: a1 :: a2 :: a3 :: a4 :: a5 :: a6 :: a7 :: a8 :: a9 :: a10 :: a11 :: a12 :: a13 :: a14 :: y :: s := rfl
theorem rv16 {a0 a1 a2 a3 a4 a5 a6 a7 a8 a9 a10 a11 a12 a13 a14 a15 : SV} : Rn (wVar 16 (a0 :: a1 :: a2 :: a3 :: a4 :: a5 :: a6 :: a7 :: a8 :: a9 :: a10 :: a11 :: a12 :: a13 :: a14 :: a15 :: .dat d :: s)) P = P (.d d, a0 :: a1 :: a2 :: a3 :: a4 :: a5 :: a6 :: a7 :: a8 :: a9 :: a10 :: a11 :: a12 :: a13 :: a14 :: a15 :: .dat d :: s) := rn_of (by rfl)
theorem ro16 {a0 a1 a2 a3 a4 a5 a6 a7 a8 a9 a10 a11 a12 a13 a14 a15 : SV} : Rn (wVar 16 (a0 :: a1 :: a2 :: a3 :: a4 :: a5 :: a6 :: a7 :: a8 :: a9 :: a10 :: a11 :: a12 :: a13 :: a14 :: a15 :: .own d :: s)) P = P (.o 16, a0 :: a1 :: a2 :: a3 :: a4 :: a5 :: a6 :: a7 :: a8 :: a9 :: a10 :: a11 :: a12 :: a13 :: a14 :: a15 :: .own d :: s) := rn_of (by rfl)
theorem rb16 {x : SV} {a0 a1 a2 a3 a4 a5 a6 a7 a8 a9 a10 a11 a12 a13 a14 a15 : SV} : Rn (bindV 16 (.d d) (a0 :: a1 :: a2 :: a3 :: a4 :: a5 :: a6 :: a7 :: a8 :: a9 :: a10 :: a11 :: a12 :: a13 :: a14 :: a15 :: x :: s)) G = G (a0 :: a1 :: a2 :: a3 :: a4 :: a5 :: a6 :: a7 :: a8 :: a9 :: a10 :: a11 :: a12 :: a13 :: a14 :: a15 :: .dat d :: s) := rn_of (by rfl)
theorem rn16 {x : SV} {a0 a1 a2 a3 a4 a5 a6 a7 a8 a9 a10 a11 a12 a13 a14 a15 : SV} : Rn (bindV 16 (.n d) (a0 :: a1 :: a2 :: a3 :: a4 :: a5 :: a6 :: a7 :: a8 :: a9 :: a10 :: a11 :: a12 :: a13 :: a14 :: a15 :: x :: s)) G = G (a0 :: a1 :: a2 :: a3 :: a4 :: a5 :: a6 :: a7 :: a8 :: a9 :: a10 :: a11 :: a12 :: a13 :: a14 :: a15 :: .own d :: s) := rn_of (by rfl)
theorem rs16 {a0 a1 a2 a3 a4 a5 a6 a7 a8 a9 a10 a11 a12 a13 a14 a15 : SV} : Rn (sto (.o 16) (a0 :: a1 :: a2 :: a3 :: a4 :: a5 :: a6 :: a7 :: a8 :: a9 :: a10 :: a11 :: a12 :: a13 :: a14 :: a15 :: .own d :: s)) T = T (d, a0 :: a1 :: a2 :: a3 :: a4 :: a5 :: a6 :: a7 :: a8 :: a9 :: a10 :: a11 :: a12 :: a13 :: a14 :: a15 :: .dat d :: s) := rn_of (by rfl)
theorem rl16 {a0 a1 a2 a3 a4 a5 a6 a7 a8 a9 a10 a11 a12 a13 a14 a15 : SV} : Rn (ownL (a0 :: a1 :: a2 :: a3 :: a4 :: a5 :: a6 :: a7 :: a8 :: a9 :: a10 :: a11 :: a12 :: a13 :: a14 :: a15 :: .own (.lst ds) :: s) 16) L = L ds := rn_of (by rfl)
theorem ra16 {ms : List Bool} {rs : List RV} {a0 a1 a2 a3 a4 a5 a6 a7 a8 a9 a10 a11 a12 a13 a14 a15 : SV} : Rn (argsW (true :: ms) (.o 16 :: rs) (a0 :: a1 :: a2 :: a3 :: a4 :: a5 :: a6 :: a7 :: a8 :: a9 :: a10 :: a11 :: a12 :: a13 :: a14 :: a15 :: .own d :: s)) A = Rn (argsW ms rs (a0 :: a1 :: a2 :: a3 :: a4 :: a5 :: a6 :: a7 :: a8 :: a9 :: a10 :: a11 :: a12 :: a13 :: a14 :: a15 :: .un :: s)) fun q => A (.own d :: q.1, some 16 :: q.2.1, q.2.2) := by show Rn ((argsW ms rs (a0 :: a1 :: a2 :: a3 :: a4 :: a5 :: a6 :: a7 :: a8 :: a9 :: a10 :: a11 :: a12 :: a13 :: a14 :: a15 :: .un :: s)).bind _) A = _; rw [rn_bind]; simp only [rn_some]
theorem rk16 {x : SV} {mv : List (Option Nat)} {as : List SV} {a0 a1 a2 a3 a4 a5 a6 a7 a8 a9 a10 a11 a12 a13 a14 a15 : SV} : Rn (backA (some 16 :: mv) (.own d :: as) (a0 :: a1 :: a2 :: a3 :: a4 :: a5 :: a6 :: a7 :: a8 :: a9 :: a10 :: a11 :: a12 :: a13 :: a14 :: a15 :: x :: s)) G = Rn (backA mv as (a0 :: a1 :: a2 :: a3 :: a4 :: a5 :: a6 :: a7 :: a8 :: a9 :: a10 :: a11 :: a12 :: a13 :: a14 :: a15 :: .own d :: s)) G := rfl
theorem rx16 {k : Int} {a0 a1 a2 a3 a4 a5 a6 a7 a8 a9 a10 a11 a12 a13 a14 a15 : SV} : Rn (fIxA (.o 16) (.d (.int k)) (a0 :: a1 :: a2 :: a3 :: a4 :: a5 :: a6 :: a7 :: a8 :: a9 :: a10 :: a11 :: a12 :: a13 :: a14 :: a15 :: .own (.lst ds) :: s)) P = Rn (atI ds k) fun d => P (.d d, a0 :: a1 :: a2 :: a3 :: a4 :: a5 :: a6 :: a7 :: a8 :: a9 :: a10 :: a11 :: a12 :: a13 :: a14 :: a15 :: .own (.lst ds) :: s) := u_ixO rfl
theorem rg16 {w : WE} {r : RV} {a0 a1 a2 a3 a4 a5 a6 a7 a8 a9 a10 a11 a12 a13 a14 a15 : SV} : Rn (wgSub 16 w r (a0 :: a1 :: a2 :: a3 :: a4 :: a5 :: a6 :: a7 :: a8 :: a9 :: a10 :: a11 :: a12 :: a13 :: a14 :: a15 :: .own (.lst ds) :: s)) G = Rn (w (a0 :: a1 :: a2 :: a3 :: a4 :: a5 :: a6 :: a7 :: a8 :: a9 :: a10 :: a11 :: a12 :: a13 :: a14 :: a15 :: .own (.lst ds) :: s)) fun p => Rn (kSubL 16 r p) G := u_subL (ds := ds) rfl
theorem rh16 {a0 a1 a2 a3 a4 a5 a6 a7 a8 a9 a10 a11 a12 a13 a14 a15 : SV} : Rn (fLen (.o 16) (a0 :: a1 :: a2 :: a3 :: a4 :: a5 :: a6 :: a7 :: a8 :: a9 :: a10 :: a11 :: a12 :: a13 :: a14 :: a15 :: .own (.lst ds) :: s)) P = P (.d (.int (ds.length : Nat)), a0 :: a1 :: a2 :: a3 :: a4 :: a5 :: a6 :: a7 :: a8 :: a9 :: a10 :: a11 :: a12 :: a13 :: a14 :: a15 :: .own (.lst ds) :: s) := rn_of (by rfl)
theorem rp16 {es : List Da} {a0 a1 a2 a3 a4 a5 a6 a7 a8 a9 a10 a11 a12 a13 a14 a15 : SV} : Rn (fAdd (.o 16) (.n (.lst es)) (a0 :: a1 :: a2 :: a3 :: a4 :: a5 :: a6 :: a7 :: a8 :: a9 :: a10 :: a11 :: a12 :: a13 :: a14 :: a15 :: .own (.lst ds) :: s)) P = (ds.length + es.length ≤ 100000 ∧ P (.n (.lst (ds ++ es)), a0 :: a1 :: a2 :: a3 :: a4 :: a5 :: a6 :: a7 :: a8 :: a9 :: a10 :: a11 :: a12 :: a13 :: a14 :: a15 :: .own (.lst ds) :: s)) := u_addO rfl
theorem ri16 {x : SV} {a0 a1 a2 a3 a4 a5 a6 a7 a8 a9 a10 a11 a12 a13 a14 a15 : SV} : (a0 :: a1 :: a2 :: a3 :: a4 :: a5 :: a6 :: a7 :: a8 :: a9 :: a10 :: a11 :: a12 :: a13 :: a14 :: a15 :: x :: s)[16]? = some x := rfl
theorem rt16 {x y : SV} {a0 a1 a2 a3 a4 a5 a6 a7 a8 a9 a10 a11 a12 a13 a14 a15 : SV} : List.set (a0 :: a1 :: a2 :: a3 :: a4 :: a5 :: a6 :: a7 :: a8 :: a9 :: a10 :: a11 :: a12 :: a13 :: a14 :: a15 :: x :: s) 16 y = a0 :: a1 :: a2 :: a3 :: a4 :: a5 :: a6 :: a7 :: a8 :: a9 :: a10 :: a11 :: a12 :: a13 :: a14 :: a15 :: y :: s := rfl
theorem rv17 {a0 a1 a2 a3 a4 a5 a6 a7 a8 a9 a10 a11 a12 a13 a14 a15 a16 : SV} : Rn (wVar 17 (a0 :: a1 :: a2 :: a3 :: a4 :: a5 :: a6 :: a7 :: a8 :: a9 :: a10 :: a11 :: a12 :: a13 :: a14 :: a15 :: a16 :: .dat d :: s)) P = P (.d d, a0 :: a1 :: a2 :: a3 :: a4 :: a5 :: a6 :: a7 :: a8 :: a9 :: a10 :: a11 :: a12 :: a13 :: a14 :: a15 :: a16 :: .dat d :: s) := rn_of (by rfl)
theorem ro17 {a0 a1 a2 a3 a4 a5 a6 a7 a8 a9 a10 a11 a12 a13 a14 a15 a16 : SV} : Rn (wVar 17 (a0 :: a1 :: a2 :: a3 :: a4 :: a5 :: a6 :: a7 :: a8 :: a9 :: a10 :: a11 :: a12 :: a13 :: a14 :: a15 :: a16 :: .own d :: s)) P = P (.o 17, a0 :: a1 :: a2 :: a3 :: a4 :: a5 :: a6 :: a7 :: a8 :: a9 :: a10 :: a11 :: a12 :: a13 :: a14 :: a15 :: a16 :: .own d :: s) := rn_of (by rfl)
theorem rb17 {x : SV} {a0 a1 a2 a3 a4 a5 a6 a7 a8 a9 a10 a11 a12 a13 a14 a15 a16 : SV} : Rn (bindV 17 (.d d) (a0 :: a1 :: a2 :: a3 :: a4 :: a5 :: a6 :: a7 :: a8 :: a9 :: a10 :: a11 :: a12 :: a13 :: a14 :: a15 :: a16 :: x :: s)) G = G (a0 :: a1 :: a2 :: a3 :: a4 :: a5 :: a6 :: a7 :: a8 :: a9 :: a10 :: a11 :: a12 :: a13 :: a14 :: a15 :: a16 :: .dat d :: s) := rn_of (by rfl)
theorem rn17 {x : SV} {a0 a1 a2 a3 a4 a5 a6 a7 a8 a9 a10 a11 a12 a13 a14 a15 a16 : SV} : Rn (bindV 17 (.n d) (a0 :: a1 :: a2 :: a3 :: a4 :: a5 :: a6 :: a7 :: a8 :: a9 :: a10 :: a11 :: a12 :: a13 :: a14 :: a15 :: a16 :: x :: s)) G = G (a0 :: a1 :: a2 :: a3 :: a4 :: a5 :: a6 :: a7 :: a8 :: a9 :: a10 :: a11 :: a12 :: a13 :: a14 :: a15 :: a16 :: .own d :: s) := rn_of (by rfl)
theorem rs17 {a0 a1 a2 a3 a4 a5 a6 a7 a8 a9 a10 a11 a12 a13 a14 a15 a16 : SV} : Rn (sto (.o 17) (a0 :: a1 :: a2 :: a3 :: a4 :: a5 :: a6 :: a7 :: a8 :: a9 :: a10 :: a11 :: a12 :: a13 :: a14 :: a15 :: a16 :: .own d :: s)) T = T (d, a0 :: a1 :: a2 :: a3 :: a4 :: a5 :: a6 :: a7 :: a8 :: a9 :: a10 :: a11 :: a12 :: a13 :: a14 :: a15 :: a16 :: .dat d :: s) := rn_of (by rfl)
theorem rl17 {a0 a1 a2 a3 a4 a5 a6 a7 a8 a9 a10 a11 a12 a13 a14 a15 a16 : SV} : Rn (ownL (a0 :: a1 :: a2 :: a3 :: a4 :: a5 :: a6 :: a7 :: a8 :: a9 :: a10 :: a11 :: a12 :: a13 :: a14 :: a15 :: a16 :: .own (.lst ds) :: s) 17) L = L ds := rn_of (by rfl)
theorem ra17 {ms : List Bool} {rs : List RV} {a0 a1 a2 a3 a4 a5 a6 a7 a8 a9 a10 a11 a12 a13 a14 a15 a16 : SV} : Rn (argsW (true :: ms) (.o 17 :: rs) (a0 :: a1 :: a2 :: a3 :: a4 :: a5 :: a6 :: a7 :: a8 :: a9 :: a10 :: a11 :: a12 :: a13 :: a14 :: a15 :: a16 :: .own d :: s)) A = Rn (argsW ms rs (a0 :: a1 :: a2 :: a3 :: a4 :: a5 :: a6 :: a7 :: a8 :: a9 :: a10 :: a11 :: a12 :: a13 :: a14 :: a15 :: a16 :: .un :: s)) fun q => A (.own d :: q.1, some 17 :: q.2.1, q.2.2) := by show Rn ((argsW ms rs (a0 :: a1 :: a2 :: a3 :: a4 :: a5 :: a6 :: a7 :: a8 :: a9 :: a10 :: a11 :: a12 :: a13 :: a14 :: a15 :: a16 :: .un :: s)).bind _) A = _; rw [rn_bind]; simp only [rn_some]
theorem rk17 {x : SV} {mv : List (Option Nat)} {as : List SV} {a0 a1 a2 a3 a4 a5 a6 a7 a8 a9 a10 a11 a12 a13 a14 a15 a16 : SV} : Rn (backA (some 17 :: mv) (.own d :: as) (a0 :: a1 :: a2 :: a3 :: a4 :: a5 :: a6 :: a7 :: a8 :: a9 :: a10 :: a11 :: a12 :: a13 :: a14 :: a15 :: a16 :: x :: s)) G = Rn (backA mv as (a0 :: a1 :: a2 :: a3 :: a4 :: a5 :: a6 :: a7 :: a8 :: a9 :: a10 :: a11 :: a12 :: a13 :: a14 :: a15 :: a16 :: .own d :: s)) G := rfl
theorem rx17 {k : Int} {a0 a1 a2 a3 a4 a5 a6 a7 a8 a9 a10 a11 a12 a13 a14 a15 a16 : SV} : Rn (fIxA (.o 17) (.d (.int k)) (a0 :: a1 :: a2 :: a3 :: a4 :: a5 :: a6 :: a7 :: a8 :: a9 :: a10 :: a11 :: a12 :: a13 :: a14 :: a15 :: a16 :: .own (.lst ds) :: s)) P = Rn (atI ds k) fun d => P (.d d, a0 :: a1 :: a2 :: a3 :: a4 :: a5 :: a6 :: a7 :: a8 :: a9 :: a10 :: a11 :: a12 :: a13 :: a14 :: a15 :: a16 :: .own (.lst ds) :: s) := u_ixO rfl
theorem rg17 {w : WE} {r : RV} {a0 a1 a2 a3 a4 a5 a6 a7 a8 a9 a10 a11 a12 a13 a14 a15 a16 : SV} : Rn (wgSub 17 w r (a0 :: a1 :: a2 :: a3 :: a4 :: a5 :: a6 :: a7 :: a8 :: a9 :: a10 :: a11 :: a12 :: a13 :: a14 :: a15 :: a16 :: .own (.lst ds) :: s)) G = Rn (w (a0 :: a1 :: a2 :: a3 :: a4 :: a5 :: a6 :: a7 :: a8 :: a9 :: a10 :: a11 :: a12 :: a13 :: a14 :: a15 :: a16 :: .own (.lst ds) :: s)) fun p => Rn (kSubL 17 r p) G := u_subL (ds := ds) rfl
theorem rh17 {a0 a1 a2 a3 a4 a5 a6 a7 a8 a9 a10 a11 a12 a13 a14 a15 a16 : SV} : Rn (fLen (.o 17) (a0 :: a1 :: a2 :: a3 :: a4 :: a5 :: a6 :: a7 :: a8 :: a9 :: a10 :: a11 :: a12 :: a13 :: a14 :: a15 :: a16 :: .own (.lst ds) :: s)) P = P (.d (.int (ds.length : Nat)), a0 :: a1 :: a2 :: a3 :: a4 :: a5 :: a6 :: a7 :: a8 :: a9 :: a10 :: a11 :: a12 :: a13 :: a14 :: a15 :: a16 :: .own (.lst ds) :: s) := rn_of (by rfl)
theorem rp17 {es : List Da} {a0 a1 a2 a3 a4 a5 a6 a7 a8 a9 a10 a11 a12 a13 a14 a15 a16 : SV} : Rn (fAdd (.o 17) (.n (.lst es)) (a0 :: a1 :: a2 :: a3 :: a4 :: a5 :: a6 :: a7 :: a8 :: a9 :: a10 :: a11 :: a12 :: a13 :: a14 :: a15 :: a16 :: .own (.lst ds) :: s)) P = (ds.length + es.length ≤ 100000 ∧ P (.n (.lst (ds ++ es)), a0 :: a1 :: a2 :: a3 :: a4 :: a5 :: a6 :: a7 :: a8 :: a9 :: a10 :: a11 :: a12 :: a13 :: a14 :: a15 :: a16 :: .own (.lst ds) :: s)) := u_addO rfl
theorem ri17 {x : SV} {a0 a1 a2 a3 a4 a5 a6 a7 a8 a9 a10 a11 a12 a13 a14 a15 a16 : SV} : (a0 :: a1 :: a2 :: a3 :: a4 :: a5 :: a6 :: a7 :: a8 :: a9 :: a10 :: a11 :: a12 :: a13 :: a14 :: a15 :: a16 :: x :: s)[17]? = some x := rfl
theorem rt17 {x y : SV} {a0 a1 a2 a3 a4 a5 a6 a7 a8 a9 a10 a11 a12 a13 a14 a15 a16 : SV} : List.set (a0 :: a1 :: a2 :: a3 :: a4 :: a5 :: a6 :: a7 :: a8 :: a9 :: a10 :: a11 :: a12 :: a13 :: a14 :: a15 :: a16 :: x :: s) 17 y = a0 :: a1 :: a2 :: a3 :: a4 :: a5 :: a6 :: a7 :: a8 :: a9 :: a10 :: a11 :: a12 :: a13 :: a14 :: a15 :: a16 :: y :: s := rfl
end
end Tw

/-! the tape and its draws -/
namespace Tw
open PySem PySem.Spec PyProof.Rows L2
/-- the tape, good for n draws more -/
def Tp (n : Nat) (d : Da) : Prop := ∃ a b c : Int, d = .lst [.int a, .int b, .int c] ∧ 0 ≤ a ∧ 0 ≤ b ∧ b < 2 ^ 62 ∧ 0 ≤ c ∧ c + n ≤ 1000000000
theorem Tp.le {n m : Nat} {d : Da} (h : Tp n d) (k : m ≤ n) : Tp m d := by
  obtain ⟨a, b, c, rfl, h1, h2, h3, h4, h5⟩ := h
  exact ⟨a, b, c, rfl, h1, h2, h3, h4, by omega⟩
theorem draw_ok {n : Nat} {d : Da} {m : Int} (h : Tp (n + 1) d) (hm : 0 < m) (hM : m ≤ 1000000000) : Rn (w_l_draw [.own d, .dat (.int m)]) fun p => ∃ r d', p = (.d (.int r), [.own d', .dat (.int m)]) ∧ 0 ≤ r ∧ r < m ∧ Tp n d' := by
  obtain ⟨a, b, c, rfl, ha, hb, hb2, hc, hn⟩ := h
  have hm2 : m < 2 ^ 64 := by omega
  unfold w_l_draw
  by_cases h0 : 0 < a
  · simp only [↓u_C, ↓u_nil, ↓u_cons, ↓u_tup, ↓u_lst, ↓u_op, ↓u_and, ↓u_or, ↓u_test, ↓u_not, ↓u_notT, ↓u_andT, ↓u_orT, ↓u_ifE, ↓u_chain, ↓k_chT, ↓k_chF, ↓u_CB, ↓u_isi, ↓u_sl, ↓u_noPart, ↓u_part, ↓u_seq, ↓u_next, ↓u_retN, ↓u_bk, ↓u_ct, ↓u_drop, ↓u_ret, ↓u_if, ↓u_asg, ↓u_par, ↓u_prepN, ↓u_prepD, ↓u_prepO, ↓u_allN, ↓u_allC, ↓u_for, ↓u_loopN, ↓u_loopC, ↓u_it, ↓u_stoD, ↓u_stoN, ↓u_stosN, ↓u_stosC, ↓u_range1, ↓u_enum, ↓u_lc, ↓u_lcN, ↓u_lcC, ↓u_yes, ↓u_call, ↓u_argN, ↓u_argD, ↓u_argM, ↓u_argO, ↓u_argT, ↓u_backN, ↓u_backC, ↓u_fn, ↓k_fnO, ↓u_gtupD, ↓u_gtupN, ↓u_gtupL, ↓u_gtupT, ↓u_gN, ↓u_gC, ↓k_subL, ↓u_meth, ↓u_append, ↓u_popAt, ↓u_ixD, ↓u_ixN, ↓u_ixT, ↓u_ixS, ↓u_ixX, ↓u_mod, ↓u_div, ↓u_pow, ↓u_mul, ↓u_lenX, ↓u_lenL, ↓u_lenT, ↓u_lenC, ↓u_lenN, ↓u_addS, ↓u_isiD, ↓u_isiN, ↓u_zip, ↓u_argL, ↓u_argV, ↓u_dc, ↓u_dcN, ↓u_dcC, ↓k_dcX, ↓u_turn, ↓u_neg, ↓u_frz, ↓u_stoT, ↓u_stoL, ↓u_mulT, ↓u_addT, ↓u_listT, ↓u_listL, ↓u_slT, ↓rn_bind, ↓rn_some, ↓rn_iteT, ↓rn_iteF, ↓rv0, ↓ro0, ↓rb0, ↓rn0, ↓rs0, ↓rl0, ↓ra0, ↓rk0, ↓rx0, ↓rg0, ↓rh0, ↓rp0, ↓rv1, ↓ro1, ↓rb1, ↓rn1, ↓rs1, ↓rl1, ↓ra1, ↓rk1, ↓rx1, ↓rg1, ↓rh1, ↓rp1, ↓rv2, ↓ro2, ↓rb2, ↓rn2, ↓rs2, ↓rl2, ↓ra2, ↓rk2, ↓rx2, ↓rg2, ↓rh2, ↓rp2, ↓rv3, ↓ro3, ↓rb3, ↓rn3, ↓rs3, ↓rl3, ↓ra3, ↓rk3, ↓rx3, ↓rg3, ↓rh3, ↓rp3, ↓rv4, ↓ro4, ↓rb4, ↓rn4, ↓rs4, ↓rl4, ↓ra4, ↓rk4, ↓rx4, ↓rg4, ↓rh4, ↓rp4, ↓rv5, ↓ro5, ↓rb5, ↓rn5, ↓rs5, ↓rl5, ↓ra5, ↓rk5, ↓rx5, ↓rg5, ↓rh5, ↓rp5, ↓rv6, ↓ro6, ↓rb6, ↓rn6, ↓rs6, ↓rl6, ↓ra6, ↓rk6, ↓rx6, ↓rg6, ↓rh6, ↓rp6, ↓rv7, ↓ro7, ↓rb7, ↓rn7, ↓rs7, ↓rl7, ↓ra7, ↓rk7, ↓rx7, ↓rg7, ↓rh7, ↓rp7, ↓rv8, ↓ro8, ↓rb8, ↓rn8, ↓rs8, ↓rl8, ↓ra8, ↓rk8, ↓rx8, ↓rg8, ↓rh8, ↓rp8, ↓rv9, ↓ro9, ↓rb9, ↓rn9, ↓rs9, ↓rl9, ↓ra9, ↓rk9, ↓rx9, ↓rg9, ↓rh9, ↓rp9, ↓rv10, ↓ro10, ↓rb10, ↓rn10, ↓rs10, ↓rl10, ↓ra10, ↓rk10, ↓rx10, ↓rg10, ↓rh10, ↓rp10, ↓rv11, ↓ro11, ↓rb11, ↓rn11, ↓rs11, ↓rl11, ↓ra11, ↓rk11, ↓rx11, ↓rg11, ↓rh11, ↓rp11, ↓rv12, ↓ro12, ↓rb12, ↓rn12, ↓rs12, ↓rl12, ↓ra12, ↓rk12, ↓rx12, ↓rg12, ↓rh12, ↓rp12, ↓rv13, ↓ro13, ↓rb13, ↓rn13, ↓rs13, ↓rl13, ↓ra13, ↓rk13, ↓rx13, ↓rg13, ↓rh13, ↓rp13, ↓rv14, ↓ro14, ↓rb14, ↓rn14, ↓rs14, ↓rl14, ↓ra14, ↓rk14, ↓rx14, ↓rg14, ↓rh14, ↓rp14, ↓rv15, ↓ro15, ↓rb15, ↓rn15, ↓rs15, ↓rl15, ↓ra15, ↓rk15, ↓rx15, ↓rg15, ↓rh15, ↓rp15, ↓rv16, ↓ro16, ↓rb16, ↓rn16, ↓rs16, ↓rl16, ↓ra16, ↓rk16, ↓rx16, ↓rg16, ↓rh16, ↓rp16, ↓rv17, ↓ro17, ↓rb17, ↓rn17, ↓rs17, ↓rl17, ↓ra17, ↓rk17, ↓rx17, ↓rg17, ↓rh17, ↓rp17, rn_some, k_andT, k_andF, k_orT, k_orF, k_B, k_int, k_seqN, k_seqR, k_seqB, k_seqC, k_loopN, k_loopR, k_enum, k_fnN, k_fnD, k_fnNew, e_addI, e_subI, e_ltI, e_leI, e_gtI, e_geI, e_eqI, e_neI, e_abs, e_intI, e_intB, e_at0, e_at1, e_at2, e_ix30, e_ix32, List.set_cons_zero, List.set_cons_succ, f1, List.length_cons, List.length_nil, List.all_cons, List.all_nil, cold, hots, hot, List.map_cons, List.map_nil, List.cons_append, List.nil_append, List.append_nil, List.replicate_succ, List.replicate_zero, List.take_succ_cons, List.take_zero, wipeS, backS, noOwn, Nat.reduceAdd, Nat.reduceSub, Nat.reduceLeDiff, Nat.reduceEqDiff, Bool.and_true, Bool.true_and, Bool.and_false, Bool.false_and, Bool.not_true, Bool.not_false, Bool.false_eq_true, Bool.true_eq_false, reduceCtorEq, true_and, and_true, if_true, if_false, decide_true, decide_false, isOk, isA, String.reduceBEq, turn_f, cut_1, k_zipLL, k_zipTT, k_zipTL, e_isN, e_isNot, isNo, beq_self_eq_true, bne_self_eq_false, e_eqB, e_neB, e_eqX, List.any_cons, List.any_nil, Bool.or_true, Bool.true_or, Bool.or_self, reduceIte, Bool.or_false, Bool.false_or, ri0, rt0, ri1, rt1, ri2, rt2, ri3, rt3, ri4, rt4, ri5, rt5, ri6, rt6, ri7, rt7, ri8, rt8, ri9, rt9, ri10, rt10, ri11, rt11, ri12, rt12, ri13, rt13, ri14, rt14, ri15, rt15, ri16, rt16, ri17, rt17, h0]
    exact ⟨hm, c_div hm hm2, a % m, .lst [.int (a / m), .int b, .int c], rfl, Int.emod_nonneg _ (by omega), Int.emod_lt_of_pos _ hm, a / m, b, c, rfl, Int.ediv_nonneg ha (by omega), hb, hb2, hc, by omega⟩
  · simp only [↓u_C, ↓u_nil, ↓u_cons, ↓u_tup, ↓u_lst, ↓u_op, ↓u_and, ↓u_or, ↓u_test, ↓u_not, ↓u_notT, ↓u_andT, ↓u_orT, ↓u_ifE, ↓u_chain, ↓k_chT, ↓k_chF, ↓u_CB, ↓u_isi, ↓u_sl, ↓u_noPart, ↓u_part, ↓u_seq, ↓u_next, ↓u_retN, ↓u_bk, ↓u_ct, ↓u_drop, ↓u_ret, ↓u_if, ↓u_asg, ↓u_par, ↓u_prepN, ↓u_prepD, ↓u_prepO, ↓u_allN, ↓u_allC, ↓u_for, ↓u_loopN, ↓u_loopC, ↓u_it, ↓u_stoD, ↓u_stoN, ↓u_stosN, ↓u_stosC, ↓u_range1, ↓u_enum, ↓u_lc, ↓u_lcN, ↓u_lcC, ↓u_yes, ↓u_call, ↓u_argN, ↓u_argD, ↓u_argM, ↓u_argO, ↓u_argT, ↓u_backN, ↓u_backC, ↓u_fn, ↓k_fnO, ↓u_gtupD, ↓u_gtupN, ↓u_gtupL, ↓u_gtupT, ↓u_gN, ↓u_gC, ↓k_subL, ↓u_meth, ↓u_append, ↓u_popAt, ↓u_ixD, ↓u_ixN, ↓u_ixT, ↓u_ixS, ↓u_ixX, ↓u_mod, ↓u_div, ↓u_pow, ↓u_mul, ↓u_lenX, ↓u_lenL, ↓u_lenT, ↓u_lenC, ↓u_lenN, ↓u_addS, ↓u_isiD, ↓u_isiN, ↓u_zip, ↓u_argL, ↓u_argV, ↓u_dc, ↓u_dcN, ↓u_dcC, ↓k_dcX, ↓u_turn, ↓u_neg, ↓u_frz, ↓u_stoT, ↓u_stoL, ↓u_mulT, ↓u_addT, ↓u_listT, ↓u_listL, ↓u_slT, ↓rn_bind, ↓rn_some, ↓rn_iteT, ↓rn_iteF, ↓rv0, ↓ro0, ↓rb0, ↓rn0, ↓rs0, ↓rl0, ↓ra0, ↓rk0, ↓rx0, ↓rg0, ↓rh0, ↓rp0, ↓rv1, ↓ro1, ↓rb1, ↓rn1, ↓rs1, ↓rl1, ↓ra1, ↓rk1, ↓rx1, ↓rg1, ↓rh1, ↓rp1, ↓rv2, ↓ro2, ↓rb2, ↓rn2, ↓rs2, ↓rl2, ↓ra2, ↓rk2, ↓rx2, ↓rg2, ↓rh2, ↓rp2, ↓rv3, ↓ro3, ↓rb3, ↓rn3, ↓rs3, ↓rl3, ↓ra3, ↓rk3, ↓rx3, ↓rg3, ↓rh3, ↓rp3, ↓rv4, ↓ro4, ↓rb4, ↓rn4, ↓rs4, ↓rl4, ↓ra4, ↓rk4, ↓rx4, ↓rg4, ↓rh4, ↓rp4, ↓rv5, ↓ro5, ↓rb5, ↓rn5, ↓rs5, ↓rl5, ↓ra5, ↓rk5, ↓rx5, ↓rg5, ↓rh5, ↓rp5, ↓rv6, ↓ro6, ↓rb6, ↓rn6, ↓rs6, ↓rl6, ↓ra6, ↓rk6, ↓rx6, ↓rg6, ↓rh6, ↓rp6, ↓rv7, ↓ro7, ↓rb7, ↓rn7, ↓rs7, ↓rl7, ↓ra7, ↓rk7, ↓rx7, ↓rg7, ↓rh7, ↓rp7, ↓rv8, ↓ro8, ↓rb8, ↓rn8, ↓rs8, ↓rl8, ↓ra8, ↓rk8, ↓rx8, ↓rg8, ↓rh8, ↓rp8, ↓rv9, ↓ro9, ↓rb9, ↓rn9, ↓rs9, ↓rl9, ↓ra9, ↓rk9, ↓rx9, ↓rg9, ↓rh9, ↓rp9, ↓rv10, ↓ro10, ↓rb10, ↓rn10, ↓rs10, ↓rl10, ↓ra10, ↓rk10, ↓rx10, ↓rg10, ↓rh10, ↓rp10, ↓rv11, ↓ro11, ↓rb11, ↓rn11, ↓rs11, ↓rl11, ↓ra11, ↓rk11, ↓rx11, ↓rg11, ↓rh11, ↓rp11, ↓rv12, ↓ro12, ↓rb12, ↓rn12, ↓rs12, ↓rl12, ↓ra12, ↓rk12, ↓rx12, ↓rg12, ↓rh12, ↓rp12, ↓rv13, ↓ro13, ↓rb13, ↓rn13, ↓rs13, ↓rl13, ↓ra13, ↓rk13, ↓rx13, ↓rg13, ↓rh13, ↓rp13, ↓rv14, ↓ro14, ↓rb14, ↓rn14, ↓rs14, ↓rl14, ↓ra14, ↓rk14, ↓rx14, ↓rg14, ↓rh14, ↓rp14, ↓rv15, ↓ro15, ↓rb15, ↓rn15, ↓rs15, ↓rl15, ↓ra15, ↓rk15, ↓rx15, ↓rg15, ↓rh15, ↓rp15, ↓rv16, ↓ro16, ↓rb16, ↓rn16, ↓rs16, ↓rl16, ↓ra16, ↓rk16, ↓rx16, ↓rg16, ↓rh16, ↓rp16, ↓rv17, ↓ro17, ↓rb17, ↓rn17, ↓rs17, ↓rl17, ↓ra17, ↓rk17, ↓rx17, ↓rg17, ↓rh17, ↓rp17, rn_some, k_andT, k_andF, k_orT, k_orF, k_B, k_int, k_seqN, k_seqR, k_seqB, k_seqC, k_loopN, k_loopR, k_enum, k_fnN, k_fnD, k_fnNew, e_addI, e_subI, e_ltI, e_leI, e_gtI, e_geI, e_eqI, e_neI, e_abs, e_intI, e_intB, e_at0, e_at1, e_at2, e_ix30, e_ix32, List.set_cons_zero, List.set_cons_succ, f1, List.length_cons, List.length_nil, List.all_cons, List.all_nil, cold, hots, hot, List.map_cons, List.map_nil, List.cons_append, List.nil_append, List.append_nil, List.replicate_succ, List.replicate_zero, List.take_succ_cons, List.take_zero, wipeS, backS, noOwn, Nat.reduceAdd, Nat.reduceSub, Nat.reduceLeDiff, Nat.reduceEqDiff, Bool.and_true, Bool.true_and, Bool.and_false, Bool.false_and, Bool.not_true, Bool.not_false, Bool.false_eq_true, Bool.true_eq_false, reduceCtorEq, true_and, and_true, if_true, if_false, decide_true, decide_false, isOk, isA, String.reduceBEq, turn_f, cut_1, k_zipLL, k_zipTT, k_zipTL, e_isN, e_isNot, isNo, beq_self_eq_true, bne_self_eq_false, e_eqB, e_neB, e_eqX, List.any_cons, List.any_nil, Bool.or_true, Bool.true_or, Bool.or_self, reduceIte, Bool.or_false, Bool.false_or, ri0, rt0, ri1, rt1, ri2, rt2, ri3, rt3, ri4, rt4, ri5, rt5, ri6, rt6, ri7, rt7, ri8, rt8, ri9, rt9, ri10, rt10, ri11, rt11, ri12, rt12, ri13, rt13, ri14, rt14, ri15, rt15, ri16, rt16, ri17, rt17, h0]
    have e1 := Int.emod_nonneg ((b + 39373 * (c + 1)) ^ Int.toNat 5) (show (2147483647 : Int) ≠ 0 by decide)
    have e2 := Int.emod_lt_of_pos ((b + 39373 * (c + 1)) ^ Int.toNat 5) (show (0 : Int) < 2147483647 by decide)
    refine ⟨c_mul (by omega) (by omega), c_pow (by decide) (by decide) (by omega) (by omega), by decide, by decide, c_mulL (by omega) (by omega), by decide, c_div (by decide) (by decide), c_mul (by decide) (by decide), by decide, c_mul (by decide) (by decide), c_mul (by decide) (by decide), by decide, c_div (by decide) (by decide), hm, _, _, rfl, Int.emod_nonneg _ (by omega), Int.emod_lt_of_pos _ hm, a, b, c + 1, rfl, ha, hb, hb2, by omega, by omega⟩
/-- a draw within a run: the tape lies in slot 0 -/
theorem Rn.ex {α : Type} {o : Option α} {Q : α → Prop} (h : Rn o Q) : ∃ a, o = some a ∧ Q a := h
theorem draw_eq {n : Nat} {d : Da} {m : Int} (h : Tp (n + 1) d) (hm : 0 < m) (hM : m ≤ 1000000000) : ∃ r d', w_l_draw [.own d, .dat (.int m)] = some (.d (.int r), [.own d', .dat (.int m)]) ∧ 0 ≤ r ∧ r < m ∧ Tp n d' := by
  obtain ⟨a, e, r, d', rfl, q⟩ := draw_ok h hm hM
  exact ⟨r, d', e, q⟩
theorem b01 (c : Bool) : -(2 ^ 64) < (if c = true then (1 : Int) else 0) ∧ (if c = true then (1 : Int) else 0) < 2 ^ 64 := by cases c <;> decide
/-- the tape of a cell -/
theorem tape_eq {s1 : SV} {cells : List Int} {k : Nat} (hs : s1 = .dat (.lst (cells.map Da.int)) ∨ s1 = .dat (.scr (cells.map Da.int))) (hk : k ≤ 63) : ∃ d, w_l_tape [s1, .dat (.int (k : Int))] = some (.n d, [s1, .dat (.int (k : Int))]) ∧ Tp 999999999 d := by
  have key : ∀ (c : Int), Tp 999999999 (.lst [.int ((if c < 0 then -c else c) * (if decide ((10 : Int) ^ Int.toNat 18 ≤ if c < 0 then -c else c) = true then 1 else 0)), .int (c % 2305843009213693951 + 39373 * (k : Int) + 17), .int 0]) := fun c => by
    have h1 := Int.emod_nonneg c (show (2305843009213693951 : Int) ≠ 0 by decide)
    have h2 := Int.emod_lt_of_pos c (show (0 : Int) < 2305843009213693951 by decide)
    refine ⟨_, _, _, rfl, ?_, by omega, by omega, by omega, by omega⟩
    split <;> split <;> omega
  have main : Rn (w_l_tape [s1, .dat (.int (k : Int))]) fun p => ∃ d, p = (.n d, [s1, .dat (.int (k : Int))]) ∧ Tp 999999999 d := by
    unfold w_l_tape
    by_cases hlt : (k : Int) < (cells.length : Nat)
    · have hat : atI (cells.map Da.int) (k : Int) = some (.int (cells[k]'(by omega))) := by
        rw [at_nat (by rw [List.length_map]; omega), List.getElem?_map, List.getElem?_eq_getElem (by omega)]
        rfl
      rcases hs with rfl | rfl
      · simp only [↓u_C, ↓u_nil, ↓u_cons, ↓u_tup, ↓u_lst, ↓u_op, ↓u_and, ↓u_or, ↓u_test, ↓u_not, ↓u_notT, ↓u_andT, ↓u_orT, ↓u_ifE, ↓u_chain, ↓k_chT, ↓k_chF, ↓u_CB, ↓u_isi, ↓u_sl, ↓u_noPart, ↓u_part, ↓u_seq, ↓u_next, ↓u_retN, ↓u_bk, ↓u_ct, ↓u_drop, ↓u_ret, ↓u_if, ↓u_asg, ↓u_par, ↓u_prepN, ↓u_prepD, ↓u_prepO, ↓u_allN, ↓u_allC, ↓u_for, ↓u_loopN, ↓u_loopC, ↓u_it, ↓u_stoD, ↓u_stoN, ↓u_stosN, ↓u_stosC, ↓u_range1, ↓u_enum, ↓u_lc, ↓u_lcN, ↓u_lcC, ↓u_yes, ↓u_call, ↓u_argN, ↓u_argD, ↓u_argM, ↓u_argO, ↓u_argT, ↓u_backN, ↓u_backC, ↓u_fn, ↓k_fnO, ↓u_gtupD, ↓u_gtupN, ↓u_gtupL, ↓u_gtupT, ↓u_gN, ↓u_gC, ↓k_subL, ↓u_meth, ↓u_append, ↓u_popAt, ↓u_ixD, ↓u_ixN, ↓u_ixT, ↓u_ixS, ↓u_ixX, ↓u_mod, ↓u_div, ↓u_pow, ↓u_mul, ↓u_lenX, ↓u_lenL, ↓u_lenT, ↓u_lenC, ↓u_lenN, ↓u_addS, ↓u_isiD, ↓u_isiN, ↓u_zip, ↓u_argL, ↓u_argV, ↓u_dc, ↓u_dcN, ↓u_dcC, ↓k_dcX, ↓u_turn, ↓u_neg, ↓u_frz, ↓u_stoT, ↓u_stoL, ↓u_mulT, ↓u_addT, ↓u_listT, ↓u_listL, ↓u_slT, ↓rn_bind, ↓rn_some, ↓rn_iteT, ↓rn_iteF, ↓rv0, ↓ro0, ↓rb0, ↓rn0, ↓rs0, ↓rl0, ↓ra0, ↓rk0, ↓rx0, ↓rg0, ↓rh0, ↓rp0, ↓rv1, ↓ro1, ↓rb1, ↓rn1, ↓rs1, ↓rl1, ↓ra1, ↓rk1, ↓rx1, ↓rg1, ↓rh1, ↓rp1, ↓rv2, ↓ro2, ↓rb2, ↓rn2, ↓rs2, ↓rl2, ↓ra2, ↓rk2, ↓rx2, ↓rg2, ↓rh2, ↓rp2, ↓rv3, ↓ro3, ↓rb3, ↓rn3, ↓rs3, ↓rl3, ↓ra3, ↓rk3, ↓rx3, ↓rg3, ↓rh3, ↓rp3, ↓rv4, ↓ro4, ↓rb4, ↓rn4, ↓rs4, ↓rl4, ↓ra4, ↓rk4, ↓rx4, ↓rg4, ↓rh4, ↓rp4, ↓rv5, ↓ro5, ↓rb5, ↓rn5, ↓rs5, ↓rl5, ↓ra5, ↓rk5, ↓rx5, ↓rg5, ↓rh5, ↓rp5, ↓rv6, ↓ro6, ↓rb6, ↓rn6, ↓rs6, ↓rl6, ↓ra6, ↓rk6, ↓rx6, ↓rg6, ↓rh6, ↓rp6, ↓rv7, ↓ro7, ↓rb7, ↓rn7, ↓rs7, ↓rl7, ↓ra7, ↓rk7, ↓rx7, ↓rg7, ↓rh7, ↓rp7, ↓rv8, ↓ro8, ↓rb8, ↓rn8, ↓rs8, ↓rl8, ↓ra8, ↓rk8, ↓rx8, ↓rg8, ↓rh8, ↓rp8, ↓rv9, ↓ro9, ↓rb9, ↓rn9, ↓rs9, ↓rl9, ↓ra9, ↓rk9, ↓rx9, ↓rg9, ↓rh9, ↓rp9, ↓rv10, ↓ro10, ↓rb10, ↓rn10, ↓rs10, ↓rl10, ↓ra10, ↓rk10, ↓rx10, ↓rg10, ↓rh10, ↓rp10, ↓rv11, ↓ro11, ↓rb11, ↓rn11, ↓rs11, ↓rl11, ↓ra11, ↓rk11, ↓rx11, ↓rg11, ↓rh11, ↓rp11, ↓rv12, ↓ro12, ↓rb12, ↓rn12, ↓rs12, ↓rl12, ↓ra12, ↓rk12, ↓rx12, ↓rg12, ↓rh12, ↓rp12, ↓rv13, ↓ro13, ↓rb13, ↓rn13, ↓rs13, ↓rl13, ↓ra13, ↓rk13, ↓rx13, ↓rg13, ↓rh13, ↓rp13, ↓rv14, ↓ro14, ↓rb14, ↓rn14, ↓rs14, ↓rl14, ↓ra14, ↓rk14, ↓rx14, ↓rg14, ↓rh14, ↓rp14, ↓rv15, ↓ro15, ↓rb15, ↓rn15, ↓rs15, ↓rl15, ↓ra15, ↓rk15, ↓rx15, ↓rg15, ↓rh15, ↓rp15, ↓rv16, ↓ro16, ↓rb16, ↓rn16, ↓rs16, ↓rl16, ↓ra16, ↓rk16, ↓rx16, ↓rg16, ↓rh16, ↓rp16, ↓rv17, ↓ro17, ↓rb17, ↓rn17, ↓rs17, ↓rl17, ↓ra17, ↓rk17, ↓rx17, ↓rg17, ↓rh17, ↓rp17, rn_some, k_andT, k_andF, k_orT, k_orF, k_B, k_int, k_seqN, k_seqR, k_seqB, k_seqC, k_loopN, k_loopR, k_enum, k_fnN, k_fnD, k_fnNew, e_addI, e_subI, e_ltI, e_leI, e_gtI, e_geI, e_eqI, e_neI, e_abs, e_intI, e_intB, e_at0, e_at1, e_at2, e_ix30, e_ix32, List.set_cons_zero, List.set_cons_succ, f1, List.length_cons, List.length_nil, List.all_cons, List.all_nil, cold, hots, hot, List.map_cons, List.map_nil, List.cons_append, List.nil_append, List.append_nil, List.replicate_succ, List.replicate_zero, List.take_succ_cons, List.take_zero, wipeS, backS, noOwn, Nat.reduceAdd, Nat.reduceSub, Nat.reduceLeDiff, Nat.reduceEqDiff, Bool.and_true, Bool.true_and, Bool.and_false, Bool.false_and, Bool.not_true, Bool.not_false, Bool.false_eq_true, Bool.true_eq_false, reduceCtorEq, true_and, and_true, if_true, if_false, decide_true, decide_false, isOk, isA, String.reduceBEq, turn_f, cut_1, k_zipLL, k_zipTT, k_zipTL, e_isN, e_isNot, isNo, beq_self_eq_true, bne_self_eq_false, e_eqB, e_neB, e_eqX, List.any_cons, List.any_nil, Bool.or_true, Bool.true_or, Bool.or_self, reduceIte, Bool.or_false, Bool.false_or, ri0, rt0, ri1, rt1, ri2, rt2, ri3, rt3, ri4, rt4, ri5, rt5, ri6, rt6, ri7, rt7, ri8, rt8, ri9, rt9, ri10, rt10, ri11, rt11, ri12, rt12, ri13, rt13, ri14, rt14, ri15, rt15, ri16, rt16, ri17, rt17, fLen, dv, lenOf, List.length_map, hlt, hat]
        exact ⟨by decide +kernel, c_mul (b01 _).1 (b01 _).2, by decide, c_mul (by omega) (by omega), _, rfl, key _⟩
      · simp only [↓u_C, ↓u_nil, ↓u_cons, ↓u_tup, ↓u_lst, ↓u_op, ↓u_and, ↓u_or, ↓u_test, ↓u_not, ↓u_notT, ↓u_andT, ↓u_orT, ↓u_ifE, ↓u_chain, ↓k_chT, ↓k_chF, ↓u_CB, ↓u_isi, ↓u_sl, ↓u_noPart, ↓u_part, ↓u_seq, ↓u_next, ↓u_retN, ↓u_bk, ↓u_ct, ↓u_drop, ↓u_ret, ↓u_if, ↓u_asg, ↓u_par, ↓u_prepN, ↓u_prepD, ↓u_prepO, ↓u_allN, ↓u_allC, ↓u_for, ↓u_loopN, ↓u_loopC, ↓u_it, ↓u_stoD, ↓u_stoN, ↓u_stosN, ↓u_stosC, ↓u_range1, ↓u_enum, ↓u_lc, ↓u_lcN, ↓u_lcC, ↓u_yes, ↓u_call, ↓u_argN, ↓u_argD, ↓u_argM, ↓u_argO, ↓u_argT, ↓u_backN, ↓u_backC, ↓u_fn, ↓k_fnO, ↓u_gtupD, ↓u_gtupN, ↓u_gtupL, ↓u_gtupT, ↓u_gN, ↓u_gC, ↓k_subL, ↓u_meth, ↓u_append, ↓u_popAt, ↓u_ixD, ↓u_ixN, ↓u_ixT, ↓u_ixS, ↓u_ixX, ↓u_mod, ↓u_div, ↓u_pow, ↓u_mul, ↓u_lenX, ↓u_lenL, ↓u_lenT, ↓u_lenC, ↓u_lenN, ↓u_addS, ↓u_isiD, ↓u_isiN, ↓u_zip, ↓u_argL, ↓u_argV, ↓u_dc, ↓u_dcN, ↓u_dcC, ↓k_dcX, ↓u_turn, ↓u_neg, ↓u_frz, ↓u_stoT, ↓u_stoL, ↓u_mulT, ↓u_addT, ↓u_listT, ↓u_listL, ↓u_slT, ↓rn_bind, ↓rn_some, ↓rn_iteT, ↓rn_iteF, ↓rv0, ↓ro0, ↓rb0, ↓rn0, ↓rs0, ↓rl0, ↓ra0, ↓rk0, ↓rx0, ↓rg0, ↓rh0, ↓rp0, ↓rv1, ↓ro1, ↓rb1, ↓rn1, ↓rs1, ↓rl1, ↓ra1, ↓rk1, ↓rx1, ↓rg1, ↓rh1, ↓rp1, ↓rv2, ↓ro2, ↓rb2, ↓rn2, ↓rs2, ↓rl2, ↓ra2, ↓rk2, ↓rx2, ↓rg2, ↓rh2, ↓rp2, ↓rv3, ↓ro3, ↓rb3, ↓rn3, ↓rs3, ↓rl3, ↓ra3, ↓rk3, ↓rx3, ↓rg3, ↓rh3, ↓rp3, ↓rv4, ↓ro4, ↓rb4, ↓rn4, ↓rs4, ↓rl4, ↓ra4, ↓rk4, ↓rx4, ↓rg4, ↓rh4, ↓rp4, ↓rv5, ↓ro5, ↓rb5, ↓rn5, ↓rs5, ↓rl5, ↓ra5, ↓rk5, ↓rx5, ↓rg5, ↓rh5, ↓rp5, ↓rv6, ↓ro6, ↓rb6, ↓rn6, ↓rs6, ↓rl6, ↓ra6, ↓rk6, ↓rx6, ↓rg6, ↓rh6, ↓rp6, ↓rv7, ↓ro7, ↓rb7, ↓rn7, ↓rs7, ↓rl7, ↓ra7, ↓rk7, ↓rx7, ↓rg7, ↓rh7, ↓rp7, ↓rv8, ↓ro8, ↓rb8, ↓rn8, ↓rs8, ↓rl8, ↓ra8, ↓rk8, ↓rx8, ↓rg8, ↓rh8, ↓rp8, ↓rv9, ↓ro9, ↓rb9, ↓rn9, ↓rs9, ↓rl9, ↓ra9, ↓rk9, ↓rx9, ↓rg9, ↓rh9, ↓rp9, ↓rv10, ↓ro10, ↓rb10, ↓rn10, ↓rs10, ↓rl10, ↓ra10, ↓rk10, ↓rx10, ↓rg10, ↓rh10, ↓rp10, ↓rv11, ↓ro11, ↓rb11, ↓rn11, ↓rs11, ↓rl11, ↓ra11, ↓rk11, ↓rx11, ↓rg11, ↓rh11, ↓rp11, ↓rv12, ↓ro12, ↓rb12, ↓rn12, ↓rs12, ↓rl12, ↓ra12, ↓rk12, ↓rx12, ↓rg12, ↓rh12, ↓rp12, ↓rv13, ↓ro13, ↓rb13, ↓rn13, ↓rs13, ↓rl13, ↓ra13, ↓rk13, ↓rx13, ↓rg13, ↓rh13, ↓rp13, ↓rv14, ↓ro14, ↓rb14, ↓rn14, ↓rs14, ↓rl14, ↓ra14, ↓rk14, ↓rx14, ↓rg14, ↓rh14, ↓rp14, ↓rv15, ↓ro15, ↓rb15, ↓rn15, ↓rs15, ↓rl15, ↓ra15, ↓rk15, ↓rx15, ↓rg15, ↓rh15, ↓rp15, ↓rv16, ↓ro16, ↓rb16, ↓rn16, ↓rs16, ↓rl16, ↓ra16, ↓rk16, ↓rx16, ↓rg16, ↓rh16, ↓rp16, ↓rv17, ↓ro17, ↓rb17, ↓rn17, ↓rs17, ↓rl17, ↓ra17, ↓rk17, ↓rx17, ↓rg17, ↓rh17, ↓rp17, rn_some, k_andT, k_andF, k_orT, k_orF, k_B, k_int, k_seqN, k_seqR, k_seqB, k_seqC, k_loopN, k_loopR, k_enum, k_fnN, k_fnD, k_fnNew, e_addI, e_subI, e_ltI, e_leI, e_gtI, e_geI, e_eqI, e_neI, e_abs, e_intI, e_intB, e_at0, e_at1, e_at2, e_ix30, e_ix32, List.set_cons_zero, List.set_cons_succ, f1, List.length_cons, List.length_nil, List.all_cons, List.all_nil, cold, hots, hot, List.map_cons, List.map_nil, List.cons_append, List.nil_append, List.append_nil, List.replicate_succ, List.replicate_zero, List.take_succ_cons, List.take_zero, wipeS, backS, noOwn, Nat.reduceAdd, Nat.reduceSub, Nat.reduceLeDiff, Nat.reduceEqDiff, Bool.and_true, Bool.true_and, Bool.and_false, Bool.false_and, Bool.not_true, Bool.not_false, Bool.false_eq_true, Bool.true_eq_false, reduceCtorEq, true_and, and_true, if_true, if_false, decide_true, decide_false, isOk, isA, String.reduceBEq, turn_f, cut_1, k_zipLL, k_zipTT, k_zipTL, e_isN, e_isNot, isNo, beq_self_eq_true, bne_self_eq_false, e_eqB, e_neB, e_eqX, List.any_cons, List.any_nil, Bool.or_true, Bool.true_or, Bool.or_self, reduceIte, Bool.or_false, Bool.false_or, ri0, rt0, ri1, rt1, ri2, rt2, ri3, rt3, ri4, rt4, ri5, rt5, ri6, rt6, ri7, rt7, ri8, rt8, ri9, rt9, ri10, rt10, ri11, rt11, ri12, rt12, ri13, rt13, ri14, rt14, ri15, rt15, ri16, rt16, ri17, rt17, fLen, dv, lenOf, List.length_map, hlt, hat]
        exact ⟨by decide +kernel, c_mul (b01 _).1 (b01 _).2, by decide, c_mul (by omega) (by omega), _, rfl, key _⟩
    · rcases hs with rfl | rfl
      · simp only [↓u_C, ↓u_nil, ↓u_cons, ↓u_tup, ↓u_lst, ↓u_op, ↓u_and, ↓u_or, ↓u_test, ↓u_not, ↓u_notT, ↓u_andT, ↓u_orT, ↓u_ifE, ↓u_chain, ↓k_chT, ↓k_chF, ↓u_CB, ↓u_isi, ↓u_sl, ↓u_noPart, ↓u_part, ↓u_seq, ↓u_next, ↓u_retN, ↓u_bk, ↓u_ct, ↓u_drop, ↓u_ret, ↓u_if, ↓u_asg, ↓u_par, ↓u_prepN, ↓u_prepD, ↓u_prepO, ↓u_allN, ↓u_allC, ↓u_for, ↓u_loopN, ↓u_loopC, ↓u_it, ↓u_stoD, ↓u_stoN, ↓u_stosN, ↓u_stosC, ↓u_range1, ↓u_enum, ↓u_lc, ↓u_lcN, ↓u_lcC, ↓u_yes, ↓u_call, ↓u_argN, ↓u_argD, ↓u_argM, ↓u_argO, ↓u_argT, ↓u_backN, ↓u_backC, ↓u_fn, ↓k_fnO, ↓u_gtupD, ↓u_gtupN, ↓u_gtupL, ↓u_gtupT, ↓u_gN, ↓u_gC, ↓k_subL, ↓u_meth, ↓u_append, ↓u_popAt, ↓u_ixD, ↓u_ixN, ↓u_ixT, ↓u_ixS, ↓u_ixX, ↓u_mod, ↓u_div, ↓u_pow, ↓u_mul, ↓u_lenX, ↓u_lenL, ↓u_lenT, ↓u_lenC, ↓u_lenN, ↓u_addS, ↓u_isiD, ↓u_isiN, ↓u_zip, ↓u_argL, ↓u_argV, ↓u_dc, ↓u_dcN, ↓u_dcC, ↓k_dcX, ↓u_turn, ↓u_neg, ↓u_frz, ↓u_stoT, ↓u_stoL, ↓u_mulT, ↓u_addT, ↓u_listT, ↓u_listL, ↓u_slT, ↓rn_bind, ↓rn_some, ↓rn_iteT, ↓rn_iteF, ↓rv0, ↓ro0, ↓rb0, ↓rn0, ↓rs0, ↓rl0, ↓ra0, ↓rk0, ↓rx0, ↓rg0, ↓rh0, ↓rp0, ↓rv1, ↓ro1, ↓rb1, ↓rn1, ↓rs1, ↓rl1, ↓ra1, ↓rk1, ↓rx1, ↓rg1, ↓rh1, ↓rp1, ↓rv2, ↓ro2, ↓rb2, ↓rn2, ↓rs2, ↓rl2, ↓ra2, ↓rk2, ↓rx2, ↓rg2, ↓rh2, ↓rp2, ↓rv3, ↓ro3, ↓rb3, ↓rn3, ↓rs3, ↓rl3, ↓ra3, ↓rk3, ↓rx3, ↓rg3, ↓rh3, ↓rp3, ↓rv4, ↓ro4, ↓rb4, ↓rn4, ↓rs4, ↓rl4, ↓ra4, ↓rk4, ↓rx4, ↓rg4, ↓rh4, ↓rp4, ↓rv5, ↓ro5, ↓rb5, ↓rn5, ↓rs5, ↓rl5, ↓ra5, ↓rk5, ↓rx5, ↓rg5, ↓rh5, ↓rp5, ↓rv6, ↓ro6, ↓rb6, ↓rn6, ↓rs6, ↓rl6, ↓ra6, ↓rk6, ↓rx6, ↓rg6, ↓rh6, ↓rp6, ↓rv7, ↓ro7, ↓rb7, ↓rn7, ↓rs7, ↓rl7, ↓ra7, ↓rk7, ↓rx7, ↓rg7, ↓rh7, ↓rp7, ↓rv8, ↓ro8, ↓rb8, ↓rn8, ↓rs8, ↓rl8, ↓ra8, ↓rk8, ↓rx8, ↓rg8, ↓rh8, ↓rp8, ↓rv9, ↓ro9, ↓rb9, ↓rn9, ↓rs9, ↓rl9, ↓ra9, ↓rk9, ↓rx9, ↓rg9, ↓rh9, ↓rp9, ↓rv10, ↓ro10, ↓rb10, ↓rn10, ↓rs10, ↓rl10, ↓ra10, ↓rk10, ↓rx10, ↓rg10, ↓rh10, ↓rp10, ↓rv11, ↓ro11, ↓rb11, ↓rn11, ↓rs11, ↓rl11, ↓ra11, ↓rk11, ↓rx11, ↓rg11, ↓rh11, ↓rp11, ↓rv12, ↓ro12, ↓rb12, ↓rn12, ↓rs12, ↓rl12, ↓ra12, ↓rk12, ↓rx12, ↓rg12, ↓rh12, ↓rp12, ↓rv13, ↓ro13, ↓rb13, ↓rn13, ↓rs13, ↓rl13, ↓ra13, ↓rk13, ↓rx13, ↓rg13, ↓rh13, ↓rp13, ↓rv14, ↓ro14, ↓rb14, ↓rn14, ↓rs14, ↓rl14, ↓ra14, ↓rk14, ↓rx14, ↓rg14, ↓rh14, ↓rp14, ↓rv15, ↓ro15, ↓rb15, ↓rn15, ↓rs15, ↓rl15, ↓ra15, ↓rk15, ↓rx15, ↓rg15, ↓rh15, ↓rp15, ↓rv16, ↓ro16, ↓rb16, ↓rn16, ↓rs16, ↓rl16, ↓ra16, ↓rk16, ↓rx16, ↓rg16, ↓rh16, ↓rp16, ↓rv17, ↓ro17, ↓rb17, ↓rn17, ↓rs17, ↓rl17, ↓ra17, ↓rk17, ↓rx17, ↓rg17, ↓rh17, ↓rp17, rn_some, k_andT, k_andF, k_orT, k_orF, k_B, k_int, k_seqN, k_seqR, k_seqB, k_seqC, k_loopN, k_loopR, k_enum, k_fnN, k_fnD, k_fnNew, e_addI, e_subI, e_ltI, e_leI, e_gtI, e_geI, e_eqI, e_neI, e_abs, e_intI, e_intB, e_at0, e_at1, e_at2, e_ix30, e_ix32, List.set_cons_zero, List.set_cons_succ, f1, List.length_cons, List.length_nil, List.all_cons, List.all_nil, cold, hots, hot, List.map_cons, List.map_nil, List.cons_append, List.nil_append, List.append_nil, List.replicate_succ, List.replicate_zero, List.take_succ_cons, List.take_zero, wipeS, backS, noOwn, Nat.reduceAdd, Nat.reduceSub, Nat.reduceLeDiff, Nat.reduceEqDiff, Bool.and_true, Bool.true_and, Bool.and_false, Bool.false_and, Bool.not_true, Bool.not_false, Bool.false_eq_true, Bool.true_eq_false, reduceCtorEq, true_and, and_true, if_true, if_false, decide_true, decide_false, isOk, isA, String.reduceBEq, turn_f, cut_1, k_zipLL, k_zipTT, k_zipTL, e_isN, e_isNot, isNo, beq_self_eq_true, bne_self_eq_false, e_eqB, e_neB, e_eqX, List.any_cons, List.any_nil, Bool.or_true, Bool.true_or, Bool.or_self, reduceIte, Bool.or_false, Bool.false_or, ri0, rt0, ri1, rt1, ri2, rt2, ri3, rt3, ri4, rt4, ri5, rt5, ri6, rt6, ri7, rt7, ri8, rt8, ri9, rt9, ri10, rt10, ri11, rt11, ri12, rt12, ri13, rt13, ri14, rt14, ri15, rt15, ri16, rt16, ri17, rt17, fLen, dv, lenOf, List.length_map, hlt]
        exact ⟨by decide +kernel, c_mul (b01 _).1 (b01 _).2, by decide, c_mul (by omega) (by omega), _, rfl, key 0⟩
      · simp only [↓u_C, ↓u_nil, ↓u_cons, ↓u_tup, ↓u_lst, ↓u_op, ↓u_and, ↓u_or, ↓u_test, ↓u_not, ↓u_notT, ↓u_andT, ↓u_orT, ↓u_ifE, ↓u_chain, ↓k_chT, ↓k_chF, ↓u_CB, ↓u_isi, ↓u_sl, ↓u_noPart, ↓u_part, ↓u_seq, ↓u_next, ↓u_retN, ↓u_bk, ↓u_ct, ↓u_drop, ↓u_ret, ↓u_if, ↓u_asg, ↓u_par, ↓u_prepN, ↓u_prepD, ↓u_prepO, ↓u_allN, ↓u_allC, ↓u_for, ↓u_loopN, ↓u_loopC, ↓u_it, ↓u_stoD, ↓u_stoN, ↓u_stosN, ↓u_stosC, ↓u_range1, ↓u_enum, ↓u_lc, ↓u_lcN, ↓u_lcC, ↓u_yes, ↓u_call, ↓u_argN, ↓u_argD, ↓u_argM, ↓u_argO, ↓u_argT, ↓u_backN, ↓u_backC, ↓u_fn, ↓k_fnO, ↓u_gtupD, ↓u_gtupN, ↓u_gtupL, ↓u_gtupT, ↓u_gN, ↓u_gC, ↓k_subL, ↓u_meth, ↓u_append, ↓u_popAt, ↓u_ixD, ↓u_ixN, ↓u_ixT, ↓u_ixS, ↓u_ixX, ↓u_mod, ↓u_div, ↓u_pow, ↓u_mul, ↓u_lenX, ↓u_lenL, ↓u_lenT, ↓u_lenC, ↓u_lenN, ↓u_addS, ↓u_isiD, ↓u_isiN, ↓u_zip, ↓u_argL, ↓u_argV, ↓u_dc, ↓u_dcN, ↓u_dcC, ↓k_dcX, ↓u_turn, ↓u_neg, ↓u_frz, ↓u_stoT, ↓u_stoL, ↓u_mulT, ↓u_addT, ↓u_listT, ↓u_listL, ↓u_slT, ↓rn_bind, ↓rn_some, ↓rn_iteT, ↓rn_iteF, ↓rv0, ↓ro0, ↓rb0, ↓rn0, ↓rs0, ↓rl0, ↓ra0, ↓rk0, ↓rx0, ↓rg0, ↓rh0, ↓rp0, ↓rv1, ↓ro1, ↓rb1, ↓rn1, ↓rs1, ↓rl1, ↓ra1, ↓rk1, ↓rx1, ↓rg1, ↓rh1, ↓rp1, ↓rv2, ↓ro2, ↓rb2, ↓rn2, ↓rs2, ↓rl2, ↓ra2, ↓rk2, ↓rx2, ↓rg2, ↓rh2, ↓rp2, ↓rv3, ↓ro3, ↓rb3, ↓rn3, ↓rs3, ↓rl3, ↓ra3, ↓rk3, ↓rx3, ↓rg3, ↓rh3, ↓rp3, ↓rv4, ↓ro4, ↓rb4, ↓rn4, ↓rs4, ↓rl4, ↓ra4, ↓rk4, ↓rx4, ↓rg4, ↓rh4, ↓rp4, ↓rv5, ↓ro5, ↓rb5, ↓rn5, ↓rs5, ↓rl5, ↓ra5, ↓rk5, ↓rx5, ↓rg5, ↓rh5, ↓rp5, ↓rv6, ↓ro6, ↓rb6, ↓rn6, ↓rs6, ↓rl6, ↓ra6, ↓rk6, ↓rx6, ↓rg6, ↓rh6, ↓rp6, ↓rv7, ↓ro7, ↓rb7, ↓rn7, ↓rs7, ↓rl7, ↓ra7, ↓rk7, ↓rx7, ↓rg7, ↓rh7, ↓rp7, ↓rv8, ↓ro8, ↓rb8, ↓rn8, ↓rs8, ↓rl8, ↓ra8, ↓rk8, ↓rx8, ↓rg8, ↓rh8, ↓rp8, ↓rv9, ↓ro9, ↓rb9, ↓rn9, ↓rs9, ↓rl9, ↓ra9, ↓rk9, ↓rx9, ↓rg9, ↓rh9, ↓rp9, ↓rv10, ↓ro10, ↓rb10, ↓rn10, ↓rs10, ↓rl10, ↓ra10, ↓rk10, ↓rx10, ↓rg10, ↓rh10, ↓rp10, ↓rv11, ↓ro11, ↓rb11, ↓rn11, ↓rs11, ↓rl11, ↓ra11, ↓rk11, ↓rx11, ↓rg11, ↓rh11, ↓rp11, ↓rv12, ↓ro12, ↓rb12, ↓rn12, ↓rs12, ↓rl12, ↓ra12, ↓rk12, ↓rx12, ↓rg12, ↓rh12, ↓rp12, ↓rv13, ↓ro13, ↓rb13, ↓rn13, ↓rs13, ↓rl13, ↓ra13, ↓rk13, ↓rx13, ↓rg13, ↓rh13, ↓rp13, ↓rv14, ↓ro14, ↓rb14, ↓rn14, ↓rs14, ↓rl14, ↓ra14, ↓rk14, ↓rx14, ↓rg14, ↓rh14, ↓rp14, ↓rv15, ↓ro15, ↓rb15, ↓rn15, ↓rs15, ↓rl15, ↓ra15, ↓rk15, ↓rx15, ↓rg15, ↓rh15, ↓rp15, ↓rv16, ↓ro16, ↓rb16, ↓rn16, ↓rs16, ↓rl16, ↓ra16, ↓rk16, ↓rx16, ↓rg16, ↓rh16, ↓rp16, ↓rv17, ↓ro17, ↓rb17, ↓rn17, ↓rs17, ↓rl17, ↓ra17, ↓rk17, ↓rx17, ↓rg17, ↓rh17, ↓rp17, rn_some, k_andT, k_andF, k_orT, k_orF, k_B, k_int, k_seqN, k_seqR, k_seqB, k_seqC, k_loopN, k_loopR, k_enum, k_fnN, k_fnD, k_fnNew, e_addI, e_subI, e_ltI, e_leI, e_gtI, e_geI, e_eqI, e_neI, e_abs, e_intI, e_intB, e_at0, e_at1, e_at2, e_ix30, e_ix32, List.set_cons_zero, List.set_cons_succ, f1, List.length_cons, List.length_nil, List.all_cons, List.all_nil, cold, hots, hot, List.map_cons, List.map_nil, List.cons_append, List.nil_append, List.append_nil, List.replicate_succ, List.replicate_zero, List.take_succ_cons, List.take_zero, wipeS, backS, noOwn, Nat.reduceAdd, Nat.reduceSub, Nat.reduceLeDiff, Nat.reduceEqDiff, Bool.and_true, Bool.true_and, Bool.and_false, Bool.false_and, Bool.not_true, Bool.not_false, Bool.false_eq_true, Bool.true_eq_false, reduceCtorEq, true_and, and_true, if_true, if_false, decide_true, decide_false, isOk, isA, String.reduceBEq, turn_f, cut_1, k_zipLL, k_zipTT, k_zipTL, e_isN, e_isNot, isNo, beq_self_eq_true, bne_self_eq_false, e_eqB, e_neB, e_eqX, List.any_cons, List.any_nil, Bool.or_true, Bool.true_or, Bool.or_self, reduceIte, Bool.or_false, Bool.false_or, ri0, rt0, ri1, rt1, ri2, rt2, ri3, rt3, ri4, rt4, ri5, rt5, ri6, rt6, ri7, rt7, ri8, rt8, ri9, rt9, ri10, rt10, ri11, rt11, ri12, rt12, ri13, rt13, ri14, rt14, ri15, rt15, ri16, rt16, ri17, rt17, fLen, dv, lenOf, List.length_map, hlt]
        exact ⟨by decide +kernel, c_mul (b01 _).1 (b01 _).2, by decide, c_mul (by omega) (by omega), _, rfl, key 0⟩
  obtain ⟨a, e, d, rfl, q⟩ := main
  exact ⟨d, e, q⟩
/-- the cells, folded -/
theorem set_ints {cs : List Int} {i : Nat} {v : Int} : (cs.map Da.int).set i (.int v) = (cs.set i v).map Da.int := by rw [List.map_set]
theorem at_ints {cs : List Int} {i : Int} (h0 : 0 ≤ i) (h : i < cs.length) : ∃ v, atI (cs.map Da.int) i = some (.int v) := by
  obtain ⟨n, rfl⟩ := Int.eq_ofNat_of_zero_le h0
  refine ⟨cs[n]'(by omega), ?_⟩
  rw [at_nat (by rw [List.length_map]; omega), List.getElem?_map, List.getElem?_eq_getElem (by omega)]
  rfl
theorem ixN_in {n : Nat} {i : Int} (h0 : 0 ≤ i) (h : i < n) : ixN n i = some i.toNat := by
  unfold ixN
  rw [if_pos h0, if_pos h]
theorem fold_loop {m : Int} (hm : 0 < m) {s0 : SV} : ∀ (rest : List Int) (i : Nat) (cs : List Int) (a b : SV), (rest ≠ [] → (cs.length : Int) = m) → i + rest.length ≤ 1000 →
    Rn (loopS (wgTup 2 (wgCons (bindV 3) (wgCons (bindV 4) wgNil))) (wAsg (wOp fAdd (wOp fIxA (wVar 2) (wOp fMod (wVar 3) (wVar 1))) (wOp fMul (wVar 4) (wOp fAdd (wVar 3) (wC (.int 2))))) (wgSub 2 (wOp fMod (wVar 3) (wVar 1)))) (enumD i (rest.map Da.int)) [s0, .dat (.int m), .own (.lst (cs.map Da.int)), a, b]) fun p => ∃ (cs' : List Int) (a' b' : SV), p = (.nx, [s0, .dat (.int m), .own (.lst (cs'.map Da.int)), a', b']) ∧ cs'.length = cs.length
  | [], i, cs, a, b, _, _ => by
    show Rn (some _) _
    rw [rn_some]
    exact ⟨cs, a, b, rfl, rfl⟩
  | x :: rest, i, cs, a, b, hc, hl => by
    have hlen := hc (by simp)
    have h1 := Int.emod_nonneg (i : Int) (show m ≠ 0 by omega)
    have h2 := Int.emod_lt_of_pos (i : Int) hm
    obtain ⟨v, hv⟩ := at_ints (cs := cs) h1 (by omega)
    rw [List.map_cons, enumD, u_loopC]
    simp only [↓u_C, ↓u_nil, ↓u_cons, ↓u_tup, ↓u_lst, ↓u_op, ↓u_and, ↓u_or, ↓u_test, ↓u_not, ↓u_notT, ↓u_andT, ↓u_orT, ↓u_ifE, ↓u_chain, ↓k_chT, ↓k_chF, ↓u_CB, ↓u_isi, ↓u_sl, ↓u_noPart, ↓u_part, ↓u_seq, ↓u_next, ↓u_retN, ↓u_bk, ↓u_ct, ↓u_drop, ↓u_ret, ↓u_if, ↓u_asg, ↓u_par, ↓u_prepN, ↓u_prepD, ↓u_prepO, ↓u_allN, ↓u_allC, ↓u_for, ↓u_loopN, ↓u_loopC, ↓u_it, ↓u_stoD, ↓u_stoN, ↓u_stosN, ↓u_stosC, ↓u_range1, ↓u_enum, ↓u_lc, ↓u_lcN, ↓u_lcC, ↓u_yes, ↓u_call, ↓u_argN, ↓u_argD, ↓u_argM, ↓u_argO, ↓u_argT, ↓u_backN, ↓u_backC, ↓u_fn, ↓k_fnO, ↓u_gtupD, ↓u_gtupN, ↓u_gtupL, ↓u_gtupT, ↓u_gN, ↓u_gC, ↓k_subL, ↓u_meth, ↓u_append, ↓u_popAt, ↓u_ixD, ↓u_ixN, ↓u_ixT, ↓u_ixS, ↓u_ixX, ↓u_mod, ↓u_div, ↓u_pow, ↓u_mul, ↓u_lenX, ↓u_lenL, ↓u_lenT, ↓u_lenC, ↓u_lenN, ↓u_addS, ↓u_isiD, ↓u_isiN, ↓u_zip, ↓u_argL, ↓u_argV, ↓u_dc, ↓u_dcN, ↓u_dcC, ↓k_dcX, ↓u_turn, ↓u_neg, ↓u_frz, ↓u_stoT, ↓u_stoL, ↓u_mulT, ↓u_addT, ↓u_listT, ↓u_listL, ↓u_slT, ↓rn_bind, ↓rn_some, ↓rn_iteT, ↓rn_iteF, ↓rv0, ↓ro0, ↓rb0, ↓rn0, ↓rs0, ↓rl0, ↓ra0, ↓rk0, ↓rx0, ↓rg0, ↓rh0, ↓rp0, ↓rv1, ↓ro1, ↓rb1, ↓rn1, ↓rs1, ↓rl1, ↓ra1, ↓rk1, ↓rx1, ↓rg1, ↓rh1, ↓rp1, ↓rv2, ↓ro2, ↓rb2, ↓rn2, ↓rs2, ↓rl2, ↓ra2, ↓rk2, ↓rx2, ↓rg2, ↓rh2, ↓rp2, ↓rv3, ↓ro3, ↓rb3, ↓rn3, ↓rs3, ↓rl3, ↓ra3, ↓rk3, ↓rx3, ↓rg3, ↓rh3, ↓rp3, ↓rv4, ↓ro4, ↓rb4, ↓rn4, ↓rs4, ↓rl4, ↓ra4, ↓rk4, ↓rx4, ↓rg4, ↓rh4, ↓rp4, ↓rv5, ↓ro5, ↓rb5, ↓rn5, ↓rs5, ↓rl5, ↓ra5, ↓rk5, ↓rx5, ↓rg5, ↓rh5, ↓rp5, ↓rv6, ↓ro6, ↓rb6, ↓rn6, ↓rs6, ↓rl6, ↓ra6, ↓rk6, ↓rx6, ↓rg6, ↓rh6, ↓rp6, ↓rv7, ↓ro7, ↓rb7, ↓rn7, ↓rs7, ↓rl7, ↓ra7, ↓rk7, ↓rx7, ↓rg7, ↓rh7, ↓rp7, ↓rv8, ↓ro8, ↓rb8, ↓rn8, ↓rs8, ↓rl8, ↓ra8, ↓rk8, ↓rx8, ↓rg8, ↓rh8, ↓rp8, ↓rv9, ↓ro9, ↓rb9, ↓rn9, ↓rs9, ↓rl9, ↓ra9, ↓rk9, ↓rx9, ↓rg9, ↓rh9, ↓rp9, ↓rv10, ↓ro10, ↓rb10, ↓rn10, ↓rs10, ↓rl10, ↓ra10, ↓rk10, ↓rx10, ↓rg10, ↓rh10, ↓rp10, ↓rv11, ↓ro11, ↓rb11, ↓rn11, ↓rs11, ↓rl11, ↓ra11, ↓rk11, ↓rx11, ↓rg11, ↓rh11, ↓rp11, ↓rv12, ↓ro12, ↓rb12, ↓rn12, ↓rs12, ↓rl12, ↓ra12, ↓rk12, ↓rx12, ↓rg12, ↓rh12, ↓rp12, ↓rv13, ↓ro13, ↓rb13, ↓rn13, ↓rs13, ↓rl13, ↓ra13, ↓rk13, ↓rx13, ↓rg13, ↓rh13, ↓rp13, ↓rv14, ↓ro14, ↓rb14, ↓rn14, ↓rs14, ↓rl14, ↓ra14, ↓rk14, ↓rx14, ↓rg14, ↓rh14, ↓rp14, ↓rv15, ↓ro15, ↓rb15, ↓rn15, ↓rs15, ↓rl15, ↓ra15, ↓rk15, ↓rx15, ↓rg15, ↓rh15, ↓rp15, ↓rv16, ↓ro16, ↓rb16, ↓rn16, ↓rs16, ↓rl16, ↓ra16, ↓rk16, ↓rx16, ↓rg16, ↓rh16, ↓rp16, ↓rv17, ↓ro17, ↓rb17, ↓rn17, ↓rs17, ↓rl17, ↓ra17, ↓rk17, ↓rx17, ↓rg17, ↓rh17, ↓rp17, rn_some, k_andT, k_andF, k_orT, k_orF, k_B, k_int, k_seqN, k_seqR, k_seqB, k_seqC, k_loopN, k_loopR, k_enum, k_fnN, k_fnD, k_fnNew, e_addI, e_subI, e_ltI, e_leI, e_gtI, e_geI, e_eqI, e_neI, e_abs, e_intI, e_intB, e_at0, e_at1, e_at2, e_ix30, e_ix32, List.set_cons_zero, List.set_cons_succ, f1, List.length_cons, List.length_nil, List.all_cons, List.all_nil, cold, hots, hot, List.map_cons, List.map_nil, List.cons_append, List.nil_append, List.append_nil, List.replicate_succ, List.replicate_zero, List.take_succ_cons, List.take_zero, wipeS, backS, noOwn, Nat.reduceAdd, Nat.reduceSub, Nat.reduceLeDiff, Nat.reduceEqDiff, Bool.and_true, Bool.true_and, Bool.and_false, Bool.false_and, Bool.not_true, Bool.not_false, Bool.false_eq_true, Bool.true_eq_false, reduceCtorEq, true_and, and_true, if_true, if_false, decide_true, decide_false, isOk, isA, String.reduceBEq, turn_f, cut_1, k_zipLL, k_zipTT, k_zipTL, e_isN, e_isNot, isNo, beq_self_eq_true, bne_self_eq_false, e_eqB, e_neB, e_eqX, List.any_cons, List.any_nil, Bool.or_true, Bool.true_or, Bool.or_self, reduceIte, Bool.or_false, Bool.false_or, ri0, rt0, ri1, rt1, ri2, rt2, ri3, rt3, ri4, rt4, ri5, rt5, ri6, rt6, ri7, rt7, ri8, rt8, ri9, rt9, ri10, rt10, ri11, rt11, ri12, rt12, ri13, rt13, ri14, rt14, ri15, rt15, ri16, rt16, ri17, rt17, hv, List.length_map, ixN_in h1 (show (i : Int) % m < (cs.length : Nat) by omega)]
    refine ⟨hm, c_mul (by omega) (by simp at hl; omega), hm, ?_⟩
    rw [set_ints]
    refine rn_imp (fold_loop hm rest (i + 1) _ _ _ (fun _ => by rw [List.length_set]; exact hlen) (by simp at hl ⊢; omega)) fun p ⟨cs', a', b', e, l⟩ => ⟨cs', a', b', e, by rw [l, List.length_set]⟩
theorem cutD_ints (ns : List Int) (lo hi : Option Int) : ∃ ms : List Int, cutD (ns.map Da.int) lo hi = ms.map Da.int ∧ ms = (ns.drop (HT.sIx ns.length 0 lo)).take (HT.sIx ns.length ns.length hi - HT.sIx ns.length 0 lo) := by
  refine ⟨_, ?_, rfl⟩
  unfold cutD
  rw [List.length_map, List.map_take, List.map_drop]
theorem folded_eq {ns : List Int} {m : Nat} (hm : 0 < m) (hM : m ≤ 63) : ∃ cs : List Int, w_l_folded [.dat (.scr (ns.map Da.int)), .dat (.int (m : Int))] = some (.n (.lst (cs.map Da.int)), [.dat (.scr (ns.map Da.int)), .dat (.int (m : Int))]) ∧ cs.length = min m ns.length := by
  have main : Rn (w_l_folded [.dat (.scr (ns.map Da.int)), .dat (.int (m : Int))]) fun p => ∃ cs : List Int, p = (.n (.lst (cs.map Da.int)), [.dat (.scr (ns.map Da.int)), .dat (.int (m : Int))]) ∧ cs.length = min m ns.length := by
    unfold w_l_folded
    obtain ⟨c1, e1, q1⟩ := cutD_ints ns none (some (m : Int))
    obtain ⟨c2, e2, q2⟩ := cutD_ints ns (some (m : Int)) (some 63)
    simp only [↓u_C, ↓u_nil, ↓u_cons, ↓u_tup, ↓u_lst, ↓u_op, ↓u_and, ↓u_or, ↓u_test, ↓u_not, ↓u_notT, ↓u_andT, ↓u_orT, ↓u_ifE, ↓u_chain, ↓k_chT, ↓k_chF, ↓u_CB, ↓u_isi, ↓u_sl, ↓u_noPart, ↓u_part, ↓u_seq, ↓u_next, ↓u_retN, ↓u_bk, ↓u_ct, ↓u_drop, ↓u_ret, ↓u_if, ↓u_asg, ↓u_par, ↓u_prepN, ↓u_prepD, ↓u_prepO, ↓u_allN, ↓u_allC, ↓u_for, ↓u_loopN, ↓u_loopC, ↓u_it, ↓u_stoD, ↓u_stoN, ↓u_stosN, ↓u_stosC, ↓u_range1, ↓u_enum, ↓u_lc, ↓u_lcN, ↓u_lcC, ↓u_yes, ↓u_call, ↓u_argN, ↓u_argD, ↓u_argM, ↓u_argO, ↓u_argT, ↓u_backN, ↓u_backC, ↓u_fn, ↓k_fnO, ↓u_gtupD, ↓u_gtupN, ↓u_gtupL, ↓u_gtupT, ↓u_gN, ↓u_gC, ↓k_subL, ↓u_meth, ↓u_append, ↓u_popAt, ↓u_ixD, ↓u_ixN, ↓u_ixT, ↓u_ixS, ↓u_ixX, ↓u_mod, ↓u_div, ↓u_pow, ↓u_mul, ↓u_lenX, ↓u_lenL, ↓u_lenT, ↓u_lenC, ↓u_lenN, ↓u_addS, ↓u_isiD, ↓u_isiN, ↓u_zip, ↓u_argL, ↓u_argV, ↓u_dc, ↓u_dcN, ↓u_dcC, ↓k_dcX, ↓u_turn, ↓u_neg, ↓u_frz, ↓u_stoT, ↓u_stoL, ↓u_mulT, ↓u_addT, ↓u_listT, ↓u_listL, ↓u_slT, ↓rn_bind, ↓rn_some, ↓rn_iteT, ↓rn_iteF, ↓rv0, ↓ro0, ↓rb0, ↓rn0, ↓rs0, ↓rl0, ↓ra0, ↓rk0, ↓rx0, ↓rg0, ↓rh0, ↓rp0, ↓rv1, ↓ro1, ↓rb1, ↓rn1, ↓rs1, ↓rl1, ↓ra1, ↓rk1, ↓rx1, ↓rg1, ↓rh1, ↓rp1, ↓rv2, ↓ro2, ↓rb2, ↓rn2, ↓rs2, ↓rl2, ↓ra2, ↓rk2, ↓rx2, ↓rg2, ↓rh2, ↓rp2, ↓rv3, ↓ro3, ↓rb3, ↓rn3, ↓rs3, ↓rl3, ↓ra3, ↓rk3, ↓rx3, ↓rg3, ↓rh3, ↓rp3, ↓rv4, ↓ro4, ↓rb4, ↓rn4, ↓rs4, ↓rl4, ↓ra4, ↓rk4, ↓rx4, ↓rg4, ↓rh4, ↓rp4, ↓rv5, ↓ro5, ↓rb5, ↓rn5, ↓rs5, ↓rl5, ↓ra5, ↓rk5, ↓rx5, ↓rg5, ↓rh5, ↓rp5, ↓rv6, ↓ro6, ↓rb6, ↓rn6, ↓rs6, ↓rl6, ↓ra6, ↓rk6, ↓rx6, ↓rg6, ↓rh6, ↓rp6, ↓rv7, ↓ro7, ↓rb7, ↓rn7, ↓rs7, ↓rl7, ↓ra7, ↓rk7, ↓rx7, ↓rg7, ↓rh7, ↓rp7, ↓rv8, ↓ro8, ↓rb8, ↓rn8, ↓rs8, ↓rl8, ↓ra8, ↓rk8, ↓rx8, ↓rg8, ↓rh8, ↓rp8, ↓rv9, ↓ro9, ↓rb9, ↓rn9, ↓rs9, ↓rl9, ↓ra9, ↓rk9, ↓rx9, ↓rg9, ↓rh9, ↓rp9, ↓rv10, ↓ro10, ↓rb10, ↓rn10, ↓rs10, ↓rl10, ↓ra10, ↓rk10, ↓rx10, ↓rg10, ↓rh10, ↓rp10, ↓rv11, ↓ro11, ↓rb11, ↓rn11, ↓rs11, ↓rl11, ↓ra11, ↓rk11, ↓rx11, ↓rg11, ↓rh11, ↓rp11, ↓rv12, ↓ro12, ↓rb12, ↓rn12, ↓rs12, ↓rl12, ↓ra12, ↓rk12, ↓rx12, ↓rg12, ↓rh12, ↓rp12, ↓rv13, ↓ro13, ↓rb13, ↓rn13, ↓rs13, ↓rl13, ↓ra13, ↓rk13, ↓rx13, ↓rg13, ↓rh13, ↓rp13, ↓rv14, ↓ro14, ↓rb14, ↓rn14, ↓rs14, ↓rl14, ↓ra14, ↓rk14, ↓rx14, ↓rg14, ↓rh14, ↓rp14, ↓rv15, ↓ro15, ↓rb15, ↓rn15, ↓rs15, ↓rl15, ↓ra15, ↓rk15, ↓rx15, ↓rg15, ↓rh15, ↓rp15, ↓rv16, ↓ro16, ↓rb16, ↓rn16, ↓rs16, ↓rl16, ↓ra16, ↓rk16, ↓rx16, ↓rg16, ↓rh16, ↓rp16, ↓rv17, ↓ro17, ↓rb17, ↓rn17, ↓rs17, ↓rl17, ↓ra17, ↓rk17, ↓rx17, ↓rg17, ↓rh17, ↓rp17, rn_some, k_andT, k_andF, k_orT, k_orF, k_B, k_int, k_seqN, k_seqR, k_seqB, k_seqC, k_loopN, k_loopR, k_enum, k_fnN, k_fnD, k_fnNew, e_addI, e_subI, e_ltI, e_leI, e_gtI, e_geI, e_eqI, e_neI, e_abs, e_intI, e_intB, e_at0, e_at1, e_at2, e_ix30, e_ix32, List.set_cons_zero, List.set_cons_succ, f1, List.length_cons, List.length_nil, List.all_cons, List.all_nil, cold, hots, hot, List.map_cons, List.map_nil, List.cons_append, List.nil_append, List.append_nil, List.replicate_succ, List.replicate_zero, List.take_succ_cons, List.take_zero, wipeS, backS, noOwn, Nat.reduceAdd, Nat.reduceSub, Nat.reduceLeDiff, Nat.reduceEqDiff, Bool.and_true, Bool.true_and, Bool.and_false, Bool.false_and, Bool.not_true, Bool.not_false, Bool.false_eq_true, Bool.true_eq_false, reduceCtorEq, true_and, and_true, if_true, if_false, decide_true, decide_false, isOk, isA, String.reduceBEq, turn_f, cut_1, k_zipLL, k_zipTT, k_zipTL, e_isN, e_isNot, isNo, beq_self_eq_true, bne_self_eq_false, e_eqB, e_neB, e_eqX, List.any_cons, List.any_nil, Bool.or_true, Bool.true_or, Bool.or_self, reduceIte, Bool.or_false, Bool.false_or, ri0, rt0, ri1, rt1, ri2, rt2, ri3, rt3, ri4, rt4, ri5, rt5, ri6, rt6, ri7, rt7, ri8, rt8, ri9, rt9, ri10, rt10, ri11, rt11, ri12, rt12, ri13, rt13, ri14, rt14, ri15, rt15, ri16, rt16, ri17, rt17, fSl, fList, its, e1, e2]
    rw [HT.sIx_none, HT.sIx_nat, List.drop_zero, Nat.sub_zero] at q1
    have l1 : c1.length = min m ns.length := by
      rw [q1, List.length_take]
      omega
    have l2 : c2.length ≤ ns.length - m ∧ c2.length ≤ 63 := by
      have : HT.sIx ns.length ns.length (some 63) = min 63 ns.length := HT.sIx_nat _ _ 63
      rw [q2, List.length_take, List.length_drop, HT.sIx_nat, this]
      omega
    refine rn_imp (fold_loop (by omega) c2 0 c1 _ _ (fun h => ?_) (by omega)) fun p ⟨cs, a, b, e, l⟩ => ?_
    · have : c2.length ≠ 0 := fun z => h (List.length_eq_zero_iff.mp z)
      omega
    · subst e
      simp only [↓u_C, ↓u_nil, ↓u_cons, ↓u_tup, ↓u_lst, ↓u_op, ↓u_and, ↓u_or, ↓u_test, ↓u_not, ↓u_notT, ↓u_andT, ↓u_orT, ↓u_ifE, ↓u_chain, ↓k_chT, ↓k_chF, ↓u_CB, ↓u_isi, ↓u_sl, ↓u_noPart, ↓u_part, ↓u_seq, ↓u_next, ↓u_retN, ↓u_bk, ↓u_ct, ↓u_drop, ↓u_ret, ↓u_if, ↓u_asg, ↓u_par, ↓u_prepN, ↓u_prepD, ↓u_prepO, ↓u_allN, ↓u_allC, ↓u_for, ↓u_loopN, ↓u_loopC, ↓u_it, ↓u_stoD, ↓u_stoN, ↓u_stosN, ↓u_stosC, ↓u_range1, ↓u_enum, ↓u_lc, ↓u_lcN, ↓u_lcC, ↓u_yes, ↓u_call, ↓u_argN, ↓u_argD, ↓u_argM, ↓u_argO, ↓u_argT, ↓u_backN, ↓u_backC, ↓u_fn, ↓k_fnO, ↓u_gtupD, ↓u_gtupN, ↓u_gtupL, ↓u_gtupT, ↓u_gN, ↓u_gC, ↓k_subL, ↓u_meth, ↓u_append, ↓u_popAt, ↓u_ixD, ↓u_ixN, ↓u_ixT, ↓u_ixS, ↓u_ixX, ↓u_mod, ↓u_div, ↓u_pow, ↓u_mul, ↓u_lenX, ↓u_lenL, ↓u_lenT, ↓u_lenC, ↓u_lenN, ↓u_addS, ↓u_isiD, ↓u_isiN, ↓u_zip, ↓u_argL, ↓u_argV, ↓u_dc, ↓u_dcN, ↓u_dcC, ↓k_dcX, ↓u_turn, ↓u_neg, ↓u_frz, ↓u_stoT, ↓u_stoL, ↓u_mulT, ↓u_addT, ↓u_listT, ↓u_listL, ↓u_slT, ↓rn_bind, ↓rn_some, ↓rn_iteT, ↓rn_iteF, ↓rv0, ↓ro0, ↓rb0, ↓rn0, ↓rs0, ↓rl0, ↓ra0, ↓rk0, ↓rx0, ↓rg0, ↓rh0, ↓rp0, ↓rv1, ↓ro1, ↓rb1, ↓rn1, ↓rs1, ↓rl1, ↓ra1, ↓rk1, ↓rx1, ↓rg1, ↓rh1, ↓rp1, ↓rv2, ↓ro2, ↓rb2, ↓rn2, ↓rs2, ↓rl2, ↓ra2, ↓rk2, ↓rx2, ↓rg2, ↓rh2, ↓rp2, ↓rv3, ↓ro3, ↓rb3, ↓rn3, ↓rs3, ↓rl3, ↓ra3, ↓rk3, ↓rx3, ↓rg3, ↓rh3, ↓rp3, ↓rv4, ↓ro4, ↓rb4, ↓rn4, ↓rs4, ↓rl4, ↓ra4, ↓rk4, ↓rx4, ↓rg4, ↓rh4, ↓rp4, ↓rv5, ↓ro5, ↓rb5, ↓rn5, ↓rs5, ↓rl5, ↓ra5, ↓rk5, ↓rx5, ↓rg5, ↓rh5, ↓rp5, ↓rv6, ↓ro6, ↓rb6, ↓rn6, ↓rs6, ↓rl6, ↓ra6, ↓rk6, ↓rx6, ↓rg6, ↓rh6, ↓rp6, ↓rv7, ↓ro7, ↓rb7, ↓rn7, ↓rs7, ↓rl7, ↓ra7, ↓rk7, ↓rx7, ↓rg7, ↓rh7, ↓rp7, ↓rv8, ↓ro8, ↓rb8, ↓rn8, ↓rs8, ↓rl8, ↓ra8, ↓rk8, ↓rx8, ↓rg8, ↓rh8, ↓rp8, ↓rv9, ↓ro9, ↓rb9, ↓rn9, ↓rs9, ↓rl9, ↓ra9, ↓rk9, ↓rx9, ↓rg9, ↓rh9, ↓rp9, ↓rv10, ↓ro10, ↓rb10, ↓rn10, ↓rs10, ↓rl10, ↓ra10, ↓rk10, ↓rx10, ↓rg10, ↓rh10, ↓rp10, ↓rv11, ↓ro11, ↓rb11, ↓rn11, ↓rs11, ↓rl11, ↓ra11, ↓rk11, ↓rx11, ↓rg11, ↓rh11, ↓rp11, ↓rv12, ↓ro12, ↓rb12, ↓rn12, ↓rs12, ↓rl12, ↓ra12, ↓rk12, ↓rx12, ↓rg12, ↓rh12, ↓rp12, ↓rv13, ↓ro13, ↓rb13, ↓rn13, ↓rs13, ↓rl13, ↓ra13, ↓rk13, ↓rx13, ↓rg13, ↓rh13, ↓rp13, ↓rv14, ↓ro14, ↓rb14, ↓rn14, ↓rs14, ↓rl14, ↓ra14, ↓rk14, ↓rx14, ↓rg14, ↓rh14, ↓rp14, ↓rv15, ↓ro15, ↓rb15, ↓rn15, ↓rs15, ↓rl15, ↓ra15, ↓rk15, ↓rx15, ↓rg15, ↓rh15, ↓rp15, ↓rv16, ↓ro16, ↓rb16, ↓rn16, ↓rs16, ↓rl16, ↓ra16, ↓rk16, ↓rx16, ↓rg16, ↓rh16, ↓rp16, ↓rv17, ↓ro17, ↓rb17, ↓rn17, ↓rs17, ↓rl17, ↓ra17, ↓rk17, ↓rx17, ↓rg17, ↓rh17, ↓rp17, rn_some, k_andT, k_andF, k_orT, k_orF, k_B, k_int, k_seqN, k_seqR, k_seqB, k_seqC, k_loopN, k_loopR, k_enum, k_fnN, k_fnD, k_fnNew, e_addI, e_subI, e_ltI, e_leI, e_gtI, e_geI, e_eqI, e_neI, e_abs, e_intI, e_intB, e_at0, e_at1, e_at2, e_ix30, e_ix32, List.set_cons_zero, List.set_cons_succ, f1, List.length_cons, List.length_nil, List.all_cons, List.all_nil, cold, hots, hot, List.map_cons, List.map_nil, List.cons_append, List.nil_append, List.append_nil, List.replicate_succ, List.replicate_zero, List.take_succ_cons, List.take_zero, wipeS, backS, noOwn, Nat.reduceAdd, Nat.reduceSub, Nat.reduceLeDiff, Nat.reduceEqDiff, Bool.and_true, Bool.true_and, Bool.and_false, Bool.false_and, Bool.not_true, Bool.not_false, Bool.false_eq_true, Bool.true_eq_false, reduceCtorEq, true_and, and_true, if_true, if_false, decide_true, decide_false, isOk, isA, String.reduceBEq, turn_f, cut_1, k_zipLL, k_zipTT, k_zipTL, e_isN, e_isNot, isNo, beq_self_eq_true, bne_self_eq_false, e_eqB, e_neB, e_eqX, List.any_cons, List.any_nil, Bool.or_true, Bool.true_or, Bool.or_self, reduceIte, Bool.or_false, Bool.false_or, ri0, rt0, ri1, rt1, ri2, rt2, ri3, rt3, ri4, rt4, ri5, rt5, ri6, rt6, ri7, rt7, ri8, rt8, ri9, rt9, ri10, rt10, ri11, rt11, ri12, rt12, ri13, rt13, ri14, rt14, ri15, rt15, ri16, rt16, ri17, rt17, retV]
      exact ⟨cs, rfl, by omega⟩
  obtain ⟨a, e, d, rfl, q⟩ := main
  exact ⟨d, e, q⟩
end Tw

/-! drawn names -/
namespace Tw
open PySem PySem.Spec PyProof.Rows L2
theorem stem_loop {a1 a3 a4 : SV} {r : S} : ∀ (ks : List Da) (d : Da) (n : Nat), Tp (n + ks.length) d →
    Rn (loopC [5] (bindV 5) wYes (wOp fIxA (wVar 2) (wCall 2 [true, false] w_l_draw (wCons (wVar 0) (wCons (wC (.int 26)) wNil)))) ks (.own d :: a1 :: .dat (.str "abcdefghijklmnopqrstuvwxyz") :: a3 :: a4 :: .un :: r)) fun q => ∃ (cs : List Nat) (d' : Da), q = (cs.map fun c => Da.str (sgn c), .own d' :: a1 :: .dat (.str "abcdefghijklmnopqrstuvwxyz") :: a3 :: a4 :: .un :: r) ∧ cs.length = ks.length ∧ (∀ c ∈ cs, 97 ≤ c ∧ c ≤ 122) ∧ Tp n d'
  | [], d, n, h => by
    show Rn (some _) _
    rw [rn_some]
    exact ⟨[], d, rfl, rfl, fun _ h => by simp at h, h⟩
  | k :: ks, d, n, h => by
    obtain ⟨c, d1, e1, c0, c1, t1⟩ := draw_eq (m := 26) (show Tp ((n + ks.length) + 1) d from h) (by decide) (by decide)
    rw [u_lcC]
    simp only [↓u_C, ↓u_nil, ↓u_cons, ↓u_tup, ↓u_lst, ↓u_op, ↓u_and, ↓u_or, ↓u_test, ↓u_not, ↓u_notT, ↓u_andT, ↓u_orT, ↓u_ifE, ↓u_chain, ↓k_chT, ↓k_chF, ↓u_CB, ↓u_isi, ↓u_sl, ↓u_noPart, ↓u_part, ↓u_seq, ↓u_next, ↓u_retN, ↓u_bk, ↓u_ct, ↓u_drop, ↓u_ret, ↓u_if, ↓u_asg, ↓u_par, ↓u_prepN, ↓u_prepD, ↓u_prepO, ↓u_allN, ↓u_allC, ↓u_for, ↓u_loopN, ↓u_loopC, ↓u_it, ↓u_stoD, ↓u_stoN, ↓u_stosN, ↓u_stosC, ↓u_range1, ↓u_enum, ↓u_lc, ↓u_lcN, ↓u_lcC, ↓u_yes, ↓u_call, ↓u_argN, ↓u_argD, ↓u_argM, ↓u_argO, ↓u_argT, ↓u_backN, ↓u_backC, ↓u_fn, ↓k_fnO, ↓u_gtupD, ↓u_gtupN, ↓u_gtupL, ↓u_gtupT, ↓u_gN, ↓u_gC, ↓k_subL, ↓u_meth, ↓u_append, ↓u_popAt, ↓u_ixD, ↓u_ixN, ↓u_ixT, ↓u_ixS, ↓u_ixX, ↓u_mod, ↓u_div, ↓u_pow, ↓u_mul, ↓u_lenX, ↓u_lenL, ↓u_lenT, ↓u_lenC, ↓u_lenN, ↓u_addS, ↓u_isiD, ↓u_isiN, ↓u_zip, ↓u_argL, ↓u_argV, ↓u_dc, ↓u_dcN, ↓u_dcC, ↓k_dcX, ↓u_turn, ↓u_neg, ↓u_frz, ↓u_stoT, ↓u_stoL, ↓u_mulT, ↓u_addT, ↓u_listT, ↓u_listL, ↓u_slT, ↓rn_bind, ↓rn_some, ↓rn_iteT, ↓rn_iteF, ↓rv0, ↓ro0, ↓rb0, ↓rn0, ↓rs0, ↓rl0, ↓ra0, ↓rk0, ↓rx0, ↓rg0, ↓rh0, ↓rp0, ↓rv1, ↓ro1, ↓rb1, ↓rn1, ↓rs1, ↓rl1, ↓ra1, ↓rk1, ↓rx1, ↓rg1, ↓rh1, ↓rp1, ↓rv2, ↓ro2, ↓rb2, ↓rn2, ↓rs2, ↓rl2, ↓ra2, ↓rk2, ↓rx2, ↓rg2, ↓rh2, ↓rp2, ↓rv3, ↓ro3, ↓rb3, ↓rn3, ↓rs3, ↓rl3, ↓ra3, ↓rk3, ↓rx3, ↓rg3, ↓rh3, ↓rp3, ↓rv4, ↓ro4, ↓rb4, ↓rn4, ↓rs4, ↓rl4, ↓ra4, ↓rk4, ↓rx4, ↓rg4, ↓rh4, ↓rp4, ↓rv5, ↓ro5, ↓rb5, ↓rn5, ↓rs5, ↓rl5, ↓ra5, ↓rk5, ↓rx5, ↓rg5, ↓rh5, ↓rp5, ↓rv6, ↓ro6, ↓rb6, ↓rn6, ↓rs6, ↓rl6, ↓ra6, ↓rk6, ↓rx6, ↓rg6, ↓rh6, ↓rp6, ↓rv7, ↓ro7, ↓rb7, ↓rn7, ↓rs7, ↓rl7, ↓ra7, ↓rk7, ↓rx7, ↓rg7, ↓rh7, ↓rp7, ↓rv8, ↓ro8, ↓rb8, ↓rn8, ↓rs8, ↓rl8, ↓ra8, ↓rk8, ↓rx8, ↓rg8, ↓rh8, ↓rp8, ↓rv9, ↓ro9, ↓rb9, ↓rn9, ↓rs9, ↓rl9, ↓ra9, ↓rk9, ↓rx9, ↓rg9, ↓rh9, ↓rp9, ↓rv10, ↓ro10, ↓rb10, ↓rn10, ↓rs10, ↓rl10, ↓ra10, ↓rk10, ↓rx10, ↓rg10, ↓rh10, ↓rp10, ↓rv11, ↓ro11, ↓rb11, ↓rn11, ↓rs11, ↓rl11, ↓ra11, ↓rk11, ↓rx11, ↓rg11, ↓rh11, ↓rp11, ↓rv12, ↓ro12, ↓rb12, ↓rn12, ↓rs12, ↓rl12, ↓ra12, ↓rk12, ↓rx12, ↓rg12, ↓rh12, ↓rp12, ↓rv13, ↓ro13, ↓rb13, ↓rn13, ↓rs13, ↓rl13, ↓ra13, ↓rk13, ↓rx13, ↓rg13, ↓rh13, ↓rp13, ↓rv14, ↓ro14, ↓rb14, ↓rn14, ↓rs14, ↓rl14, ↓ra14, ↓rk14, ↓rx14, ↓rg14, ↓rh14, ↓rp14, ↓rv15, ↓ro15, ↓rb15, ↓rn15, ↓rs15, ↓rl15, ↓ra15, ↓rk15, ↓rx15, ↓rg15, ↓rh15, ↓rp15, ↓rv16, ↓ro16, ↓rb16, ↓rn16, ↓rs16, ↓rl16, ↓ra16, ↓rk16, ↓rx16, ↓rg16, ↓rh16, ↓rp16, ↓rv17, ↓ro17, ↓rb17, ↓rn17, ↓rs17, ↓rl17, ↓ra17, ↓rk17, ↓rx17, ↓rg17, ↓rh17, ↓rp17, rn_some, k_andT, k_andF, k_orT, k_orF, k_B, k_int, k_seqN, k_seqR, k_seqB, k_seqC, k_loopN, k_loopR, k_enum, k_fnN, k_fnD, k_fnNew, e_addI, e_subI, e_ltI, e_leI, e_gtI, e_geI, e_eqI, e_neI, e_abs, e_intI, e_intB, e_at0, e_at1, e_at2, e_ix30, e_ix32, List.set_cons_zero, List.set_cons_succ, f1, List.length_cons, List.length_nil, List.all_cons, List.all_nil, cold, hots, hot, List.map_cons, List.map_nil, List.cons_append, List.nil_append, List.append_nil, List.replicate_succ, List.replicate_zero, List.take_succ_cons, List.take_zero, wipeS, backS, noOwn, Nat.reduceAdd, Nat.reduceSub, Nat.reduceLeDiff, Nat.reduceEqDiff, Bool.and_true, Bool.true_and, Bool.and_false, Bool.false_and, Bool.not_true, Bool.not_false, Bool.false_eq_true, Bool.true_eq_false, reduceCtorEq, true_and, and_true, if_true, if_false, decide_true, decide_false, isOk, isA, String.reduceBEq, turn_f, cut_1, k_zipLL, k_zipTT, k_zipTL, e_isN, e_isNot, isNo, beq_self_eq_true, bne_self_eq_false, e_eqB, e_neB, e_eqX, List.any_cons, List.any_nil, Bool.or_true, Bool.true_or, Bool.or_self, reduceIte, Bool.or_false, Bool.false_or, ri0, rt0, ri1, rt1, ri2, rt2, ri3, rt3, ri4, rt4, ri5, rt5, ri6, rt6, ri7, rt7, ri8, rt8, ri9, rt9, ri10, rt10, ri11, rt11, ri12, rt12, ri13, rt13, ri14, rt14, ri15, rt15, ri16, rt16, ri17, rt17, ↓rn_of e1, letter_at c0 c1]
    refine rn_imp (stem_loop ks d1 n t1) fun q ⟨cs, d', e, l, a, t⟩ => ?_
    subst e
    exact ⟨(97 + c.toNat) :: cs, d', rfl, by simp [l], fun z hz => (List.mem_cons.mp hz).elim (fun e => by omega) (a z), t⟩
theorem strs_sgn : ∀ (cs : List Nat), strsD (cs.map fun c => Da.str (sgn c)) = some (cs.map sgn)
  | [] => rfl
  | c :: cs => by
    show (strsD (cs.map fun c => Da.str (sgn c))).bind _ = _
    rw [strs_sgn cs]
    rfl
theorem join_stem {cs : List Nat} {s : S} (h : cs.length ≤ 100) : fJoin (.d (.str "")) (.n (.lst (cs.map fun c => Da.str (sgn c)))) s = some (.d (.str (mkS cs)), s) := by
  show (its s (.n (.lst (cs.map fun c => Da.str (sgn c))))).bind (fun p => (strsD p.2).bind fun l => if (l.map (·.length)).sum + l.length * ("" : Str).length ≤ 100000 then some (RV.d (.str (Str.join "" l)), s) else none) = _
  have e : its s (.n (.lst (cs.map fun c => Da.str (sgn c)))) = some (false, cs.map fun c => Da.str (sgn c)) := rfl
  rw [e, Option.bind_some]
  simp only [strs_sgn, Option.bind_some]
  have e2 : ((cs.map sgn).map (·.length)).sum = cs.length := by
    clear h e
    induction cs with
    | nil => rfl
    | cons c r ih =>
      simp only [List.map_cons, List.sum_cons, List.length_cons]
      rw [ih]
      show 1 + _ = _
      omega
  rw [if_pos (by rw [e2, List.length_map]; show cs.length + cs.length * 0 ≤ 100000; omega)]
  have := join_sgn cs
  rw [TL.join_eq] at this
  rw [this]
theorem ne_empty {tl : List Nat} {s : S} : fEq true (.d (.str (mkS tl))) (.d (.str "")) s = some (.d (.bl (decide (tl ≠ []))), s) := by
  have : eqD (.str (mkS tl)) (.str "") = decide (tl = []) := by
    show PyData.eqv (.str (mkS tl)) (.str "") = _
    simp only [PyData.eqv]
    cases tl with
    | nil => decide +kernel
    | cons c r =>
      have : mkS (c :: r) ≠ ("" : Str) := fun z => by
        have := congrArg Str.length z
        rw [mkS_len] at this
        exact absurd this (Nat.succ_ne_zero _)
      simp [this]
  have ok : eqOk (.str (mkS tl)) (.str "") = true := rfl
  show (if eqOk (.str (mkS tl)) (.str "") = true then some (RV.d (.bl (!eqD (.str (mkS tl)) (.str ""))), s) else none) = _
  rw [if_pos ok, this]
  simp
theorem mul_half {z : Str} {k : Nat} {s : S} : fMul (.d (.str z)) (.d (.int ((k : Int) % 2))) s = some (.d (.str (if k % 2 = 0 then ("" : Str) else z)), s) := by
  show (if (k : Int) % 2 = 0 then some (RV.d (.str ""), s) else if (k : Int) % 2 = 1 then some (RV.d (.str z), s) else none) = _
  by_cases h : k % 2 = 0
  · rw [if_pos (by omega), if_pos h]
  · rw [if_neg (by omega), if_pos (by omega), if_neg h]
theorem letter_mod (i : Int) : atI ("abcdefghijklmnopqrstuvwxyz" : Str).cps.toList (i % 26) = some (97 + (i % 26).toNat) := letter_at (by omega) (by omega)
theorem names_loop {t a1 : SV} {hd tl : List Nat} {sh st wy at_ : Nat} {cs : List Nat} (hl : hd.length + tl.length ≤ 7) (hst : st ≤ 25) (hw : ((sh : Int) + at_ + cs.length) % 3 * (if decide (tl ≠ []) = true then 1 else 0) = (wy : Int)) (hwy : wy < 3) : ∀ (ks : List Nat) (found : List Str) (fl : List Da) (a5 a11 a12 : SV), fl = found.map Da.str → (∀ k ∈ ks, k < 1000) → found.length + ks.length ≤ 1000 →
    Rn (loopS (bindV 5)
    (wSeq (wAsg (wOp fMul (wOp fMod (wOp fAdd (wOp fAdd (wVar 3) (wVar 6)) (wCB (f1 fLen) (wCons (wVar 4) wNil))) (wC (.int 3))) (wCB (f1 fInt) (wCons (wOp (fEq true) (wVar 10) (wC (.str ""))) wNil))) (bindV 11))
    (wSeq (wAsg (wOp fIxA (wVar 2) (wOp fMod (wOp fAdd (wVar 3) (wOp fMul (wVar 7) (wOp fIxA (wLst (wCons (wVar 5) (wCons (wOp fDiv (wVar 5) (wC (.int 2))) (wCons (wVar 5) wNil)))) (wVar 11)))) (wC (.int 26)))) (bindV 12))
    (wDrop (wMeth 8 fAppend (wCons (wOp fAdd (wOp fAdd (wVar 9) (wVar 12)) (wOp fIxA (wLst (wCons (wVar 10) (wCons (wOp fMul (wVar 10) (wOp fMod (wVar 5) (wC (.int 2)))) (wCons (wSl (wVar 10) wNoPart (wPart (wOp fMod (wVar 5) (wOp fAdd (wCB (f1 fLen) (wCons (wVar 10) wNil)) (wC (.int 1)))))) wNil)))) (wVar 11))) wNil))))) (ks.map fun k => Da.int (k : Nat))
    [t, a1, .dat (.str "abcdefghijklmnopqrstuvwxyz"), .dat (.int (sh : Int)), .dat (.str (mkS cs)), a5, .dat (.int (at_ : Int)), .dat (.int (st : Int)), .own (.lst fl), .dat (.str (mkS hd)), .dat (.str (mkS tl)), a11, a12]) fun p => ∃ a5' a11' a12' : SV, p = (.nx, [t, a1, .dat (.str "abcdefghijklmnopqrstuvwxyz"), .dat (.int (sh : Int)), .dat (.str (mkS cs)), a5', .dat (.int (at_ : Int)), .dat (.int (st : Int)), .own (.lst ((found ++ ks.map fun k => mkS (nmOf hd tl sh st wy k)).map Da.str)), .dat (.str (mkS hd)), .dat (.str (mkS tl)), a11', a12'])
  | [], found, fl, a5, a11, a12, hfl, _, _ => by
    subst hfl
    show Rn (some _) _
    rw [rn_some, List.map_nil, List.append_nil]
    exact ⟨_, _, _, rfl⟩
  | k :: ks, found, fl, a5, a11, a12, hfl, hk, hf => by
    subst hfl
    have lm : ∀ cs : List Nat, (mkS cs).length = cs.length := mkS_len
    have lg : ∀ c : Nat, Str.length ⟨#[c]⟩ = 1 := fun _ => rfl
    have k0 := hk k (by simp)
    rw [List.map_cons, u_loopC]
    have cw : wy = 0 ∨ wy = 1 ∨ wy = 2 := by omega
    have mm : ((k : Int) % ((tl.length : Int) + 1)) = ((k % (tl.length + 1) : Nat) : Int) := by simp
    have mle : k % (tl.length + 1) ≤ tl.length := Nat.le_of_lt_succ (Nat.mod_lt _ (by omega))
    have fin : ∀ c : Nat, ∀ z : List Nat, mkS hd ++ (⟨#[c]⟩ : Str) ++ mkS z = mkS (hd ++ [c] ++ z) := fun c z => by
      rw [← mkS_app, ← mkS_app]
      rfl
    have me : ("" : Str) = mkS [] := rfl
    have c3 : ∀ x, cMul x (if decide (tl ≠ []) = true then 1 else 0) = true := fun x => c_mul (b01 _).1 (b01 _).2
    have la : ∀ a b : Str, (a ++ b).length = a.length + b.length := fun a b => by
      show (a.cps ++ b.cps).size = _
      rw [Array.size_append]
      rfl
    have tn : ∀ x : Nat, (((sh : Int) + (st : Int) * (x : Int)) % 26).toNat = (sh + st * x) % 26 := fun x => by
      have : ((sh : Int) + (st : Int) * (x : Int)) = ((sh + st * x : Nat) : Int) := by simp
      rw [this]
      omega
    have k2 : ((k : Int) / 2) = ((k / 2 : Nat) : Int) := by omega
    have stk : (st : Int) < 2 ^ 64 := by omega
    have tlm : (tl.take (k % (tl.length + 1))).length ≤ tl.length := by rw [List.length_take]; omega
    have lf : found.length < 100000 := by simp at hf; omega
    rcases cw with rfl | rfl | rfl
    · have hw' : ((sh : Int) + at_ + cs.length) % 3 * (if decide (tl ≠ []) = true then 1 else 0) = 0 := hw
      simp only [↓u_C, ↓u_nil, ↓u_cons, ↓u_tup, ↓u_lst, ↓u_op, ↓u_and, ↓u_or, ↓u_test, ↓u_not, ↓u_notT, ↓u_andT, ↓u_orT, ↓u_ifE, ↓u_chain, ↓k_chT, ↓k_chF, ↓u_CB, ↓u_isi, ↓u_sl, ↓u_noPart, ↓u_part, ↓u_seq, ↓u_next, ↓u_retN, ↓u_bk, ↓u_ct, ↓u_drop, ↓u_ret, ↓u_if, ↓u_asg, ↓u_par, ↓u_prepN, ↓u_prepD, ↓u_prepO, ↓u_allN, ↓u_allC, ↓u_for, ↓u_loopN, ↓u_loopC, ↓u_it, ↓u_stoD, ↓u_stoN, ↓u_stosN, ↓u_stosC, ↓u_range1, ↓u_enum, ↓u_lc, ↓u_lcN, ↓u_lcC, ↓u_yes, ↓u_call, ↓u_argN, ↓u_argD, ↓u_argM, ↓u_argO, ↓u_argT, ↓u_backN, ↓u_backC, ↓u_fn, ↓k_fnO, ↓u_gtupD, ↓u_gtupN, ↓u_gtupL, ↓u_gtupT, ↓u_gN, ↓u_gC, ↓k_subL, ↓u_meth, ↓u_append, ↓u_popAt, ↓u_ixD, ↓u_ixN, ↓u_ixT, ↓u_ixS, ↓u_ixX, ↓u_mod, ↓u_div, ↓u_pow, ↓u_mul, ↓u_lenX, ↓u_lenL, ↓u_lenT, ↓u_lenC, ↓u_lenN, ↓u_addS, ↓u_isiD, ↓u_isiN, ↓u_zip, ↓u_argL, ↓u_argV, ↓u_dc, ↓u_dcN, ↓u_dcC, ↓k_dcX, ↓u_turn, ↓u_neg, ↓u_frz, ↓u_stoT, ↓u_stoL, ↓u_mulT, ↓u_addT, ↓u_listT, ↓u_listL, ↓u_slT, ↓rn_bind, ↓rn_some, ↓rn_iteT, ↓rn_iteF, ↓rv0, ↓ro0, ↓rb0, ↓rn0, ↓rs0, ↓rl0, ↓ra0, ↓rk0, ↓rx0, ↓rg0, ↓rh0, ↓rp0, ↓rv1, ↓ro1, ↓rb1, ↓rn1, ↓rs1, ↓rl1, ↓ra1, ↓rk1, ↓rx1, ↓rg1, ↓rh1, ↓rp1, ↓rv2, ↓ro2, ↓rb2, ↓rn2, ↓rs2, ↓rl2, ↓ra2, ↓rk2, ↓rx2, ↓rg2, ↓rh2, ↓rp2, ↓rv3, ↓ro3, ↓rb3, ↓rn3, ↓rs3, ↓rl3, ↓ra3, ↓rk3, ↓rx3, ↓rg3, ↓rh3, ↓rp3, ↓rv4, ↓ro4, ↓rb4, ↓rn4, ↓rs4, ↓rl4, ↓ra4, ↓rk4, ↓rx4, ↓rg4, ↓rh4, ↓rp4, ↓rv5, ↓ro5, ↓rb5, ↓rn5, ↓rs5, ↓rl5, ↓ra5, ↓rk5, ↓rx5, ↓rg5, ↓rh5, ↓rp5, ↓rv6, ↓ro6, ↓rb6, ↓rn6, ↓rs6, ↓rl6, ↓ra6, ↓rk6, ↓rx6, ↓rg6, ↓rh6, ↓rp6, ↓rv7, ↓ro7, ↓rb7, ↓rn7, ↓rs7, ↓rl7, ↓ra7, ↓rk7, ↓rx7, ↓rg7, ↓rh7, ↓rp7, ↓rv8, ↓ro8, ↓rb8, ↓rn8, ↓rs8, ↓rl8, ↓ra8, ↓rk8, ↓rx8, ↓rg8, ↓rh8, ↓rp8, ↓rv9, ↓ro9, ↓rb9, ↓rn9, ↓rs9, ↓rl9, ↓ra9, ↓rk9, ↓rx9, ↓rg9, ↓rh9, ↓rp9, ↓rv10, ↓ro10, ↓rb10, ↓rn10, ↓rs10, ↓rl10, ↓ra10, ↓rk10, ↓rx10, ↓rg10, ↓rh10, ↓rp10, ↓rv11, ↓ro11, ↓rb11, ↓rn11, ↓rs11, ↓rl11, ↓ra11, ↓rk11, ↓rx11, ↓rg11, ↓rh11, ↓rp11, ↓rv12, ↓ro12, ↓rb12, ↓rn12, ↓rs12, ↓rl12, ↓ra12, ↓rk12, ↓rx12, ↓rg12, ↓rh12, ↓rp12, ↓rv13, ↓ro13, ↓rb13, ↓rn13, ↓rs13, ↓rl13, ↓ra13, ↓rk13, ↓rx13, ↓rg13, ↓rh13, ↓rp13, ↓rv14, ↓ro14, ↓rb14, ↓rn14, ↓rs14, ↓rl14, ↓ra14, ↓rk14, ↓rx14, ↓rg14, ↓rh14, ↓rp14, ↓rv15, ↓ro15, ↓rb15, ↓rn15, ↓rs15, ↓rl15, ↓ra15, ↓rk15, ↓rx15, ↓rg15, ↓rh15, ↓rp15, ↓rv16, ↓ro16, ↓rb16, ↓rn16, ↓rs16, ↓rl16, ↓ra16, ↓rk16, ↓rx16, ↓rg16, ↓rh16, ↓rp16, ↓rv17, ↓ro17, ↓rb17, ↓rn17, ↓rs17, ↓rl17, ↓ra17, ↓rk17, ↓rx17, ↓rg17, ↓rh17, ↓rp17, rn_some, k_andT, k_andF, k_orT, k_orF, k_B, k_int, k_seqN, k_seqR, k_seqB, k_seqC, k_loopN, k_loopR, k_enum, k_fnN, k_fnD, k_fnNew, e_addI, e_subI, e_ltI, e_leI, e_gtI, e_geI, e_eqI, e_neI, e_abs, e_intI, e_intB, e_at0, e_at1, e_at2, e_ix30, e_ix32, List.set_cons_zero, List.set_cons_succ, f1, List.length_cons, List.length_nil, List.all_cons, List.all_nil, cold, hots, hot, List.map_cons, List.map_nil, List.cons_append, List.nil_append, List.append_nil, List.replicate_succ, List.replicate_zero, List.take_succ_cons, List.take_zero, wipeS, backS, noOwn, Nat.reduceAdd, Nat.reduceSub, Nat.reduceLeDiff, Nat.reduceEqDiff, Bool.and_true, Bool.true_and, Bool.and_false, Bool.false_and, Bool.not_true, Bool.not_false, Bool.false_eq_true, Bool.true_eq_false, reduceCtorEq, true_and, and_true, if_true, if_false, decide_true, decide_false, isOk, isA, String.reduceBEq, turn_f, cut_1, k_zipLL, k_zipTT, k_zipTL, e_isN, e_isNot, isNo, beq_self_eq_true, bne_self_eq_false, e_eqB, e_neB, e_eqX, List.any_cons, List.any_nil, Bool.or_true, Bool.true_or, Bool.or_self, reduceIte, Bool.or_false, Bool.false_or, ri0, rt0, ri1, rt1, ri2, rt2, ri3, rt3, ri4, rt4, ri5, rt5, ri6, rt6, ri7, rt7, ri8, rt8, ri9, rt9, ri10, rt10, ri11, rt11, ri12, rt12, ri13, rt13, ri14, rt14, ri15, rt15, ri16, rt16, ri17, rt17, lm, ne_empty, hw', mul_half, fSl, mm, cut_take mle, lg, c3, letter_mod, List.length_map, la, tn, fin]
      refine ⟨by decide, c_div (by decide) (by decide), c_mulL (by omega) stk, by decide, by omega, by decide, by omega, by omega, lf, ?_⟩
      exact rn_imp (names_loop (t := t) (a1 := a1) hl hst hw hwy ks (found ++ [mkS (nmOf hd tl sh st 0 k)]) _ _ _ _ (by rw [List.map_append]; rfl) (fun j hj => hk j (List.mem_cons_of_mem _ hj)) (by simp at hf ⊢; omega)) fun p ⟨x, y, z, e⟩ => ⟨x, y, z, by rw [e, List.append_assoc]; rfl⟩
    · have hw' : ((sh : Int) + at_ + cs.length) % 3 * (if decide (tl ≠ []) = true then 1 else 0) = 1 := hw
      have ef : mkS hd ++ (⟨#[97 + (sh + st * (k / 2)) % 26]⟩ : Str) ++ (if k % 2 = 0 then ("" : Str) else mkS tl) = mkS (nmOf hd tl sh st 1 k) := by
        by_cases hz : k % 2 = 0
        · rw [if_pos hz, me, fin]
          unfold nmOf
          rw [if_neg (show ¬ (1 = 0) by decide), if_pos rfl, if_pos rfl, if_pos hz]
        · rw [if_neg hz, fin]
          unfold nmOf
          rw [if_neg (show ¬ (1 = 0) by decide), if_pos rfl, if_pos rfl, if_neg hz]
      have lz : (if k % 2 = 0 then ("" : Str) else mkS tl).length ≤ 7 := by
        split
        · decide +kernel
        · rw [lm]; omega
      simp only [↓u_C, ↓u_nil, ↓u_cons, ↓u_tup, ↓u_lst, ↓u_op, ↓u_and, ↓u_or, ↓u_test, ↓u_not, ↓u_notT, ↓u_andT, ↓u_orT, ↓u_ifE, ↓u_chain, ↓k_chT, ↓k_chF, ↓u_CB, ↓u_isi, ↓u_sl, ↓u_noPart, ↓u_part, ↓u_seq, ↓u_next, ↓u_retN, ↓u_bk, ↓u_ct, ↓u_drop, ↓u_ret, ↓u_if, ↓u_asg, ↓u_par, ↓u_prepN, ↓u_prepD, ↓u_prepO, ↓u_allN, ↓u_allC, ↓u_for, ↓u_loopN, ↓u_loopC, ↓u_it, ↓u_stoD, ↓u_stoN, ↓u_stosN, ↓u_stosC, ↓u_range1, ↓u_enum, ↓u_lc, ↓u_lcN, ↓u_lcC, ↓u_yes, ↓u_call, ↓u_argN, ↓u_argD, ↓u_argM, ↓u_argO, ↓u_argT, ↓u_backN, ↓u_backC, ↓u_fn, ↓k_fnO, ↓u_gtupD, ↓u_gtupN, ↓u_gtupL, ↓u_gtupT, ↓u_gN, ↓u_gC, ↓k_subL, ↓u_meth, ↓u_append, ↓u_popAt, ↓u_ixD, ↓u_ixN, ↓u_ixT, ↓u_ixS, ↓u_ixX, ↓u_mod, ↓u_div, ↓u_pow, ↓u_mul, ↓u_lenX, ↓u_lenL, ↓u_lenT, ↓u_lenC, ↓u_lenN, ↓u_addS, ↓u_isiD, ↓u_isiN, ↓u_zip, ↓u_argL, ↓u_argV, ↓u_dc, ↓u_dcN, ↓u_dcC, ↓k_dcX, ↓u_turn, ↓u_neg, ↓u_frz, ↓u_stoT, ↓u_stoL, ↓u_mulT, ↓u_addT, ↓u_listT, ↓u_listL, ↓u_slT, ↓rn_bind, ↓rn_some, ↓rn_iteT, ↓rn_iteF, ↓rv0, ↓ro0, ↓rb0, ↓rn0, ↓rs0, ↓rl0, ↓ra0, ↓rk0, ↓rx0, ↓rg0, ↓rh0, ↓rp0, ↓rv1, ↓ro1, ↓rb1, ↓rn1, ↓rs1, ↓rl1, ↓ra1, ↓rk1, ↓rx1, ↓rg1, ↓rh1, ↓rp1, ↓rv2, ↓ro2, ↓rb2, ↓rn2, ↓rs2, ↓rl2, ↓ra2, ↓rk2, ↓rx2, ↓rg2, ↓rh2, ↓rp2, ↓rv3, ↓ro3, ↓rb3, ↓rn3, ↓rs3, ↓rl3, ↓ra3, ↓rk3, ↓rx3, ↓rg3, ↓rh3, ↓rp3, ↓rv4, ↓ro4, ↓rb4, ↓rn4, ↓rs4, ↓rl4, ↓ra4, ↓rk4, ↓rx4, ↓rg4, ↓rh4, ↓rp4, ↓rv5, ↓ro5, ↓rb5, ↓rn5, ↓rs5, ↓rl5, ↓ra5, ↓rk5, ↓rx5, ↓rg5, ↓rh5, ↓rp5, ↓rv6, ↓ro6, ↓rb6, ↓rn6, ↓rs6, ↓rl6, ↓ra6, ↓rk6, ↓rx6, ↓rg6, ↓rh6, ↓rp6, ↓rv7, ↓ro7, ↓rb7, ↓rn7, ↓rs7, ↓rl7, ↓ra7, ↓rk7, ↓rx7, ↓rg7, ↓rh7, ↓rp7, ↓rv8, ↓ro8, ↓rb8, ↓rn8, ↓rs8, ↓rl8, ↓ra8, ↓rk8, ↓rx8, ↓rg8, ↓rh8, ↓rp8, ↓rv9, ↓ro9, ↓rb9, ↓rn9, ↓rs9, ↓rl9, ↓ra9, ↓rk9, ↓rx9, ↓rg9, ↓rh9, ↓rp9, ↓rv10, ↓ro10, ↓rb10, ↓rn10, ↓rs10, ↓rl10, ↓ra10, ↓rk10, ↓rx10, ↓rg10, ↓rh10, ↓rp10, ↓rv11, ↓ro11, ↓rb11, ↓rn11, ↓rs11, ↓rl11, ↓ra11, ↓rk11, ↓rx11, ↓rg11, ↓rh11, ↓rp11, ↓rv12, ↓ro12, ↓rb12, ↓rn12, ↓rs12, ↓rl12, ↓ra12, ↓rk12, ↓rx12, ↓rg12, ↓rh12, ↓rp12, ↓rv13, ↓ro13, ↓rb13, ↓rn13, ↓rs13, ↓rl13, ↓ra13, ↓rk13, ↓rx13, ↓rg13, ↓rh13, ↓rp13, ↓rv14, ↓ro14, ↓rb14, ↓rn14, ↓rs14, ↓rl14, ↓ra14, ↓rk14, ↓rx14, ↓rg14, ↓rh14, ↓rp14, ↓rv15, ↓ro15, ↓rb15, ↓rn15, ↓rs15, ↓rl15, ↓ra15, ↓rk15, ↓rx15, ↓rg15, ↓rh15, ↓rp15, ↓rv16, ↓ro16, ↓rb16, ↓rn16, ↓rs16, ↓rl16, ↓ra16, ↓rk16, ↓rx16, ↓rg16, ↓rh16, ↓rp16, ↓rv17, ↓ro17, ↓rb17, ↓rn17, ↓rs17, ↓rl17, ↓ra17, ↓rk17, ↓rx17, ↓rg17, ↓rh17, ↓rp17, rn_some, k_andT, k_andF, k_orT, k_orF, k_B, k_int, k_seqN, k_seqR, k_seqB, k_seqC, k_loopN, k_loopR, k_enum, k_fnN, k_fnD, k_fnNew, e_addI, e_subI, e_ltI, e_leI, e_gtI, e_geI, e_eqI, e_neI, e_abs, e_intI, e_intB, e_at0, e_at1, e_at2, e_ix30, e_ix32, List.set_cons_zero, List.set_cons_succ, f1, List.length_cons, List.length_nil, List.all_cons, List.all_nil, cold, hots, hot, List.map_cons, List.map_nil, List.cons_append, List.nil_append, List.append_nil, List.replicate_succ, List.replicate_zero, List.take_succ_cons, List.take_zero, wipeS, backS, noOwn, Nat.reduceAdd, Nat.reduceSub, Nat.reduceLeDiff, Nat.reduceEqDiff, Bool.and_true, Bool.true_and, Bool.and_false, Bool.false_and, Bool.not_true, Bool.not_false, Bool.false_eq_true, Bool.true_eq_false, reduceCtorEq, true_and, and_true, if_true, if_false, decide_true, decide_false, isOk, isA, String.reduceBEq, turn_f, cut_1, k_zipLL, k_zipTT, k_zipTL, e_isN, e_isNot, isNo, beq_self_eq_true, bne_self_eq_false, e_eqB, e_neB, e_eqX, List.any_cons, List.any_nil, Bool.or_true, Bool.true_or, Bool.or_self, reduceIte, Bool.or_false, Bool.false_or, ri0, rt0, ri1, rt1, ri2, rt2, ri3, rt3, ri4, rt4, ri5, rt5, ri6, rt6, ri7, rt7, ri8, rt8, ri9, rt9, ri10, rt10, ri11, rt11, ri12, rt12, ri13, rt13, ri14, rt14, ri15, rt15, ri16, rt16, ri17, rt17, lm, ne_empty, hw', mul_half, fSl, mm, cut_take mle, lg, c3, letter_mod, List.length_map, la, k2, tn, ef]
      refine ⟨by decide, c_div (by decide) (by decide), c_mulL (by omega) stk, by decide, by omega, by decide, by omega, by omega, lf, ?_⟩
      exact rn_imp (names_loop (t := t) (a1 := a1) hl hst hw hwy ks (found ++ [mkS (nmOf hd tl sh st 1 k)]) _ _ _ _ (by rw [List.map_append]; rfl) (fun j hj => hk j (List.mem_cons_of_mem _ hj)) (by simp at hf ⊢; omega)) fun p ⟨x, y, z, e⟩ => ⟨x, y, z, by rw [e, List.append_assoc]; rfl⟩
    · have hw' : ((sh : Int) + at_ + cs.length) % 3 * (if decide (tl ≠ []) = true then 1 else 0) = 2 := hw
      simp only [↓u_C, ↓u_nil, ↓u_cons, ↓u_tup, ↓u_lst, ↓u_op, ↓u_and, ↓u_or, ↓u_test, ↓u_not, ↓u_notT, ↓u_andT, ↓u_orT, ↓u_ifE, ↓u_chain, ↓k_chT, ↓k_chF, ↓u_CB, ↓u_isi, ↓u_sl, ↓u_noPart, ↓u_part, ↓u_seq, ↓u_next, ↓u_retN, ↓u_bk, ↓u_ct, ↓u_drop, ↓u_ret, ↓u_if, ↓u_asg, ↓u_par, ↓u_prepN, ↓u_prepD, ↓u_prepO, ↓u_allN, ↓u_allC, ↓u_for, ↓u_loopN, ↓u_loopC, ↓u_it, ↓u_stoD, ↓u_stoN, ↓u_stosN, ↓u_stosC, ↓u_range1, ↓u_enum, ↓u_lc, ↓u_lcN, ↓u_lcC, ↓u_yes, ↓u_call, ↓u_argN, ↓u_argD, ↓u_argM, ↓u_argO, ↓u_argT, ↓u_backN, ↓u_backC, ↓u_fn, ↓k_fnO, ↓u_gtupD, ↓u_gtupN, ↓u_gtupL, ↓u_gtupT, ↓u_gN, ↓u_gC, ↓k_subL, ↓u_meth, ↓u_append, ↓u_popAt, ↓u_ixD, ↓u_ixN, ↓u_ixT, ↓u_ixS, ↓u_ixX, ↓u_mod, ↓u_div, ↓u_pow, ↓u_mul, ↓u_lenX, ↓u_lenL, ↓u_lenT, ↓u_lenC, ↓u_lenN, ↓u_addS, ↓u_isiD, ↓u_isiN, ↓u_zip, ↓u_argL, ↓u_argV, ↓u_dc, ↓u_dcN, ↓u_dcC, ↓k_dcX, ↓u_turn, ↓u_neg, ↓u_frz, ↓u_stoT, ↓u_stoL, ↓u_mulT, ↓u_addT, ↓u_listT, ↓u_listL, ↓u_slT, ↓rn_bind, ↓rn_some, ↓rn_iteT, ↓rn_iteF, ↓rv0, ↓ro0, ↓rb0, ↓rn0, ↓rs0, ↓rl0, ↓ra0, ↓rk0, ↓rx0, ↓rg0, ↓rh0, ↓rp0, ↓rv1, ↓ro1, ↓rb1, ↓rn1, ↓rs1, ↓rl1, ↓ra1, ↓rk1, ↓rx1, ↓rg1, ↓rh1, ↓rp1, ↓rv2, ↓ro2, ↓rb2, ↓rn2, ↓rs2, ↓rl2, ↓ra2, ↓rk2, ↓rx2, ↓rg2, ↓rh2, ↓rp2, ↓rv3, ↓ro3, ↓rb3, ↓rn3, ↓rs3, ↓rl3, ↓ra3, ↓rk3, ↓rx3, ↓rg3, ↓rh3, ↓rp3, ↓rv4, ↓ro4, ↓rb4, ↓rn4, ↓rs4, ↓rl4, ↓ra4, ↓rk4, ↓rx4, ↓rg4, ↓rh4, ↓rp4, ↓rv5, ↓ro5, ↓rb5, ↓rn5, ↓rs5, ↓rl5, ↓ra5, ↓rk5, ↓rx5, ↓rg5, ↓rh5, ↓rp5, ↓rv6, ↓ro6, ↓rb6, ↓rn6, ↓rs6, ↓rl6, ↓ra6, ↓rk6, ↓rx6, ↓rg6, ↓rh6, ↓rp6, ↓rv7, ↓ro7, ↓rb7, ↓rn7, ↓rs7, ↓rl7, ↓ra7, ↓rk7, ↓rx7, ↓rg7, ↓rh7, ↓rp7, ↓rv8, ↓ro8, ↓rb8, ↓rn8, ↓rs8, ↓rl8, ↓ra8, ↓rk8, ↓rx8, ↓rg8, ↓rh8, ↓rp8, ↓rv9, ↓ro9, ↓rb9, ↓rn9, ↓rs9, ↓rl9, ↓ra9, ↓rk9, ↓rx9, ↓rg9, ↓rh9, ↓rp9, ↓rv10, ↓ro10, ↓rb10, ↓rn10, ↓rs10, ↓rl10, ↓ra10, ↓rk10, ↓rx10, ↓rg10, ↓rh10, ↓rp10, ↓rv11, ↓ro11, ↓rb11, ↓rn11, ↓rs11, ↓rl11, ↓ra11, ↓rk11, ↓rx11, ↓rg11, ↓rh11, ↓rp11, ↓rv12, ↓ro12, ↓rb12, ↓rn12, ↓rs12, ↓rl12, ↓ra12, ↓rk12, ↓rx12, ↓rg12, ↓rh12, ↓rp12, ↓rv13, ↓ro13, ↓rb13, ↓rn13, ↓rs13, ↓rl13, ↓ra13, ↓rk13, ↓rx13, ↓rg13, ↓rh13, ↓rp13, ↓rv14, ↓ro14, ↓rb14, ↓rn14, ↓rs14, ↓rl14, ↓ra14, ↓rk14, ↓rx14, ↓rg14, ↓rh14, ↓rp14, ↓rv15, ↓ro15, ↓rb15, ↓rn15, ↓rs15, ↓rl15, ↓ra15, ↓rk15, ↓rx15, ↓rg15, ↓rh15, ↓rp15, ↓rv16, ↓ro16, ↓rb16, ↓rn16, ↓rs16, ↓rl16, ↓ra16, ↓rk16, ↓rx16, ↓rg16, ↓rh16, ↓rp16, ↓rv17, ↓ro17, ↓rb17, ↓rn17, ↓rs17, ↓rl17, ↓ra17, ↓rk17, ↓rx17, ↓rg17, ↓rh17, ↓rp17, rn_some, k_andT, k_andF, k_orT, k_orF, k_B, k_int, k_seqN, k_seqR, k_seqB, k_seqC, k_loopN, k_loopR, k_enum, k_fnN, k_fnD, k_fnNew, e_addI, e_subI, e_ltI, e_leI, e_gtI, e_geI, e_eqI, e_neI, e_abs, e_intI, e_intB, e_at0, e_at1, e_at2, e_ix30, e_ix32, List.set_cons_zero, List.set_cons_succ, f1, List.length_cons, List.length_nil, List.all_cons, List.all_nil, cold, hots, hot, List.map_cons, List.map_nil, List.cons_append, List.nil_append, List.append_nil, List.replicate_succ, List.replicate_zero, List.take_succ_cons, List.take_zero, wipeS, backS, noOwn, Nat.reduceAdd, Nat.reduceSub, Nat.reduceLeDiff, Nat.reduceEqDiff, Bool.and_true, Bool.true_and, Bool.and_false, Bool.false_and, Bool.not_true, Bool.not_false, Bool.false_eq_true, Bool.true_eq_false, reduceCtorEq, true_and, and_true, if_true, if_false, decide_true, decide_false, isOk, isA, String.reduceBEq, turn_f, cut_1, k_zipLL, k_zipTT, k_zipTL, e_isN, e_isNot, isNo, beq_self_eq_true, bne_self_eq_false, e_eqB, e_neB, e_eqX, List.any_cons, List.any_nil, Bool.or_true, Bool.true_or, Bool.or_self, reduceIte, Bool.or_false, Bool.false_or, ri0, rt0, ri1, rt1, ri2, rt2, ri3, rt3, ri4, rt4, ri5, rt5, ri6, rt6, ri7, rt7, ri8, rt8, ri9, rt9, ri10, rt10, ri11, rt11, ri12, rt12, ri13, rt13, ri14, rt14, ri15, rt15, ri16, rt16, ri17, rt17, lm, ne_empty, hw', mul_half, fSl, mm, cut_take mle, lg, c3, letter_mod, List.length_map, la, tn, fin]
      refine ⟨by decide, c_div (by decide) (by decide), c_mulL (by omega) stk, by decide, by omega, by decide, by omega, by omega, lf, ?_⟩
      exact rn_imp (names_loop (t := t) (a1 := a1) hl hst hw hwy ks (found ++ [mkS (nmOf hd tl sh st 2 k)]) _ _ _ _ (by rw [List.map_append]; rfl) (fun j hj => hk j (List.mem_cons_of_mem _ hj)) (by simp at hf ⊢; omega)) fun p ⟨x, y, z, e⟩ => ⟨x, y, z, by rw [e, List.append_assoc]; rfl⟩
theorem names_ok {n m : Nat} {d : Da} (h : Tp (n + 11) d) (hm : m ≤ 26) : Rn (w_l_names [.own d, .dat (.int (m : Int))]) fun p => ∃ (nm : List Str) (d' : Da), p = (.n (.lst (nm.map Da.str)), [.own d', .dat (.int (m : Int))]) ∧ nm.length = m ∧ nm.Nodup ∧ (∀ z ∈ nm, IsNm z) ∧ Tp n d' := by
  unfold w_l_names
  obtain ⟨sh, d1, e1, sh0, sh1, t1⟩ := draw_eq (m := 26) h (by decide) (by decide)
  simp only [↓u_C, ↓u_nil, ↓u_cons, ↓u_tup, ↓u_lst, ↓u_op, ↓u_and, ↓u_or, ↓u_test, ↓u_not, ↓u_notT, ↓u_andT, ↓u_orT, ↓u_ifE, ↓u_chain, ↓k_chT, ↓k_chF, ↓u_CB, ↓u_isi, ↓u_sl, ↓u_noPart, ↓u_part, ↓u_seq, ↓u_next, ↓u_retN, ↓u_bk, ↓u_ct, ↓u_drop, ↓u_ret, ↓u_if, ↓u_asg, ↓u_par, ↓u_prepN, ↓u_prepD, ↓u_prepO, ↓u_allN, ↓u_allC, ↓u_for, ↓u_loopN, ↓u_loopC, ↓u_it, ↓u_stoD, ↓u_stoN, ↓u_stosN, ↓u_stosC, ↓u_range1, ↓u_enum, ↓u_lc, ↓u_lcN, ↓u_lcC, ↓u_yes, ↓u_call, ↓u_argN, ↓u_argD, ↓u_argM, ↓u_argO, ↓u_argT, ↓u_backN, ↓u_backC, ↓u_fn, ↓k_fnO, ↓u_gtupD, ↓u_gtupN, ↓u_gtupL, ↓u_gtupT, ↓u_gN, ↓u_gC, ↓k_subL, ↓u_meth, ↓u_append, ↓u_popAt, ↓u_ixD, ↓u_ixN, ↓u_ixT, ↓u_ixS, ↓u_ixX, ↓u_mod, ↓u_div, ↓u_pow, ↓u_mul, ↓u_lenX, ↓u_lenL, ↓u_lenT, ↓u_lenC, ↓u_lenN, ↓u_addS, ↓u_isiD, ↓u_isiN, ↓u_zip, ↓u_argL, ↓u_argV, ↓u_dc, ↓u_dcN, ↓u_dcC, ↓k_dcX, ↓u_turn, ↓u_neg, ↓u_frz, ↓u_stoT, ↓u_stoL, ↓u_mulT, ↓u_addT, ↓u_listT, ↓u_listL, ↓u_slT, ↓rn_bind, ↓rn_some, ↓rn_iteT, ↓rn_iteF, ↓rv0, ↓ro0, ↓rb0, ↓rn0, ↓rs0, ↓rl0, ↓ra0, ↓rk0, ↓rx0, ↓rg0, ↓rh0, ↓rp0, ↓rv1, ↓ro1, ↓rb1, ↓rn1, ↓rs1, ↓rl1, ↓ra1, ↓rk1, ↓rx1, ↓rg1, ↓rh1, ↓rp1, ↓rv2, ↓ro2, ↓rb2, ↓rn2, ↓rs2, ↓rl2, ↓ra2, ↓rk2, ↓rx2, ↓rg2, ↓rh2, ↓rp2, ↓rv3, ↓ro3, ↓rb3, ↓rn3, ↓rs3, ↓rl3, ↓ra3, ↓rk3, ↓rx3, ↓rg3, ↓rh3, ↓rp3, ↓rv4, ↓ro4, ↓rb4, ↓rn4, ↓rs4, ↓rl4, ↓ra4, ↓rk4, ↓rx4, ↓rg4, ↓rh4, ↓rp4, ↓rv5, ↓ro5, ↓rb5, ↓rn5, ↓rs5, ↓rl5, ↓ra5, ↓rk5, ↓rx5, ↓rg5, ↓rh5, ↓rp5, ↓rv6, ↓ro6, ↓rb6, ↓rn6, ↓rs6, ↓rl6, ↓ra6, ↓rk6, ↓rx6, ↓rg6, ↓rh6, ↓rp6, ↓rv7, ↓ro7, ↓rb7, ↓rn7, ↓rs7, ↓rl7, ↓ra7, ↓rk7, ↓rx7, ↓rg7, ↓rh7, ↓rp7, ↓rv8, ↓ro8, ↓rb8, ↓rn8, ↓rs8, ↓rl8, ↓ra8, ↓rk8, ↓rx8, ↓rg8, ↓rh8, ↓rp8, ↓rv9, ↓ro9, ↓rb9, ↓rn9, ↓rs9, ↓rl9, ↓ra9, ↓rk9, ↓rx9, ↓rg9, ↓rh9, ↓rp9, ↓rv10, ↓ro10, ↓rb10, ↓rn10, ↓rs10, ↓rl10, ↓ra10, ↓rk10, ↓rx10, ↓rg10, ↓rh10, ↓rp10, ↓rv11, ↓ro11, ↓rb11, ↓rn11, ↓rs11, ↓rl11, ↓ra11, ↓rk11, ↓rx11, ↓rg11, ↓rh11, ↓rp11, ↓rv12, ↓ro12, ↓rb12, ↓rn12, ↓rs12, ↓rl12, ↓ra12, ↓rk12, ↓rx12, ↓rg12, ↓rh12, ↓rp12, ↓rv13, ↓ro13, ↓rb13, ↓rn13, ↓rs13, ↓rl13, ↓ra13, ↓rk13, ↓rx13, ↓rg13, ↓rh13, ↓rp13, ↓rv14, ↓ro14, ↓rb14, ↓rn14, ↓rs14, ↓rl14, ↓ra14, ↓rk14, ↓rx14, ↓rg14, ↓rh14, ↓rp14, ↓rv15, ↓ro15, ↓rb15, ↓rn15, ↓rs15, ↓rl15, ↓ra15, ↓rk15, ↓rx15, ↓rg15, ↓rh15, ↓rp15, ↓rv16, ↓ro16, ↓rb16, ↓rn16, ↓rs16, ↓rl16, ↓ra16, ↓rk16, ↓rx16, ↓rg16, ↓rh16, ↓rp16, ↓rv17, ↓ro17, ↓rb17, ↓rn17, ↓rs17, ↓rl17, ↓ra17, ↓rk17, ↓rx17, ↓rg17, ↓rh17, ↓rp17, rn_some, k_andT, k_andF, k_orT, k_orF, k_B, k_int, k_seqN, k_seqR, k_seqB, k_seqC, k_loopN, k_loopR, k_enum, k_fnN, k_fnD, k_fnNew, e_addI, e_subI, e_ltI, e_leI, e_gtI, e_geI, e_eqI, e_neI, e_abs, e_intI, e_intB, e_at0, e_at1, e_at2, e_ix30, e_ix32, List.set_cons_zero, List.set_cons_succ, f1, List.length_cons, List.length_nil, List.all_cons, List.all_nil, cold, hots, hot, List.map_cons, List.map_nil, List.cons_append, List.nil_append, List.append_nil, List.replicate_succ, List.replicate_zero, List.take_succ_cons, List.take_zero, wipeS, backS, noOwn, Nat.reduceAdd, Nat.reduceSub, Nat.reduceLeDiff, Nat.reduceEqDiff, Bool.and_true, Bool.true_and, Bool.and_false, Bool.false_and, Bool.not_true, Bool.not_false, Bool.false_eq_true, Bool.true_eq_false, reduceCtorEq, true_and, and_true, if_true, if_false, decide_true, decide_false, isOk, isA, String.reduceBEq, turn_f, cut_1, k_zipLL, k_zipTT, k_zipTL, e_isN, e_isNot, isNo, beq_self_eq_true, bne_self_eq_false, e_eqB, e_neB, e_eqX, List.any_cons, List.any_nil, Bool.or_true, Bool.true_or, Bool.or_self, reduceIte, Bool.or_false, Bool.false_or, ri0, rt0, ri1, rt1, ri2, rt2, ri3, rt3, ri4, rt4, ri5, rt5, ri6, rt6, ri7, rt7, ri8, rt8, ri9, rt9, ri10, rt10, ri11, rt11, ri12, rt12, ri13, rt13, ri14, rt14, ri15, rt15, ri16, rt16, ri17, rt17, ↓rn_of e1]
  obtain ⟨m1, d2, e2, m10, m11, t2⟩ := draw_eq (m := 8) t1 (by decide) (by decide)
  simp only [↓u_C, ↓u_nil, ↓u_cons, ↓u_tup, ↓u_lst, ↓u_op, ↓u_and, ↓u_or, ↓u_test, ↓u_not, ↓u_notT, ↓u_andT, ↓u_orT, ↓u_ifE, ↓u_chain, ↓k_chT, ↓k_chF, ↓u_CB, ↓u_isi, ↓u_sl, ↓u_noPart, ↓u_part, ↓u_seq, ↓u_next, ↓u_retN, ↓u_bk, ↓u_ct, ↓u_drop, ↓u_ret, ↓u_if, ↓u_asg, ↓u_par, ↓u_prepN, ↓u_prepD, ↓u_prepO, ↓u_allN, ↓u_allC, ↓u_for, ↓u_loopN, ↓u_loopC, ↓u_it, ↓u_stoD, ↓u_stoN, ↓u_stosN, ↓u_stosC, ↓u_range1, ↓u_enum, ↓u_lc, ↓u_lcN, ↓u_lcC, ↓u_yes, ↓u_call, ↓u_argN, ↓u_argD, ↓u_argM, ↓u_argO, ↓u_argT, ↓u_backN, ↓u_backC, ↓u_fn, ↓k_fnO, ↓u_gtupD, ↓u_gtupN, ↓u_gtupL, ↓u_gtupT, ↓u_gN, ↓u_gC, ↓k_subL, ↓u_meth, ↓u_append, ↓u_popAt, ↓u_ixD, ↓u_ixN, ↓u_ixT, ↓u_ixS, ↓u_ixX, ↓u_mod, ↓u_div, ↓u_pow, ↓u_mul, ↓u_lenX, ↓u_lenL, ↓u_lenT, ↓u_lenC, ↓u_lenN, ↓u_addS, ↓u_isiD, ↓u_isiN, ↓u_zip, ↓u_argL, ↓u_argV, ↓u_dc, ↓u_dcN, ↓u_dcC, ↓k_dcX, ↓u_turn, ↓u_neg, ↓u_frz, ↓u_stoT, ↓u_stoL, ↓u_mulT, ↓u_addT, ↓u_listT, ↓u_listL, ↓u_slT, ↓rn_bind, ↓rn_some, ↓rn_iteT, ↓rn_iteF, ↓rv0, ↓ro0, ↓rb0, ↓rn0, ↓rs0, ↓rl0, ↓ra0, ↓rk0, ↓rx0, ↓rg0, ↓rh0, ↓rp0, ↓rv1, ↓ro1, ↓rb1, ↓rn1, ↓rs1, ↓rl1, ↓ra1, ↓rk1, ↓rx1, ↓rg1, ↓rh1, ↓rp1, ↓rv2, ↓ro2, ↓rb2, ↓rn2, ↓rs2, ↓rl2, ↓ra2, ↓rk2, ↓rx2, ↓rg2, ↓rh2, ↓rp2, ↓rv3, ↓ro3, ↓rb3, ↓rn3, ↓rs3, ↓rl3, ↓ra3, ↓rk3, ↓rx3, ↓rg3, ↓rh3, ↓rp3, ↓rv4, ↓ro4, ↓rb4, ↓rn4, ↓rs4, ↓rl4, ↓ra4, ↓rk4, ↓rx4, ↓rg4, ↓rh4, ↓rp4, ↓rv5, ↓ro5, ↓rb5, ↓rn5, ↓rs5, ↓rl5, ↓ra5, ↓rk5, ↓rx5, ↓rg5, ↓rh5, ↓rp5, ↓rv6, ↓ro6, ↓rb6, ↓rn6, ↓rs6, ↓rl6, ↓ra6, ↓rk6, ↓rx6, ↓rg6, ↓rh6, ↓rp6, ↓rv7, ↓ro7, ↓rb7, ↓rn7, ↓rs7, ↓rl7, ↓ra7, ↓rk7, ↓rx7, ↓rg7, ↓rh7, ↓rp7, ↓rv8, ↓ro8, ↓rb8, ↓rn8, ↓rs8, ↓rl8, ↓ra8, ↓rk8, ↓rx8, ↓rg8, ↓rh8, ↓rp8, ↓rv9, ↓ro9, ↓rb9, ↓rn9, ↓rs9, ↓rl9, ↓ra9, ↓rk9, ↓rx9, ↓rg9, ↓rh9, ↓rp9, ↓rv10, ↓ro10, ↓rb10, ↓rn10, ↓rs10, ↓rl10, ↓ra10, ↓rk10, ↓rx10, ↓rg10, ↓rh10, ↓rp10, ↓rv11, ↓ro11, ↓rb11, ↓rn11, ↓rs11, ↓rl11, ↓ra11, ↓rk11, ↓rx11, ↓rg11, ↓rh11, ↓rp11, ↓rv12, ↓ro12, ↓rb12, ↓rn12, ↓rs12, ↓rl12, ↓ra12, ↓rk12, ↓rx12, ↓rg12, ↓rh12, ↓rp12, ↓rv13, ↓ro13, ↓rb13, ↓rn13, ↓rs13, ↓rl13, ↓ra13, ↓rk13, ↓rx13, ↓rg13, ↓rh13, ↓rp13, ↓rv14, ↓ro14, ↓rb14, ↓rn14, ↓rs14, ↓rl14, ↓ra14, ↓rk14, ↓rx14, ↓rg14, ↓rh14, ↓rp14, ↓rv15, ↓ro15, ↓rb15, ↓rn15, ↓rs15, ↓rl15, ↓ra15, ↓rk15, ↓rx15, ↓rg15, ↓rh15, ↓rp15, ↓rv16, ↓ro16, ↓rb16, ↓rn16, ↓rs16, ↓rl16, ↓ra16, ↓rk16, ↓rx16, ↓rg16, ↓rh16, ↓rp16, ↓rv17, ↓ro17, ↓rb17, ↓rn17, ↓rs17, ↓rl17, ↓ra17, ↓rk17, ↓rx17, ↓rg17, ↓rh17, ↓rp17, rn_some, k_andT, k_andF, k_orT, k_orF, k_B, k_int, k_seqN, k_seqR, k_seqB, k_seqC, k_loopN, k_loopR, k_enum, k_fnN, k_fnD, k_fnNew, e_addI, e_subI, e_ltI, e_leI, e_gtI, e_geI, e_eqI, e_neI, e_abs, e_intI, e_intB, e_at0, e_at1, e_at2, e_ix30, e_ix32, List.set_cons_zero, List.set_cons_succ, f1, List.length_cons, List.length_nil, List.all_cons, List.all_nil, cold, hots, hot, List.map_cons, List.map_nil, List.cons_append, List.nil_append, List.append_nil, List.replicate_succ, List.replicate_zero, List.take_succ_cons, List.take_zero, wipeS, backS, noOwn, Nat.reduceAdd, Nat.reduceSub, Nat.reduceLeDiff, Nat.reduceEqDiff, Bool.and_true, Bool.true_and, Bool.and_false, Bool.false_and, Bool.not_true, Bool.not_false, Bool.false_eq_true, Bool.true_eq_false, reduceCtorEq, true_and, and_true, if_true, if_false, decide_true, decide_false, isOk, isA, String.reduceBEq, turn_f, cut_1, k_zipLL, k_zipTT, k_zipTL, e_isN, e_isNot, isNo, beq_self_eq_true, bne_self_eq_false, e_eqB, e_neB, e_eqX, List.any_cons, List.any_nil, Bool.or_true, Bool.true_or, Bool.or_self, reduceIte, Bool.or_false, Bool.false_or, ri0, rt0, ri1, rt1, ri2, rt2, ri3, rt3, ri4, rt4, ri5, rt5, ri6, rt6, ri7, rt7, ri8, rt8, ri9, rt9, ri10, rt10, ri11, rt11, ri12, rt12, ri13, rt13, ri14, rt14, ri15, rt15, ri16, rt16, ri17, rt17, ↓rn_of e2, k_rng (show small m1 = true by simp [small]; omega)]
  refine rn_imp (stem_loop _ d2 (n + 2) (t2.le (by simp [rngD]; omega))) fun q ⟨cs, d3, e, l, a, t3⟩ => ?_
  subst e
  have l7 : cs.length ≤ 7 := by
    rw [l]
    simp [rngD]
    omega
  obtain ⟨at_, d4, e4, at0, at1, t4⟩ := draw_eq (m := (cs.length : Int) + 1) t3 (by omega) (by omega)
  obtain ⟨sp, d5, e5, sp0, sp1, t5⟩ := draw_eq (m := 3) t4 (by decide) (by decide)
  obtain ⟨st, hst, hst3⟩ : ∃ st : Nat, atI [Da.int 1, .int 7, .int 25] sp = some (.int (st : Int)) ∧ (st = 1 ∨ st = 7 ∨ st = 25) := by
    have : sp = 0 ∨ sp = 1 ∨ sp = 2 := by omega
    rcases this with rfl | rfl | rfl
    · exact ⟨1, rfl, .inl rfl⟩
    · exact ⟨7, rfl, .inr (.inl rfl)⟩
    · exact ⟨25, rfl, .inr (.inr rfl)⟩
  obtain ⟨at_, rfl⟩ := Int.eq_ofNat_of_zero_le at0
  obtain ⟨sh, rfl⟩ := Int.eq_ofNat_of_zero_le sh0
  have lm : ∀ cs : List Nat, (mkS cs).length = cs.length := mkS_len
  simp only [↓u_C, ↓u_nil, ↓u_cons, ↓u_tup, ↓u_lst, ↓u_op, ↓u_and, ↓u_or, ↓u_test, ↓u_not, ↓u_notT, ↓u_andT, ↓u_orT, ↓u_ifE, ↓u_chain, ↓k_chT, ↓k_chF, ↓u_CB, ↓u_isi, ↓u_sl, ↓u_noPart, ↓u_part, ↓u_seq, ↓u_next, ↓u_retN, ↓u_bk, ↓u_ct, ↓u_drop, ↓u_ret, ↓u_if, ↓u_asg, ↓u_par, ↓u_prepN, ↓u_prepD, ↓u_prepO, ↓u_allN, ↓u_allC, ↓u_for, ↓u_loopN, ↓u_loopC, ↓u_it, ↓u_stoD, ↓u_stoN, ↓u_stosN, ↓u_stosC, ↓u_range1, ↓u_enum, ↓u_lc, ↓u_lcN, ↓u_lcC, ↓u_yes, ↓u_call, ↓u_argN, ↓u_argD, ↓u_argM, ↓u_argO, ↓u_argT, ↓u_backN, ↓u_backC, ↓u_fn, ↓k_fnO, ↓u_gtupD, ↓u_gtupN, ↓u_gtupL, ↓u_gtupT, ↓u_gN, ↓u_gC, ↓k_subL, ↓u_meth, ↓u_append, ↓u_popAt, ↓u_ixD, ↓u_ixN, ↓u_ixT, ↓u_ixS, ↓u_ixX, ↓u_mod, ↓u_div, ↓u_pow, ↓u_mul, ↓u_lenX, ↓u_lenL, ↓u_lenT, ↓u_lenC, ↓u_lenN, ↓u_addS, ↓u_isiD, ↓u_isiN, ↓u_zip, ↓u_argL, ↓u_argV, ↓u_dc, ↓u_dcN, ↓u_dcC, ↓k_dcX, ↓u_turn, ↓u_neg, ↓u_frz, ↓u_stoT, ↓u_stoL, ↓u_mulT, ↓u_addT, ↓u_listT, ↓u_listL, ↓u_slT, ↓rn_bind, ↓rn_some, ↓rn_iteT, ↓rn_iteF, ↓rv0, ↓ro0, ↓rb0, ↓rn0, ↓rs0, ↓rl0, ↓ra0, ↓rk0, ↓rx0, ↓rg0, ↓rh0, ↓rp0, ↓rv1, ↓ro1, ↓rb1, ↓rn1, ↓rs1, ↓rl1, ↓ra1, ↓rk1, ↓rx1, ↓rg1, ↓rh1, ↓rp1, ↓rv2, ↓ro2, ↓rb2, ↓rn2, ↓rs2, ↓rl2, ↓ra2, ↓rk2, ↓rx2, ↓rg2, ↓rh2, ↓rp2, ↓rv3, ↓ro3, ↓rb3, ↓rn3, ↓rs3, ↓rl3, ↓ra3, ↓rk3, ↓rx3, ↓rg3, ↓rh3, ↓rp3, ↓rv4, ↓ro4, ↓rb4, ↓rn4, ↓rs4, ↓rl4, ↓ra4, ↓rk4, ↓rx4, ↓rg4, ↓rh4, ↓rp4, ↓rv5, ↓ro5, ↓rb5, ↓rn5, ↓rs5, ↓rl5, ↓ra5, ↓rk5, ↓rx5, ↓rg5, ↓rh5, ↓rp5, ↓rv6, ↓ro6, ↓rb6, ↓rn6, ↓rs6, ↓rl6, ↓ra6, ↓rk6, ↓rx6, ↓rg6, ↓rh6, ↓rp6, ↓rv7, ↓ro7, ↓rb7, ↓rn7, ↓rs7, ↓rl7, ↓ra7, ↓rk7, ↓rx7, ↓rg7, ↓rh7, ↓rp7, ↓rv8, ↓ro8, ↓rb8, ↓rn8, ↓rs8, ↓rl8, ↓ra8, ↓rk8, ↓rx8, ↓rg8, ↓rh8, ↓rp8, ↓rv9, ↓ro9, ↓rb9, ↓rn9, ↓rs9, ↓rl9, ↓ra9, ↓rk9, ↓rx9, ↓rg9, ↓rh9, ↓rp9, ↓rv10, ↓ro10, ↓rb10, ↓rn10, ↓rs10, ↓rl10, ↓ra10, ↓rk10, ↓rx10, ↓rg10, ↓rh10, ↓rp10, ↓rv11, ↓ro11, ↓rb11, ↓rn11, ↓rs11, ↓rl11, ↓ra11, ↓rk11, ↓rx11, ↓rg11, ↓rh11, ↓rp11, ↓rv12, ↓ro12, ↓rb12, ↓rn12, ↓rs12, ↓rl12, ↓ra12, ↓rk12, ↓rx12, ↓rg12, ↓rh12, ↓rp12, ↓rv13, ↓ro13, ↓rb13, ↓rn13, ↓rs13, ↓rl13, ↓ra13, ↓rk13, ↓rx13, ↓rg13, ↓rh13, ↓rp13, ↓rv14, ↓ro14, ↓rb14, ↓rn14, ↓rs14, ↓rl14, ↓ra14, ↓rk14, ↓rx14, ↓rg14, ↓rh14, ↓rp14, ↓rv15, ↓ro15, ↓rb15, ↓rn15, ↓rs15, ↓rl15, ↓ra15, ↓rk15, ↓rx15, ↓rg15, ↓rh15, ↓rp15, ↓rv16, ↓ro16, ↓rb16, ↓rn16, ↓rs16, ↓rl16, ↓ra16, ↓rk16, ↓rx16, ↓rg16, ↓rh16, ↓rp16, ↓rv17, ↓ro17, ↓rb17, ↓rn17, ↓rs17, ↓rl17, ↓ra17, ↓rk17, ↓rx17, ↓rg17, ↓rh17, ↓rp17, rn_some, k_andT, k_andF, k_orT, k_orF, k_B, k_int, k_seqN, k_seqR, k_seqB, k_seqC, k_loopN, k_loopR, k_enum, k_fnN, k_fnD, k_fnNew, e_addI, e_subI, e_ltI, e_leI, e_gtI, e_geI, e_eqI, e_neI, e_abs, e_intI, e_intB, e_at0, e_at1, e_at2, e_ix30, e_ix32, List.set_cons_zero, List.set_cons_succ, f1, List.length_cons, List.length_nil, List.all_cons, List.all_nil, cold, hots, hot, List.map_cons, List.map_nil, List.cons_append, List.nil_append, List.append_nil, List.replicate_succ, List.replicate_zero, List.take_succ_cons, List.take_zero, wipeS, backS, noOwn, Nat.reduceAdd, Nat.reduceSub, Nat.reduceLeDiff, Nat.reduceEqDiff, Bool.and_true, Bool.true_and, Bool.and_false, Bool.false_and, Bool.not_true, Bool.not_false, Bool.false_eq_true, Bool.true_eq_false, reduceCtorEq, true_and, and_true, if_true, if_false, decide_true, decide_false, isOk, isA, String.reduceBEq, turn_f, cut_1, k_zipLL, k_zipTT, k_zipTL, e_isN, e_isNot, isNo, beq_self_eq_true, bne_self_eq_false, e_eqB, e_neB, e_eqX, List.any_cons, List.any_nil, Bool.or_true, Bool.true_or, Bool.or_self, reduceIte, Bool.or_false, Bool.false_or, ri0, rt0, ri1, rt1, ri2, rt2, ri3, rt3, ri4, rt4, ri5, rt5, ri6, rt6, ri7, rt7, ri8, rt8, ri9, rt9, ri10, rt10, ri11, rt11, ri12, rt12, ri13, rt13, ri14, rt14, ri15, rt15, ri16, rt16, ri17, rt17, join_stem (show cs.length ≤ 100 by omega), lm, ↓rn_of e4, ↓rn_of e5, hst, fSl, cut_take (show at_ ≤ cs.length by omega), cut_drop (show at_ ≤ cs.length by omega), k_rng (show small (m : Int) = true by simp [small]; omega), Int.toNat_natCast]
  refine ⟨by rw [List.length_map]; omega, ?_⟩
  have er : rngD 0 m = (List.range m).map fun k => Da.int ((k : Nat) : Int) := by simp [rngD]
  rw [er]
  obtain ⟨wy, hwy, hw, hw0⟩ : ∃ wy : Nat, ((sh : Int) + at_ + cs.length) % 3 * (if decide (cs.drop at_ ≠ []) = true then 1 else 0) = (wy : Int) ∧ wy < 3 ∧ (wy ≠ 0 → cs.drop at_ ≠ []) := by
    by_cases hz : cs.drop at_ = []
    · exact ⟨0, by simp [hz], by decide, fun h => absurd rfl h⟩
    · refine ⟨(((sh : Int) + at_ + cs.length) % 3).toNat, ?_, by omega, fun _ => hz⟩
      rw [if_pos (decide_eq_true hz)]
      omega
  refine rn_imp (names_loop (hd := cs.take at_) (tl := cs.drop at_) (by rw [List.length_take, List.length_drop]; omega) (by omega) hwy hw (List.range m) [] [] _ _ _ rfl (fun k hk => by have := List.mem_range.mp hk; omega) (by simp; omega)) fun p ⟨x, y, z, e⟩ => ?_
  subst e
  simp only [↓u_C, ↓u_nil, ↓u_cons, ↓u_tup, ↓u_lst, ↓u_op, ↓u_and, ↓u_or, ↓u_test, ↓u_not, ↓u_notT, ↓u_andT, ↓u_orT, ↓u_ifE, ↓u_chain, ↓k_chT, ↓k_chF, ↓u_CB, ↓u_isi, ↓u_sl, ↓u_noPart, ↓u_part, ↓u_seq, ↓u_next, ↓u_retN, ↓u_bk, ↓u_ct, ↓u_drop, ↓u_ret, ↓u_if, ↓u_asg, ↓u_par, ↓u_prepN, ↓u_prepD, ↓u_prepO, ↓u_allN, ↓u_allC, ↓u_for, ↓u_loopN, ↓u_loopC, ↓u_it, ↓u_stoD, ↓u_stoN, ↓u_stosN, ↓u_stosC, ↓u_range1, ↓u_enum, ↓u_lc, ↓u_lcN, ↓u_lcC, ↓u_yes, ↓u_call, ↓u_argN, ↓u_argD, ↓u_argM, ↓u_argO, ↓u_argT, ↓u_backN, ↓u_backC, ↓u_fn, ↓k_fnO, ↓u_gtupD, ↓u_gtupN, ↓u_gtupL, ↓u_gtupT, ↓u_gN, ↓u_gC, ↓k_subL, ↓u_meth, ↓u_append, ↓u_popAt, ↓u_ixD, ↓u_ixN, ↓u_ixT, ↓u_ixS, ↓u_ixX, ↓u_mod, ↓u_div, ↓u_pow, ↓u_mul, ↓u_lenX, ↓u_lenL, ↓u_lenT, ↓u_lenC, ↓u_lenN, ↓u_addS, ↓u_isiD, ↓u_isiN, ↓u_zip, ↓u_argL, ↓u_argV, ↓u_dc, ↓u_dcN, ↓u_dcC, ↓k_dcX, ↓u_turn, ↓u_neg, ↓u_frz, ↓u_stoT, ↓u_stoL, ↓u_mulT, ↓u_addT, ↓u_listT, ↓u_listL, ↓u_slT, ↓rn_bind, ↓rn_some, ↓rn_iteT, ↓rn_iteF, ↓rv0, ↓ro0, ↓rb0, ↓rn0, ↓rs0, ↓rl0, ↓ra0, ↓rk0, ↓rx0, ↓rg0, ↓rh0, ↓rp0, ↓rv1, ↓ro1, ↓rb1, ↓rn1, ↓rs1, ↓rl1, ↓ra1, ↓rk1, ↓rx1, ↓rg1, ↓rh1, ↓rp1, ↓rv2, ↓ro2, ↓rb2, ↓rn2, ↓rs2, ↓rl2, ↓ra2, ↓rk2, ↓rx2, ↓rg2, ↓rh2, ↓rp2, ↓rv3, ↓ro3, ↓rb3, ↓rn3, ↓rs3, ↓rl3, ↓ra3, ↓rk3, ↓rx3, ↓rg3, ↓rh3, ↓rp3, ↓rv4, ↓ro4, ↓rb4, ↓rn4, ↓rs4, ↓rl4, ↓ra4, ↓rk4, ↓rx4, ↓rg4, ↓rh4, ↓rp4, ↓rv5, ↓ro5, ↓rb5, ↓rn5, ↓rs5, ↓rl5, ↓ra5, ↓rk5, ↓rx5, ↓rg5, ↓rh5, ↓rp5, ↓rv6, ↓ro6, ↓rb6, ↓rn6, ↓rs6, ↓rl6, ↓ra6, ↓rk6, ↓rx6, ↓rg6, ↓rh6, ↓rp6, ↓rv7, ↓ro7, ↓rb7, ↓rn7, ↓rs7, ↓rl7, ↓ra7, ↓rk7, ↓rx7, ↓rg7, ↓rh7, ↓rp7, ↓rv8, ↓ro8, ↓rb8, ↓rn8, ↓rs8, ↓rl8, ↓ra8, ↓rk8, ↓rx8, ↓rg8, ↓rh8, ↓rp8, ↓rv9, ↓ro9, ↓rb9, ↓rn9, ↓rs9, ↓rl9, ↓ra9, ↓rk9, ↓rx9, ↓rg9, ↓rh9, ↓rp9, ↓rv10, ↓ro10, ↓rb10, ↓rn10, ↓rs10, ↓rl10, ↓ra10, ↓rk10, ↓rx10, ↓rg10, ↓rh10, ↓rp10, ↓rv11, ↓ro11, ↓rb11, ↓rn11, ↓rs11, ↓rl11, ↓ra11, ↓rk11, ↓rx11, ↓rg11, ↓rh11, ↓rp11, ↓rv12, ↓ro12, ↓rb12, ↓rn12, ↓rs12, ↓rl12, ↓ra12, ↓rk12, ↓rx12, ↓rg12, ↓rh12, ↓rp12, ↓rv13, ↓ro13, ↓rb13, ↓rn13, ↓rs13, ↓rl13, ↓ra13, ↓rk13, ↓rx13, ↓rg13, ↓rh13, ↓rp13, ↓rv14, ↓ro14, ↓rb14, ↓rn14, ↓rs14, ↓rl14, ↓ra14, ↓rk14, ↓rx14, ↓rg14, ↓rh14, ↓rp14, ↓rv15, ↓ro15, ↓rb15, ↓rn15, ↓rs15, ↓rl15, ↓ra15, ↓rk15, ↓rx15, ↓rg15, ↓rh15, ↓rp15, ↓rv16, ↓ro16, ↓rb16, ↓rn16, ↓rs16, ↓rl16, ↓ra16, ↓rk16, ↓rx16, ↓rg16, ↓rh16, ↓rp16, ↓rv17, ↓ro17, ↓rb17, ↓rn17, ↓rs17, ↓rl17, ↓ra17, ↓rk17, ↓rx17, ↓rg17, ↓rh17, ↓rp17, rn_some, k_andT, k_andF, k_orT, k_orF, k_B, k_int, k_seqN, k_seqR, k_seqB, k_seqC, k_loopN, k_loopR, k_enum, k_fnN, k_fnD, k_fnNew, e_addI, e_subI, e_ltI, e_leI, e_gtI, e_geI, e_eqI, e_neI, e_abs, e_intI, e_intB, e_at0, e_at1, e_at2, e_ix30, e_ix32, List.set_cons_zero, List.set_cons_succ, f1, List.length_cons, List.length_nil, List.all_cons, List.all_nil, cold, hots, hot, List.map_cons, List.map_nil, List.cons_append, List.nil_append, List.append_nil, List.replicate_succ, List.replicate_zero, List.take_succ_cons, List.take_zero, wipeS, backS, noOwn, Nat.reduceAdd, Nat.reduceSub, Nat.reduceLeDiff, Nat.reduceEqDiff, Bool.and_true, Bool.true_and, Bool.and_false, Bool.false_and, Bool.not_true, Bool.not_false, Bool.false_eq_true, Bool.true_eq_false, reduceCtorEq, true_and, and_true, if_true, if_false, decide_true, decide_false, isOk, isA, String.reduceBEq, turn_f, cut_1, k_zipLL, k_zipTT, k_zipTL, e_isN, e_isNot, isNo, beq_self_eq_true, bne_self_eq_false, e_eqB, e_neB, e_eqX, List.any_cons, List.any_nil, Bool.or_true, Bool.true_or, Bool.or_self, reduceIte, Bool.or_false, Bool.false_or, ri0, rt0, ri1, rt1, ri2, rt2, ri3, rt3, ri4, rt4, ri5, rt5, ri6, rt6, ri7, rt7, ri8, rt8, ri9, rt9, ri10, rt10, ri11, rt11, ri12, rt12, ri13, rt13, ri14, rt14, ri15, rt15, ri16, rt16, ri17, rt17, retV]
  refine ⟨_, _, rfl, by simp, ?_, fun z hz => ?_, t5⟩
  · unfold List.Nodup
    rw [List.pairwise_map]
    exact List.Pairwise.imp_of_mem (fun {a b} ha hb hne e => hne (nm_ne hst3 hw0 (by have := List.mem_range.mp ha; omega) (by have := List.mem_range.mp hb; omega) (mkS_inj e))) List.nodup_range
  · obtain ⟨k, _, rfl⟩ := List.mem_map.mp hz
    exact nm_is (by rw [List.length_take, List.length_drop]; omega) (fun c hc => a c (List.mem_of_mem_take hc)) fun c hc => a c (List.mem_of_mem_drop hc)
theorem names_eq {n m : Nat} {d : Da} (h : Tp (n + 11) d) (hm : m ≤ 26) : ∃ (nm : List Str) (d' : Da), w_l_names [.own d, .dat (.int (m : Int))] = some (.n (.lst (nm.map Da.str)), [.own d', .dat (.int (m : Int))]) ∧ nm.length = m ∧ nm.Nodup ∧ (∀ z ∈ nm, IsNm z) ∧ Tp n d' := by
  obtain ⟨a, e, nm, d', rfl, q⟩ := names_ok h hm
  exact ⟨nm, d', e, q⟩
end Tw

/-! parts, same -/
namespace Tw
open PySem PySem.Spec PyProof.Rows L2
theorem seqIx {n : Nat} {r : Int} (h0 : 0 ≤ r) (h : r < n) : seqIndex? r n = some r.toNat := by
  unfold seqIndex?
  have e : (if r < 0 then r + (n : Int) else r) = r := if_neg (by omega)
  simp only [e]
  rw [if_pos (by rw [decide_eq_true h0, decide_eq_true h]; rfl)]
theorem part_loop {a1 a2 : SV} : ∀ (ks : List Da) (left : List Da) (d : Da) (n : Nat), ks.length ≤ left.length → left.length ≤ 100000 → Tp (n + ks.length) d →
    Rn (loopC [4] (bindV 4) wYes (wMeth 3 fPopAt (wCons (wCall 2 [true, false] w_l_draw (wCons (wVar 0) (wCons (wCB (f1 fLen) (wCons (wVar 3) wNil)) wNil))) wNil)) ks [.own d, a1, a2, .own (.lst left), .un]) fun q => ∃ (out left' : List Da) (d' : Da), q = (out, [.own d', a1, a2, .own (.lst left'), .un]) ∧ (∀ x ∈ out, x ∈ left) ∧ out.length = ks.length ∧ Tp n d'
  | [], left, d, n, _, _, t => by
    show Rn (some _) _
    rw [rn_some]
    exact ⟨[], left, d, rfl, fun _ h => by simp at h, rfl, t⟩
  | k :: ks, left, d, n, hl, hL, t => by
    simp only [List.length_cons] at hl
    obtain ⟨r, d1, e1, r0, r1, t1⟩ := draw_eq (m := (left.length : Int)) (show Tp ((n + ks.length) + 1) d from t) (by omega) (by omega)
    rw [u_lcC]
    have hr : r.toNat < left.length := by omega
    have big : (decide (-(2 ^ 63) ≤ r) && decide (r < 2 ^ 63)) = true := by
      rw [decide_eq_true (by omega), decide_eq_true (by omega)]
      rfl
    simp only [↓u_C, ↓u_nil, ↓u_cons, ↓u_tup, ↓u_lst, ↓u_op, ↓u_and, ↓u_or, ↓u_test, ↓u_not, ↓u_notT, ↓u_andT, ↓u_orT, ↓u_ifE, ↓u_chain, ↓k_chT, ↓k_chF, ↓u_CB, ↓u_isi, ↓u_sl, ↓u_noPart, ↓u_part, ↓u_seq, ↓u_next, ↓u_retN, ↓u_bk, ↓u_ct, ↓u_drop, ↓u_ret, ↓u_if, ↓u_asg, ↓u_par, ↓u_prepN, ↓u_prepD, ↓u_prepO, ↓u_allN, ↓u_allC, ↓u_for, ↓u_loopN, ↓u_loopC, ↓u_it, ↓u_stoD, ↓u_stoN, ↓u_stosN, ↓u_stosC, ↓u_range1, ↓u_enum, ↓u_lc, ↓u_lcN, ↓u_lcC, ↓u_yes, ↓u_call, ↓u_argN, ↓u_argD, ↓u_argM, ↓u_argO, ↓u_argT, ↓u_backN, ↓u_backC, ↓u_fn, ↓k_fnO, ↓u_gtupD, ↓u_gtupN, ↓u_gtupL, ↓u_gtupT, ↓u_gN, ↓u_gC, ↓k_subL, ↓u_meth, ↓u_append, ↓u_popAt, ↓u_ixD, ↓u_ixN, ↓u_ixT, ↓u_ixS, ↓u_ixX, ↓u_mod, ↓u_div, ↓u_pow, ↓u_mul, ↓u_lenX, ↓u_lenL, ↓u_lenT, ↓u_lenC, ↓u_lenN, ↓u_addS, ↓u_isiD, ↓u_isiN, ↓u_zip, ↓u_argL, ↓u_argV, ↓u_dc, ↓u_dcN, ↓u_dcC, ↓k_dcX, ↓u_turn, ↓u_neg, ↓u_frz, ↓u_stoT, ↓u_stoL, ↓u_mulT, ↓u_addT, ↓u_listT, ↓u_listL, ↓u_slT, ↓rn_bind, ↓rn_some, ↓rn_iteT, ↓rn_iteF, ↓rv0, ↓ro0, ↓rb0, ↓rn0, ↓rs0, ↓rl0, ↓ra0, ↓rk0, ↓rx0, ↓rg0, ↓rh0, ↓rp0, ↓rv1, ↓ro1, ↓rb1, ↓rn1, ↓rs1, ↓rl1, ↓ra1, ↓rk1, ↓rx1, ↓rg1, ↓rh1, ↓rp1, ↓rv2, ↓ro2, ↓rb2, ↓rn2, ↓rs2, ↓rl2, ↓ra2, ↓rk2, ↓rx2, ↓rg2, ↓rh2, ↓rp2, ↓rv3, ↓ro3, ↓rb3, ↓rn3, ↓rs3, ↓rl3, ↓ra3, ↓rk3, ↓rx3, ↓rg3, ↓rh3, ↓rp3, ↓rv4, ↓ro4, ↓rb4, ↓rn4, ↓rs4, ↓rl4, ↓ra4, ↓rk4, ↓rx4, ↓rg4, ↓rh4, ↓rp4, ↓rv5, ↓ro5, ↓rb5, ↓rn5, ↓rs5, ↓rl5, ↓ra5, ↓rk5, ↓rx5, ↓rg5, ↓rh5, ↓rp5, ↓rv6, ↓ro6, ↓rb6, ↓rn6, ↓rs6, ↓rl6, ↓ra6, ↓rk6, ↓rx6, ↓rg6, ↓rh6, ↓rp6, ↓rv7, ↓ro7, ↓rb7, ↓rn7, ↓rs7, ↓rl7, ↓ra7, ↓rk7, ↓rx7, ↓rg7, ↓rh7, ↓rp7, ↓rv8, ↓ro8, ↓rb8, ↓rn8, ↓rs8, ↓rl8, ↓ra8, ↓rk8, ↓rx8, ↓rg8, ↓rh8, ↓rp8, ↓rv9, ↓ro9, ↓rb9, ↓rn9, ↓rs9, ↓rl9, ↓ra9, ↓rk9, ↓rx9, ↓rg9, ↓rh9, ↓rp9, ↓rv10, ↓ro10, ↓rb10, ↓rn10, ↓rs10, ↓rl10, ↓ra10, ↓rk10, ↓rx10, ↓rg10, ↓rh10, ↓rp10, ↓rv11, ↓ro11, ↓rb11, ↓rn11, ↓rs11, ↓rl11, ↓ra11, ↓rk11, ↓rx11, ↓rg11, ↓rh11, ↓rp11, ↓rv12, ↓ro12, ↓rb12, ↓rn12, ↓rs12, ↓rl12, ↓ra12, ↓rk12, ↓rx12, ↓rg12, ↓rh12, ↓rp12, ↓rv13, ↓ro13, ↓rb13, ↓rn13, ↓rs13, ↓rl13, ↓ra13, ↓rk13, ↓rx13, ↓rg13, ↓rh13, ↓rp13, ↓rv14, ↓ro14, ↓rb14, ↓rn14, ↓rs14, ↓rl14, ↓ra14, ↓rk14, ↓rx14, ↓rg14, ↓rh14, ↓rp14, ↓rv15, ↓ro15, ↓rb15, ↓rn15, ↓rs15, ↓rl15, ↓ra15, ↓rk15, ↓rx15, ↓rg15, ↓rh15, ↓rp15, ↓rv16, ↓ro16, ↓rb16, ↓rn16, ↓rs16, ↓rl16, ↓ra16, ↓rk16, ↓rx16, ↓rg16, ↓rh16, ↓rp16, ↓rv17, ↓ro17, ↓rb17, ↓rn17, ↓rs17, ↓rl17, ↓ra17, ↓rk17, ↓rx17, ↓rg17, ↓rh17, ↓rp17, rn_some, k_andT, k_andF, k_orT, k_orF, k_B, k_int, k_seqN, k_seqR, k_seqB, k_seqC, k_loopN, k_loopR, k_enum, k_fnN, k_fnD, k_fnNew, e_addI, e_subI, e_ltI, e_leI, e_gtI, e_geI, e_eqI, e_neI, e_abs, e_intI, e_intB, e_at0, e_at1, e_at2, e_ix30, e_ix32, List.set_cons_zero, List.set_cons_succ, f1, List.length_cons, List.length_nil, List.all_cons, List.all_nil, cold, hots, hot, List.map_cons, List.map_nil, List.cons_append, List.nil_append, List.append_nil, List.replicate_succ, List.replicate_zero, List.take_succ_cons, List.take_zero, wipeS, backS, noOwn, Nat.reduceAdd, Nat.reduceSub, Nat.reduceLeDiff, Nat.reduceEqDiff, Bool.and_true, Bool.true_and, Bool.and_false, Bool.false_and, Bool.not_true, Bool.not_false, Bool.false_eq_true, Bool.true_eq_false, reduceCtorEq, true_and, and_true, if_true, if_false, decide_true, decide_false, isOk, isA, String.reduceBEq, turn_f, cut_1, k_zipLL, k_zipTT, k_zipTL, e_isN, e_isNot, isNo, beq_self_eq_true, bne_self_eq_false, e_eqB, e_neB, e_eqX, List.any_cons, List.any_nil, Bool.or_true, Bool.true_or, Bool.or_self, reduceIte, Bool.or_false, Bool.false_or, ri0, rt0, ri1, rt1, ri2, rt2, ri3, rt3, ri4, rt4, ri5, rt5, ri6, rt6, ri7, rt7, ri8, rt8, ri9, rt9, ri10, rt10, ri11, rt11, ri12, rt12, ri13, rt13, ri14, rt14, ri15, rt15, ri16, rt16, ri17, rt17, ↓rn_of e1, seqIx r0 r1, List.getElem?_eq_getElem hr, big]
    refine rn_imp (part_loop ks (left.eraseIdx r.toNat) d1 n (by rw [List.length_eraseIdx_of_lt hr]; omega) (by rw [List.length_eraseIdx_of_lt hr]; omega) t1) fun q ⟨out, left', d', e, a, l, t'⟩ => ?_
    subst e
    refine ⟨_, _, _, rfl, fun x hx => ?_, by simp [l], t'⟩
    rcases List.mem_cons.mp hx with rfl | hx
    · exact List.getElem_mem hr
    · exact List.mem_of_mem_eraseIdx (a x hx)
theorem part_eq {n : Nat} {d : Da} {ds : List Da} {m : Nat} (t : Tp (n + m) d) (hm : m ≤ ds.length) (hL : ds.length ≤ 100000) : ∃ (out : List Da) (d' : Da), w_l_part [.own d, .dat (.lst ds), .dat (.int (m : Int))] = some (.n (.lst out), [.own d', .dat (.lst ds), .dat (.int (m : Int))]) ∧ (∀ x ∈ out, x ∈ ds) ∧ out.length = m ∧ Tp n d' := by
  have main : Rn (w_l_part [.own d, .dat (.lst ds), .dat (.int (m : Int))]) fun p => ∃ (out : List Da) (d' : Da), p = (.n (.lst out), [.own d', .dat (.lst ds), .dat (.int (m : Int))]) ∧ (∀ x ∈ out, x ∈ ds) ∧ out.length = m ∧ Tp n d' := by
    unfold w_l_part
    have lr : (rngD 0 m).length = m := by simp [rngD]
    simp only [↓u_C, ↓u_nil, ↓u_cons, ↓u_tup, ↓u_lst, ↓u_op, ↓u_and, ↓u_or, ↓u_test, ↓u_not, ↓u_notT, ↓u_andT, ↓u_orT, ↓u_ifE, ↓u_chain, ↓k_chT, ↓k_chF, ↓u_CB, ↓u_isi, ↓u_sl, ↓u_noPart, ↓u_part, ↓u_seq, ↓u_next, ↓u_retN, ↓u_bk, ↓u_ct, ↓u_drop, ↓u_ret, ↓u_if, ↓u_asg, ↓u_par, ↓u_prepN, ↓u_prepD, ↓u_prepO, ↓u_allN, ↓u_allC, ↓u_for, ↓u_loopN, ↓u_loopC, ↓u_it, ↓u_stoD, ↓u_stoN, ↓u_stosN, ↓u_stosC, ↓u_range1, ↓u_enum, ↓u_lc, ↓u_lcN, ↓u_lcC, ↓u_yes, ↓u_call, ↓u_argN, ↓u_argD, ↓u_argM, ↓u_argO, ↓u_argT, ↓u_backN, ↓u_backC, ↓u_fn, ↓k_fnO, ↓u_gtupD, ↓u_gtupN, ↓u_gtupL, ↓u_gtupT, ↓u_gN, ↓u_gC, ↓k_subL, ↓u_meth, ↓u_append, ↓u_popAt, ↓u_ixD, ↓u_ixN, ↓u_ixT, ↓u_ixS, ↓u_ixX, ↓u_mod, ↓u_div, ↓u_pow, ↓u_mul, ↓u_lenX, ↓u_lenL, ↓u_lenT, ↓u_lenC, ↓u_lenN, ↓u_addS, ↓u_isiD, ↓u_isiN, ↓u_zip, ↓u_argL, ↓u_argV, ↓u_dc, ↓u_dcN, ↓u_dcC, ↓k_dcX, ↓u_turn, ↓u_neg, ↓u_frz, ↓u_stoT, ↓u_stoL, ↓u_mulT, ↓u_addT, ↓u_listT, ↓u_listL, ↓u_slT, ↓rn_bind, ↓rn_some, ↓rn_iteT, ↓rn_iteF, ↓rv0, ↓ro0, ↓rb0, ↓rn0, ↓rs0, ↓rl0, ↓ra0, ↓rk0, ↓rx0, ↓rg0, ↓rh0, ↓rp0, ↓rv1, ↓ro1, ↓rb1, ↓rn1, ↓rs1, ↓rl1, ↓ra1, ↓rk1, ↓rx1, ↓rg1, ↓rh1, ↓rp1, ↓rv2, ↓ro2, ↓rb2, ↓rn2, ↓rs2, ↓rl2, ↓ra2, ↓rk2, ↓rx2, ↓rg2, ↓rh2, ↓rp2, ↓rv3, ↓ro3, ↓rb3, ↓rn3, ↓rs3, ↓rl3, ↓ra3, ↓rk3, ↓rx3, ↓rg3, ↓rh3, ↓rp3, ↓rv4, ↓ro4, ↓rb4, ↓rn4, ↓rs4, ↓rl4, ↓ra4, ↓rk4, ↓rx4, ↓rg4, ↓rh4, ↓rp4, ↓rv5, ↓ro5, ↓rb5, ↓rn5, ↓rs5, ↓rl5, ↓ra5, ↓rk5, ↓rx5, ↓rg5, ↓rh5, ↓rp5, ↓rv6, ↓ro6, ↓rb6, ↓rn6, ↓rs6, ↓rl6, ↓ra6, ↓rk6, ↓rx6, ↓rg6, ↓rh6, ↓rp6, ↓rv7, ↓ro7, ↓rb7, ↓rn7, ↓rs7, ↓rl7, ↓ra7, ↓rk7, ↓rx7, ↓rg7, ↓rh7, ↓rp7, ↓rv8, ↓ro8, ↓rb8, ↓rn8, ↓rs8, ↓rl8, ↓ra8, ↓rk8, ↓rx8, ↓rg8, ↓rh8, ↓rp8, ↓rv9, ↓ro9, ↓rb9, ↓rn9, ↓rs9, ↓rl9, ↓ra9, ↓rk9, ↓rx9, ↓rg9, ↓rh9, ↓rp9, ↓rv10, ↓ro10, ↓rb10, ↓rn10, ↓rs10, ↓rl10, ↓ra10, ↓rk10, ↓rx10, ↓rg10, ↓rh10, ↓rp10, ↓rv11, ↓ro11, ↓rb11, ↓rn11, ↓rs11, ↓rl11, ↓ra11, ↓rk11, ↓rx11, ↓rg11, ↓rh11, ↓rp11, ↓rv12, ↓ro12, ↓rb12, ↓rn12, ↓rs12, ↓rl12, ↓ra12, ↓rk12, ↓rx12, ↓rg12, ↓rh12, ↓rp12, ↓rv13, ↓ro13, ↓rb13, ↓rn13, ↓rs13, ↓rl13, ↓ra13, ↓rk13, ↓rx13, ↓rg13, ↓rh13, ↓rp13, ↓rv14, ↓ro14, ↓rb14, ↓rn14, ↓rs14, ↓rl14, ↓ra14, ↓rk14, ↓rx14, ↓rg14, ↓rh14, ↓rp14, ↓rv15, ↓ro15, ↓rb15, ↓rn15, ↓rs15, ↓rl15, ↓ra15, ↓rk15, ↓rx15, ↓rg15, ↓rh15, ↓rp15, ↓rv16, ↓ro16, ↓rb16, ↓rn16, ↓rs16, ↓rl16, ↓ra16, ↓rk16, ↓rx16, ↓rg16, ↓rh16, ↓rp16, ↓rv17, ↓ro17, ↓rb17, ↓rn17, ↓rs17, ↓rl17, ↓ra17, ↓rk17, ↓rx17, ↓rg17, ↓rh17, ↓rp17, rn_some, k_andT, k_andF, k_orT, k_orF, k_B, k_int, k_seqN, k_seqR, k_seqB, k_seqC, k_loopN, k_loopR, k_enum, k_fnN, k_fnD, k_fnNew, e_addI, e_subI, e_ltI, e_leI, e_gtI, e_geI, e_eqI, e_neI, e_abs, e_intI, e_intB, e_at0, e_at1, e_at2, e_ix30, e_ix32, List.set_cons_zero, List.set_cons_succ, f1, List.length_cons, List.length_nil, List.all_cons, List.all_nil, cold, hots, hot, List.map_cons, List.map_nil, List.cons_append, List.nil_append, List.append_nil, List.replicate_succ, List.replicate_zero, List.take_succ_cons, List.take_zero, wipeS, backS, noOwn, Nat.reduceAdd, Nat.reduceSub, Nat.reduceLeDiff, Nat.reduceEqDiff, Bool.and_true, Bool.true_and, Bool.and_false, Bool.false_and, Bool.not_true, Bool.not_false, Bool.false_eq_true, Bool.true_eq_false, reduceCtorEq, true_and, and_true, if_true, if_false, decide_true, decide_false, isOk, isA, String.reduceBEq, turn_f, cut_1, k_zipLL, k_zipTT, k_zipTL, e_isN, e_isNot, isNo, beq_self_eq_true, bne_self_eq_false, e_eqB, e_neB, e_eqX, List.any_cons, List.any_nil, Bool.or_true, Bool.true_or, Bool.or_self, reduceIte, Bool.or_false, Bool.false_or, ri0, rt0, ri1, rt1, ri2, rt2, ri3, rt3, ri4, rt4, ri5, rt5, ri6, rt6, ri7, rt7, ri8, rt8, ri9, rt9, ri10, rt10, ri11, rt11, ri12, rt12, ri13, rt13, ri14, rt14, ri15, rt15, ri16, rt16, ri17, rt17, fListA, fList, its, k_rng (show small (m : Int) = true by simp [small]; omega), Int.toNat_natCast]
    refine rn_imp (part_loop (rngD 0 m) ds d n (by omega) hL (by rw [lr]; exact t)) fun q ⟨out, left', d', e, a, l, t'⟩ => ?_
    subst e
    simp only [↓u_C, ↓u_nil, ↓u_cons, ↓u_tup, ↓u_lst, ↓u_op, ↓u_and, ↓u_or, ↓u_test, ↓u_not, ↓u_notT, ↓u_andT, ↓u_orT, ↓u_ifE, ↓u_chain, ↓k_chT, ↓k_chF, ↓u_CB, ↓u_isi, ↓u_sl, ↓u_noPart, ↓u_part, ↓u_seq, ↓u_next, ↓u_retN, ↓u_bk, ↓u_ct, ↓u_drop, ↓u_ret, ↓u_if, ↓u_asg, ↓u_par, ↓u_prepN, ↓u_prepD, ↓u_prepO, ↓u_allN, ↓u_allC, ↓u_for, ↓u_loopN, ↓u_loopC, ↓u_it, ↓u_stoD, ↓u_stoN, ↓u_stosN, ↓u_stosC, ↓u_range1, ↓u_enum, ↓u_lc, ↓u_lcN, ↓u_lcC, ↓u_yes, ↓u_call, ↓u_argN, ↓u_argD, ↓u_argM, ↓u_argO, ↓u_argT, ↓u_backN, ↓u_backC, ↓u_fn, ↓k_fnO, ↓u_gtupD, ↓u_gtupN, ↓u_gtupL, ↓u_gtupT, ↓u_gN, ↓u_gC, ↓k_subL, ↓u_meth, ↓u_append, ↓u_popAt, ↓u_ixD, ↓u_ixN, ↓u_ixT, ↓u_ixS, ↓u_ixX, ↓u_mod, ↓u_div, ↓u_pow, ↓u_mul, ↓u_lenX, ↓u_lenL, ↓u_lenT, ↓u_lenC, ↓u_lenN, ↓u_addS, ↓u_isiD, ↓u_isiN, ↓u_zip, ↓u_argL, ↓u_argV, ↓u_dc, ↓u_dcN, ↓u_dcC, ↓k_dcX, ↓u_turn, ↓u_neg, ↓u_frz, ↓u_stoT, ↓u_stoL, ↓u_mulT, ↓u_addT, ↓u_listT, ↓u_listL, ↓u_slT, ↓rn_bind, ↓rn_some, ↓rn_iteT, ↓rn_iteF, ↓rv0, ↓ro0, ↓rb0, ↓rn0, ↓rs0, ↓rl0, ↓ra0, ↓rk0, ↓rx0, ↓rg0, ↓rh0, ↓rp0, ↓rv1, ↓ro1, ↓rb1, ↓rn1, ↓rs1, ↓rl1, ↓ra1, ↓rk1, ↓rx1, ↓rg1, ↓rh1, ↓rp1, ↓rv2, ↓ro2, ↓rb2, ↓rn2, ↓rs2, ↓rl2, ↓ra2, ↓rk2, ↓rx2, ↓rg2, ↓rh2, ↓rp2, ↓rv3, ↓ro3, ↓rb3, ↓rn3, ↓rs3, ↓rl3, ↓ra3, ↓rk3, ↓rx3, ↓rg3, ↓rh3, ↓rp3, ↓rv4, ↓ro4, ↓rb4, ↓rn4, ↓rs4, ↓rl4, ↓ra4, ↓rk4, ↓rx4, ↓rg4, ↓rh4, ↓rp4, ↓rv5, ↓ro5, ↓rb5, ↓rn5, ↓rs5, ↓rl5, ↓ra5, ↓rk5, ↓rx5, ↓rg5, ↓rh5, ↓rp5, ↓rv6, ↓ro6, ↓rb6, ↓rn6, ↓rs6, ↓rl6, ↓ra6, ↓rk6, ↓rx6, ↓rg6, ↓rh6, ↓rp6, ↓rv7, ↓ro7, ↓rb7, ↓rn7, ↓rs7, ↓rl7, ↓ra7, ↓rk7, ↓rx7, ↓rg7, ↓rh7, ↓rp7, ↓rv8, ↓ro8, ↓rb8, ↓rn8, ↓rs8, ↓rl8, ↓ra8, ↓rk8, ↓rx8, ↓rg8, ↓rh8, ↓rp8, ↓rv9, ↓ro9, ↓rb9, ↓rn9, ↓rs9, ↓rl9, ↓ra9, ↓rk9, ↓rx9, ↓rg9, ↓rh9, ↓rp9, ↓rv10, ↓ro10, ↓rb10, ↓rn10, ↓rs10, ↓rl10, ↓ra10, ↓rk10, ↓rx10, ↓rg10, ↓rh10, ↓rp10, ↓rv11, ↓ro11, ↓rb11, ↓rn11, ↓rs11, ↓rl11, ↓ra11, ↓rk11, ↓rx11, ↓rg11, ↓rh11, ↓rp11, ↓rv12, ↓ro12, ↓rb12, ↓rn12, ↓rs12, ↓rl12, ↓ra12, ↓rk12, ↓rx12, ↓rg12, ↓rh12, ↓rp12, ↓rv13, ↓ro13, ↓rb13, ↓rn13, ↓rs13, ↓rl13, ↓ra13, ↓rk13, ↓rx13, ↓rg13, ↓rh13, ↓rp13, ↓rv14, ↓ro14, ↓rb14, ↓rn14, ↓rs14, ↓rl14, ↓ra14, ↓rk14, ↓rx14, ↓rg14, ↓rh14, ↓rp14, ↓rv15, ↓ro15, ↓rb15, ↓rn15, ↓rs15, ↓rl15, ↓ra15, ↓rk15, ↓rx15, ↓rg15, ↓rh15, ↓rp15, ↓rv16, ↓ro16, ↓rb16, ↓rn16, ↓rs16, ↓rl16, ↓ra16, ↓rk16, ↓rx16, ↓rg16, ↓rh16, ↓rp16, ↓rv17, ↓ro17, ↓rb17, ↓rn17, ↓rs17, ↓rl17, ↓ra17, ↓rk17, ↓rx17, ↓rg17, ↓rh17, ↓rp17, rn_some, k_andT, k_andF, k_orT, k_orF, k_B, k_int, k_seqN, k_seqR, k_seqB, k_seqC, k_loopN, k_loopR, k_enum, k_fnN, k_fnD, k_fnNew, e_addI, e_subI, e_ltI, e_leI, e_gtI, e_geI, e_eqI, e_neI, e_abs, e_intI, e_intB, e_at0, e_at1, e_at2, e_ix30, e_ix32, List.set_cons_zero, List.set_cons_succ, f1, List.length_cons, List.length_nil, List.all_cons, List.all_nil, cold, hots, hot, List.map_cons, List.map_nil, List.cons_append, List.nil_append, List.append_nil, List.replicate_succ, List.replicate_zero, List.take_succ_cons, List.take_zero, wipeS, backS, noOwn, Nat.reduceAdd, Nat.reduceSub, Nat.reduceLeDiff, Nat.reduceEqDiff, Bool.and_true, Bool.true_and, Bool.and_false, Bool.false_and, Bool.not_true, Bool.not_false, Bool.false_eq_true, Bool.true_eq_false, reduceCtorEq, true_and, and_true, if_true, if_false, decide_true, decide_false, isOk, isA, String.reduceBEq, turn_f, cut_1, k_zipLL, k_zipTT, k_zipTL, e_isN, e_isNot, isNo, beq_self_eq_true, bne_self_eq_false, e_eqB, e_neB, e_eqX, List.any_cons, List.any_nil, Bool.or_true, Bool.true_or, Bool.or_self, reduceIte, Bool.or_false, Bool.false_or, ri0, rt0, ri1, rt1, ri2, rt2, ri3, rt3, ri4, rt4, ri5, rt5, ri6, rt6, ri7, rt7, ri8, rt8, ri9, rt9, ri10, rt10, ri11, rt11, ri12, rt12, ri13, rt13, ri14, rt14, ri15, rt15, ri16, rt16, ri17, rt17]
    exact ⟨by omega, out, d', rfl, a, by omega, t'⟩
  obtain ⟨a, e, out, d', rfl, q⟩ := main
  exact ⟨out, d', e, q⟩
/-- data that _law_same goes through -/
def okS : Nat → Da → Prop
  | 0, _ => False
  | _ + 1, .non => True
  | _ + 1, .bl _ => True
  | _ + 1, .int _ => True
  | _ + 1, .str _ => True
  | n + 1, .tup ds => (∀ x ∈ ds, okS n x) ∧ ds.length ≤ 100000
  | n + 1, .lst ds => (∀ x ∈ ds, okS n x) ∧ ds.length ≤ 100000
  | _ + 1, _ => False
theorem e_eqNN {s : S} : fEq false (.d .non) (.d .non) s = some (.d (.bl true), s) := rfl
theorem same_loop {n : Nat} {a b : SV} (ih : ∀ x, okS n x → w_l_same n [.dat x, .dat x] = some (.d (.bl true), [.dat x, .dat x])) : ∀ (ds : List Da), (∀ x ∈ ds, okS n x) → Rn (loopC [2, 3] (wgTup 2 (wgCons (bindV 2) (wgCons (bindV 3) wgNil))) wYes (wCall 2 [false, false] (w_l_same n) (wCons (wVar 2) (wCons (wVar 3) wNil))) (zipD ds ds) [a, b, .un, .un]) fun q => q = (ds.map fun _ => Da.bl true, [a, b, .un, .un])
  | [], _ => by
    show Rn (some _) _
    rw [rn_some]
    rfl
  | x :: ds, h => by
    have e := ih x (h x (by simp))
    show Rn (loopC _ _ _ _ (.tup [x, x] :: zipD ds ds) _) _
    rw [u_lcC]
    simp only [↓u_C, ↓u_nil, ↓u_cons, ↓u_tup, ↓u_lst, ↓u_op, ↓u_and, ↓u_or, ↓u_test, ↓u_not, ↓u_notT, ↓u_andT, ↓u_orT, ↓u_ifE, ↓u_chain, ↓k_chT, ↓k_chF, ↓u_CB, ↓u_isi, ↓u_sl, ↓u_noPart, ↓u_part, ↓u_seq, ↓u_next, ↓u_retN, ↓u_bk, ↓u_ct, ↓u_drop, ↓u_ret, ↓u_if, ↓u_asg, ↓u_par, ↓u_prepN, ↓u_prepD, ↓u_prepO, ↓u_allN, ↓u_allC, ↓u_for, ↓u_loopN, ↓u_loopC, ↓u_it, ↓u_stoD, ↓u_stoN, ↓u_stosN, ↓u_stosC, ↓u_range1, ↓u_enum, ↓u_lc, ↓u_lcN, ↓u_lcC, ↓u_yes, ↓u_call, ↓u_argN, ↓u_argD, ↓u_argM, ↓u_argO, ↓u_argT, ↓u_backN, ↓u_backC, ↓u_fn, ↓k_fnO, ↓u_gtupD, ↓u_gtupN, ↓u_gtupL, ↓u_gtupT, ↓u_gN, ↓u_gC, ↓k_subL, ↓u_meth, ↓u_append, ↓u_popAt, ↓u_ixD, ↓u_ixN, ↓u_ixT, ↓u_ixS, ↓u_ixX, ↓u_mod, ↓u_div, ↓u_pow, ↓u_mul, ↓u_lenX, ↓u_lenL, ↓u_lenT, ↓u_lenC, ↓u_lenN, ↓u_addS, ↓u_isiD, ↓u_isiN, ↓u_zip, ↓u_argL, ↓u_argV, ↓u_dc, ↓u_dcN, ↓u_dcC, ↓k_dcX, ↓u_turn, ↓u_neg, ↓u_frz, ↓u_stoT, ↓u_stoL, ↓u_mulT, ↓u_addT, ↓u_listT, ↓u_listL, ↓u_slT, ↓rn_bind, ↓rn_some, ↓rn_iteT, ↓rn_iteF, ↓rv0, ↓ro0, ↓rb0, ↓rn0, ↓rs0, ↓rl0, ↓ra0, ↓rk0, ↓rx0, ↓rg0, ↓rh0, ↓rp0, ↓rv1, ↓ro1, ↓rb1, ↓rn1, ↓rs1, ↓rl1, ↓ra1, ↓rk1, ↓rx1, ↓rg1, ↓rh1, ↓rp1, ↓rv2, ↓ro2, ↓rb2, ↓rn2, ↓rs2, ↓rl2, ↓ra2, ↓rk2, ↓rx2, ↓rg2, ↓rh2, ↓rp2, ↓rv3, ↓ro3, ↓rb3, ↓rn3, ↓rs3, ↓rl3, ↓ra3, ↓rk3, ↓rx3, ↓rg3, ↓rh3, ↓rp3, ↓rv4, ↓ro4, ↓rb4, ↓rn4, ↓rs4, ↓rl4, ↓ra4, ↓rk4, ↓rx4, ↓rg4, ↓rh4, ↓rp4, ↓rv5, ↓ro5, ↓rb5, ↓rn5, ↓rs5, ↓rl5, ↓ra5, ↓rk5, ↓rx5, ↓rg5, ↓rh5, ↓rp5, ↓rv6, ↓ro6, ↓rb6, ↓rn6, ↓rs6, ↓rl6, ↓ra6, ↓rk6, ↓rx6, ↓rg6, ↓rh6, ↓rp6, ↓rv7, ↓ro7, ↓rb7, ↓rn7, ↓rs7, ↓rl7, ↓ra7, ↓rk7, ↓rx7, ↓rg7, ↓rh7, ↓rp7, ↓rv8, ↓ro8, ↓rb8, ↓rn8, ↓rs8, ↓rl8, ↓ra8, ↓rk8, ↓rx8, ↓rg8, ↓rh8, ↓rp8, ↓rv9, ↓ro9, ↓rb9, ↓rn9, ↓rs9, ↓rl9, ↓ra9, ↓rk9, ↓rx9, ↓rg9, ↓rh9, ↓rp9, ↓rv10, ↓ro10, ↓rb10, ↓rn10, ↓rs10, ↓rl10, ↓ra10, ↓rk10, ↓rx10, ↓rg10, ↓rh10, ↓rp10, ↓rv11, ↓ro11, ↓rb11, ↓rn11, ↓rs11, ↓rl11, ↓ra11, ↓rk11, ↓rx11, ↓rg11, ↓rh11, ↓rp11, ↓rv12, ↓ro12, ↓rb12, ↓rn12, ↓rs12, ↓rl12, ↓ra12, ↓rk12, ↓rx12, ↓rg12, ↓rh12, ↓rp12, ↓rv13, ↓ro13, ↓rb13, ↓rn13, ↓rs13, ↓rl13, ↓ra13, ↓rk13, ↓rx13, ↓rg13, ↓rh13, ↓rp13, ↓rv14, ↓ro14, ↓rb14, ↓rn14, ↓rs14, ↓rl14, ↓ra14, ↓rk14, ↓rx14, ↓rg14, ↓rh14, ↓rp14, ↓rv15, ↓ro15, ↓rb15, ↓rn15, ↓rs15, ↓rl15, ↓ra15, ↓rk15, ↓rx15, ↓rg15, ↓rh15, ↓rp15, ↓rv16, ↓ro16, ↓rb16, ↓rn16, ↓rs16, ↓rl16, ↓ra16, ↓rk16, ↓rx16, ↓rg16, ↓rh16, ↓rp16, ↓rv17, ↓ro17, ↓rb17, ↓rn17, ↓rs17, ↓rl17, ↓ra17, ↓rk17, ↓rx17, ↓rg17, ↓rh17, ↓rp17, rn_some, k_andT, k_andF, k_orT, k_orF, k_B, k_int, k_seqN, k_seqR, k_seqB, k_seqC, k_loopN, k_loopR, k_enum, k_fnN, k_fnD, k_fnNew, e_addI, e_subI, e_ltI, e_leI, e_gtI, e_geI, e_eqI, e_neI, e_abs, e_intI, e_intB, e_at0, e_at1, e_at2, e_ix30, e_ix32, List.set_cons_zero, List.set_cons_succ, f1, List.length_cons, List.length_nil, List.all_cons, List.all_nil, cold, hots, hot, List.map_cons, List.map_nil, List.cons_append, List.nil_append, List.append_nil, List.replicate_succ, List.replicate_zero, List.take_succ_cons, List.take_zero, wipeS, backS, noOwn, Nat.reduceAdd, Nat.reduceSub, Nat.reduceLeDiff, Nat.reduceEqDiff, Bool.and_true, Bool.true_and, Bool.and_false, Bool.false_and, Bool.not_true, Bool.not_false, Bool.false_eq_true, Bool.true_eq_false, reduceCtorEq, true_and, and_true, if_true, if_false, decide_true, decide_false, isOk, isA, String.reduceBEq, turn_f, cut_1, k_zipLL, k_zipTT, k_zipTL, e_isN, e_isNot, isNo, beq_self_eq_true, bne_self_eq_false, e_eqB, e_neB, e_eqX, List.any_cons, List.any_nil, Bool.or_true, Bool.true_or, Bool.or_self, reduceIte, Bool.or_false, Bool.false_or, ri0, rt0, ri1, rt1, ri2, rt2, ri3, rt3, ri4, rt4, ri5, rt5, ri6, rt6, ri7, rt7, ri8, rt8, ri9, rt9, ri10, rt10, ri11, rt11, ri12, rt12, ri13, rt13, ri14, rt14, ri15, rt15, ri16, rt16, ri17, rt17, ↓rn_of e]
    refine rn_imp (same_loop ih ds fun y hy => h y (List.mem_cons_of_mem _ hy)) fun q e => ?_
    subst e
    rfl
theorem all_true (ds : List Da) : blsD (ds.map fun _ => Da.bl true) = some (ds.map fun _ => true) ∧ (ds.map fun _ => true).all id = true := by
  refine ⟨?_, by simp⟩
  have := bls_map (ds.map fun _ => true)
  rw [List.map_map] at this
  exact this
theorem same_refl : ∀ (n : Nat) (x : Da), okS n x → w_l_same n [.dat x, .dat x] = some (.d (.bl true), [.dat x, .dat x])
  | 0, _, h => h.elim
  | n + 1, x, h => by
    have main : Rn (w_l_same (n + 1) [.dat x, .dat x]) fun p => p = (.d (.bl true), [.dat x, .dat x]) := by
      unfold w_l_same
      cases x with
      | bl b =>
        simp only [↓u_C, ↓u_nil, ↓u_cons, ↓u_tup, ↓u_lst, ↓u_op, ↓u_and, ↓u_or, ↓u_test, ↓u_not, ↓u_notT, ↓u_andT, ↓u_orT, ↓u_ifE, ↓u_chain, ↓k_chT, ↓k_chF, ↓u_CB, ↓u_isi, ↓u_sl, ↓u_noPart, ↓u_part, ↓u_seq, ↓u_next, ↓u_retN, ↓u_bk, ↓u_ct, ↓u_drop, ↓u_ret, ↓u_if, ↓u_asg, ↓u_par, ↓u_prepN, ↓u_prepD, ↓u_prepO, ↓u_allN, ↓u_allC, ↓u_for, ↓u_loopN, ↓u_loopC, ↓u_it, ↓u_stoD, ↓u_stoN, ↓u_stosN, ↓u_stosC, ↓u_range1, ↓u_enum, ↓u_lc, ↓u_lcN, ↓u_lcC, ↓u_yes, ↓u_call, ↓u_argN, ↓u_argD, ↓u_argM, ↓u_argO, ↓u_argT, ↓u_backN, ↓u_backC, ↓u_fn, ↓k_fnO, ↓u_gtupD, ↓u_gtupN, ↓u_gtupL, ↓u_gtupT, ↓u_gN, ↓u_gC, ↓k_subL, ↓u_meth, ↓u_append, ↓u_popAt, ↓u_ixD, ↓u_ixN, ↓u_ixT, ↓u_ixS, ↓u_ixX, ↓u_mod, ↓u_div, ↓u_pow, ↓u_mul, ↓u_lenX, ↓u_lenL, ↓u_lenT, ↓u_lenC, ↓u_lenN, ↓u_addS, ↓u_isiD, ↓u_isiN, ↓u_zip, ↓u_argL, ↓u_argV, ↓u_dc, ↓u_dcN, ↓u_dcC, ↓k_dcX, ↓u_turn, ↓u_neg, ↓u_frz, ↓u_stoT, ↓u_stoL, ↓u_mulT, ↓u_addT, ↓u_listT, ↓u_listL, ↓u_slT, ↓rn_bind, ↓rn_some, ↓rn_iteT, ↓rn_iteF, ↓rv0, ↓ro0, ↓rb0, ↓rn0, ↓rs0, ↓rl0, ↓ra0, ↓rk0, ↓rx0, ↓rg0, ↓rh0, ↓rp0, ↓rv1, ↓ro1, ↓rb1, ↓rn1, ↓rs1, ↓rl1, ↓ra1, ↓rk1, ↓rx1, ↓rg1, ↓rh1, ↓rp1, ↓rv2, ↓ro2, ↓rb2, ↓rn2, ↓rs2, ↓rl2, ↓ra2, ↓rk2, ↓rx2, ↓rg2, ↓rh2, ↓rp2, ↓rv3, ↓ro3, ↓rb3, ↓rn3, ↓rs3, ↓rl3, ↓ra3, ↓rk3, ↓rx3, ↓rg3, ↓rh3, ↓rp3, ↓rv4, ↓ro4, ↓rb4, ↓rn4, ↓rs4, ↓rl4, ↓ra4, ↓rk4, ↓rx4, ↓rg4, ↓rh4, ↓rp4, ↓rv5, ↓ro5, ↓rb5, ↓rn5, ↓rs5, ↓rl5, ↓ra5, ↓rk5, ↓rx5, ↓rg5, ↓rh5, ↓rp5, ↓rv6, ↓ro6, ↓rb6, ↓rn6, ↓rs6, ↓rl6, ↓ra6, ↓rk6, ↓rx6, ↓rg6, ↓rh6, ↓rp6, ↓rv7, ↓ro7, ↓rb7, ↓rn7, ↓rs7, ↓rl7, ↓ra7, ↓rk7, ↓rx7, ↓rg7, ↓rh7, ↓rp7, ↓rv8, ↓ro8, ↓rb8, ↓rn8, ↓rs8, ↓rl8, ↓ra8, ↓rk8, ↓rx8, ↓rg8, ↓rh8, ↓rp8, ↓rv9, ↓ro9, ↓rb9, ↓rn9, ↓rs9, ↓rl9, ↓ra9, ↓rk9, ↓rx9, ↓rg9, ↓rh9, ↓rp9, ↓rv10, ↓ro10, ↓rb10, ↓rn10, ↓rs10, ↓rl10, ↓ra10, ↓rk10, ↓rx10, ↓rg10, ↓rh10, ↓rp10, ↓rv11, ↓ro11, ↓rb11, ↓rn11, ↓rs11, ↓rl11, ↓ra11, ↓rk11, ↓rx11, ↓rg11, ↓rh11, ↓rp11, ↓rv12, ↓ro12, ↓rb12, ↓rn12, ↓rs12, ↓rl12, ↓ra12, ↓rk12, ↓rx12, ↓rg12, ↓rh12, ↓rp12, ↓rv13, ↓ro13, ↓rb13, ↓rn13, ↓rs13, ↓rl13, ↓ra13, ↓rk13, ↓rx13, ↓rg13, ↓rh13, ↓rp13, ↓rv14, ↓ro14, ↓rb14, ↓rn14, ↓rs14, ↓rl14, ↓ra14, ↓rk14, ↓rx14, ↓rg14, ↓rh14, ↓rp14, ↓rv15, ↓ro15, ↓rb15, ↓rn15, ↓rs15, ↓rl15, ↓ra15, ↓rk15, ↓rx15, ↓rg15, ↓rh15, ↓rp15, ↓rv16, ↓ro16, ↓rb16, ↓rn16, ↓rs16, ↓rl16, ↓ra16, ↓rk16, ↓rx16, ↓rg16, ↓rh16, ↓rp16, ↓rv17, ↓ro17, ↓rb17, ↓rn17, ↓rs17, ↓rl17, ↓ra17, ↓rk17, ↓rx17, ↓rg17, ↓rh17, ↓rp17, rn_some, k_andT, k_andF, k_orT, k_orF, k_B, k_int, k_seqN, k_seqR, k_seqB, k_seqC, k_loopN, k_loopR, k_enum, k_fnN, k_fnD, k_fnNew, e_addI, e_subI, e_ltI, e_leI, e_gtI, e_geI, e_eqI, e_neI, e_abs, e_intI, e_intB, e_at0, e_at1, e_at2, e_ix30, e_ix32, List.set_cons_zero, List.set_cons_succ, f1, List.length_cons, List.length_nil, List.all_cons, List.all_nil, cold, hots, hot, List.map_cons, List.map_nil, List.cons_append, List.nil_append, List.append_nil, List.replicate_succ, List.replicate_zero, List.take_succ_cons, List.take_zero, wipeS, backS, noOwn, Nat.reduceAdd, Nat.reduceSub, Nat.reduceLeDiff, Nat.reduceEqDiff, Bool.and_true, Bool.true_and, Bool.and_false, Bool.false_and, Bool.not_true, Bool.not_false, Bool.false_eq_true, Bool.true_eq_false, reduceCtorEq, true_and, and_true, if_true, if_false, decide_true, decide_false, isOk, isA, String.reduceBEq, turn_f, cut_1, k_zipLL, k_zipTT, k_zipTL, e_isN, e_isNot, isNo, beq_self_eq_true, bne_self_eq_false, e_eqB, e_neB, e_eqX, List.any_cons, List.any_nil, Bool.or_true, Bool.true_or, Bool.or_self, reduceIte, Bool.or_false, Bool.false_or, ri0, rt0, ri1, rt1, ri2, rt2, ri3, rt3, ri4, rt4, ri5, rt5, ri6, rt6, ri7, rt7, ri8, rt8, ri9, rt9, ri10, rt10, ri11, rt11, ri12, rt12, ri13, rt13, ri14, rt14, ri15, rt15, ri16, rt16, ri17, rt17]
      | int i =>
        simp only [↓u_C, ↓u_nil, ↓u_cons, ↓u_tup, ↓u_lst, ↓u_op, ↓u_and, ↓u_or, ↓u_test, ↓u_not, ↓u_notT, ↓u_andT, ↓u_orT, ↓u_ifE, ↓u_chain, ↓k_chT, ↓k_chF, ↓u_CB, ↓u_isi, ↓u_sl, ↓u_noPart, ↓u_part, ↓u_seq, ↓u_next, ↓u_retN, ↓u_bk, ↓u_ct, ↓u_drop, ↓u_ret, ↓u_if, ↓u_asg, ↓u_par, ↓u_prepN, ↓u_prepD, ↓u_prepO, ↓u_allN, ↓u_allC, ↓u_for, ↓u_loopN, ↓u_loopC, ↓u_it, ↓u_stoD, ↓u_stoN, ↓u_stosN, ↓u_stosC, ↓u_range1, ↓u_enum, ↓u_lc, ↓u_lcN, ↓u_lcC, ↓u_yes, ↓u_call, ↓u_argN, ↓u_argD, ↓u_argM, ↓u_argO, ↓u_argT, ↓u_backN, ↓u_backC, ↓u_fn, ↓k_fnO, ↓u_gtupD, ↓u_gtupN, ↓u_gtupL, ↓u_gtupT, ↓u_gN, ↓u_gC, ↓k_subL, ↓u_meth, ↓u_append, ↓u_popAt, ↓u_ixD, ↓u_ixN, ↓u_ixT, ↓u_ixS, ↓u_ixX, ↓u_mod, ↓u_div, ↓u_pow, ↓u_mul, ↓u_lenX, ↓u_lenL, ↓u_lenT, ↓u_lenC, ↓u_lenN, ↓u_addS, ↓u_isiD, ↓u_isiN, ↓u_zip, ↓u_argL, ↓u_argV, ↓u_dc, ↓u_dcN, ↓u_dcC, ↓k_dcX, ↓u_turn, ↓u_neg, ↓u_frz, ↓u_stoT, ↓u_stoL, ↓u_mulT, ↓u_addT, ↓u_listT, ↓u_listL, ↓u_slT, ↓rn_bind, ↓rn_some, ↓rn_iteT, ↓rn_iteF, ↓rv0, ↓ro0, ↓rb0, ↓rn0, ↓rs0, ↓rl0, ↓ra0, ↓rk0, ↓rx0, ↓rg0, ↓rh0, ↓rp0, ↓rv1, ↓ro1, ↓rb1, ↓rn1, ↓rs1, ↓rl1, ↓ra1, ↓rk1, ↓rx1, ↓rg1, ↓rh1, ↓rp1, ↓rv2, ↓ro2, ↓rb2, ↓rn2, ↓rs2, ↓rl2, ↓ra2, ↓rk2, ↓rx2, ↓rg2, ↓rh2, ↓rp2, ↓rv3, ↓ro3, ↓rb3, ↓rn3, ↓rs3, ↓rl3, ↓ra3, ↓rk3, ↓rx3, ↓rg3, ↓rh3, ↓rp3, ↓rv4, ↓ro4, ↓rb4, ↓rn4, ↓rs4, ↓rl4, ↓ra4, ↓rk4, ↓rx4, ↓rg4, ↓rh4, ↓rp4, ↓rv5, ↓ro5, ↓rb5, ↓rn5, ↓rs5, ↓rl5, ↓ra5, ↓rk5, ↓rx5, ↓rg5, ↓rh5, ↓rp5, ↓rv6, ↓ro6, ↓rb6, ↓rn6, ↓rs6, ↓rl6, ↓ra6, ↓rk6, ↓rx6, ↓rg6, ↓rh6, ↓rp6, ↓rv7, ↓ro7, ↓rb7, ↓rn7, ↓rs7, ↓rl7, ↓ra7, ↓rk7, ↓rx7, ↓rg7, ↓rh7, ↓rp7, ↓rv8, ↓ro8, ↓rb8, ↓rn8, ↓rs8, ↓rl8, ↓ra8, ↓rk8, ↓rx8, ↓rg8, ↓rh8, ↓rp8, ↓rv9, ↓ro9, ↓rb9, ↓rn9, ↓rs9, ↓rl9, ↓ra9, ↓rk9, ↓rx9, ↓rg9, ↓rh9, ↓rp9, ↓rv10, ↓ro10, ↓rb10, ↓rn10, ↓rs10, ↓rl10, ↓ra10, ↓rk10, ↓rx10, ↓rg10, ↓rh10, ↓rp10, ↓rv11, ↓ro11, ↓rb11, ↓rn11, ↓rs11, ↓rl11, ↓ra11, ↓rk11, ↓rx11, ↓rg11, ↓rh11, ↓rp11, ↓rv12, ↓ro12, ↓rb12, ↓rn12, ↓rs12, ↓rl12, ↓ra12, ↓rk12, ↓rx12, ↓rg12, ↓rh12, ↓rp12, ↓rv13, ↓ro13, ↓rb13, ↓rn13, ↓rs13, ↓rl13, ↓ra13, ↓rk13, ↓rx13, ↓rg13, ↓rh13, ↓rp13, ↓rv14, ↓ro14, ↓rb14, ↓rn14, ↓rs14, ↓rl14, ↓ra14, ↓rk14, ↓rx14, ↓rg14, ↓rh14, ↓rp14, ↓rv15, ↓ro15, ↓rb15, ↓rn15, ↓rs15, ↓rl15, ↓ra15, ↓rk15, ↓rx15, ↓rg15, ↓rh15, ↓rp15, ↓rv16, ↓ro16, ↓rb16, ↓rn16, ↓rs16, ↓rl16, ↓ra16, ↓rk16, ↓rx16, ↓rg16, ↓rh16, ↓rp16, ↓rv17, ↓ro17, ↓rb17, ↓rn17, ↓rs17, ↓rl17, ↓ra17, ↓rk17, ↓rx17, ↓rg17, ↓rh17, ↓rp17, rn_some, k_andT, k_andF, k_orT, k_orF, k_B, k_int, k_seqN, k_seqR, k_seqB, k_seqC, k_loopN, k_loopR, k_enum, k_fnN, k_fnD, k_fnNew, e_addI, e_subI, e_ltI, e_leI, e_gtI, e_geI, e_eqI, e_neI, e_abs, e_intI, e_intB, e_at0, e_at1, e_at2, e_ix30, e_ix32, List.set_cons_zero, List.set_cons_succ, f1, List.length_cons, List.length_nil, List.all_cons, List.all_nil, cold, hots, hot, List.map_cons, List.map_nil, List.cons_append, List.nil_append, List.append_nil, List.replicate_succ, List.replicate_zero, List.take_succ_cons, List.take_zero, wipeS, backS, noOwn, Nat.reduceAdd, Nat.reduceSub, Nat.reduceLeDiff, Nat.reduceEqDiff, Bool.and_true, Bool.true_and, Bool.and_false, Bool.false_and, Bool.not_true, Bool.not_false, Bool.false_eq_true, Bool.true_eq_false, reduceCtorEq, true_and, and_true, if_true, if_false, decide_true, decide_false, isOk, isA, String.reduceBEq, turn_f, cut_1, k_zipLL, k_zipTT, k_zipTL, e_isN, e_isNot, isNo, beq_self_eq_true, bne_self_eq_false, e_eqB, e_neB, e_eqX, List.any_cons, List.any_nil, Bool.or_true, Bool.true_or, Bool.or_self, reduceIte, Bool.or_false, Bool.false_or, ri0, rt0, ri1, rt1, ri2, rt2, ri3, rt3, ri4, rt4, ri5, rt5, ri6, rt6, ri7, rt7, ri8, rt8, ri9, rt9, ri10, rt10, ri11, rt11, ri12, rt12, ri13, rt13, ri14, rt14, ri15, rt15, ri16, rt16, ri17, rt17]
      | str z =>
        simp only [↓u_C, ↓u_nil, ↓u_cons, ↓u_tup, ↓u_lst, ↓u_op, ↓u_and, ↓u_or, ↓u_test, ↓u_not, ↓u_notT, ↓u_andT, ↓u_orT, ↓u_ifE, ↓u_chain, ↓k_chT, ↓k_chF, ↓u_CB, ↓u_isi, ↓u_sl, ↓u_noPart, ↓u_part, ↓u_seq, ↓u_next, ↓u_retN, ↓u_bk, ↓u_ct, ↓u_drop, ↓u_ret, ↓u_if, ↓u_asg, ↓u_par, ↓u_prepN, ↓u_prepD, ↓u_prepO, ↓u_allN, ↓u_allC, ↓u_for, ↓u_loopN, ↓u_loopC, ↓u_it, ↓u_stoD, ↓u_stoN, ↓u_stosN, ↓u_stosC, ↓u_range1, ↓u_enum, ↓u_lc, ↓u_lcN, ↓u_lcC, ↓u_yes, ↓u_call, ↓u_argN, ↓u_argD, ↓u_argM, ↓u_argO, ↓u_argT, ↓u_backN, ↓u_backC, ↓u_fn, ↓k_fnO, ↓u_gtupD, ↓u_gtupN, ↓u_gtupL, ↓u_gtupT, ↓u_gN, ↓u_gC, ↓k_subL, ↓u_meth, ↓u_append, ↓u_popAt, ↓u_ixD, ↓u_ixN, ↓u_ixT, ↓u_ixS, ↓u_ixX, ↓u_mod, ↓u_div, ↓u_pow, ↓u_mul, ↓u_lenX, ↓u_lenL, ↓u_lenT, ↓u_lenC, ↓u_lenN, ↓u_addS, ↓u_isiD, ↓u_isiN, ↓u_zip, ↓u_argL, ↓u_argV, ↓u_dc, ↓u_dcN, ↓u_dcC, ↓k_dcX, ↓u_turn, ↓u_neg, ↓u_frz, ↓u_stoT, ↓u_stoL, ↓u_mulT, ↓u_addT, ↓u_listT, ↓u_listL, ↓u_slT, ↓rn_bind, ↓rn_some, ↓rn_iteT, ↓rn_iteF, ↓rv0, ↓ro0, ↓rb0, ↓rn0, ↓rs0, ↓rl0, ↓ra0, ↓rk0, ↓rx0, ↓rg0, ↓rh0, ↓rp0, ↓rv1, ↓ro1, ↓rb1, ↓rn1, ↓rs1, ↓rl1, ↓ra1, ↓rk1, ↓rx1, ↓rg1, ↓rh1, ↓rp1, ↓rv2, ↓ro2, ↓rb2, ↓rn2, ↓rs2, ↓rl2, ↓ra2, ↓rk2, ↓rx2, ↓rg2, ↓rh2, ↓rp2, ↓rv3, ↓ro3, ↓rb3, ↓rn3, ↓rs3, ↓rl3, ↓ra3, ↓rk3, ↓rx3, ↓rg3, ↓rh3, ↓rp3, ↓rv4, ↓ro4, ↓rb4, ↓rn4, ↓rs4, ↓rl4, ↓ra4, ↓rk4, ↓rx4, ↓rg4, ↓rh4, ↓rp4, ↓rv5, ↓ro5, ↓rb5, ↓rn5, ↓rs5, ↓rl5, ↓ra5, ↓rk5, ↓rx5, ↓rg5, ↓rh5, ↓rp5, ↓rv6, ↓ro6, ↓rb6, ↓rn6, ↓rs6, ↓rl6, ↓ra6, ↓rk6, ↓rx6, ↓rg6, ↓rh6, ↓rp6, ↓rv7, ↓ro7, ↓rb7, ↓rn7, ↓rs7, ↓rl7, ↓ra7, ↓rk7, ↓rx7, ↓rg7, ↓rh7, ↓rp7, ↓rv8, ↓ro8, ↓rb8, ↓rn8, ↓rs8, ↓rl8, ↓ra8, ↓rk8, ↓rx8, ↓rg8, ↓rh8, ↓rp8, ↓rv9, ↓ro9, ↓rb9, ↓rn9, ↓rs9, ↓rl9, ↓ra9, ↓rk9, ↓rx9, ↓rg9, ↓rh9, ↓rp9, ↓rv10, ↓ro10, ↓rb10, ↓rn10, ↓rs10, ↓rl10, ↓ra10, ↓rk10, ↓rx10, ↓rg10, ↓rh10, ↓rp10, ↓rv11, ↓ro11, ↓rb11, ↓rn11, ↓rs11, ↓rl11, ↓ra11, ↓rk11, ↓rx11, ↓rg11, ↓rh11, ↓rp11, ↓rv12, ↓ro12, ↓rb12, ↓rn12, ↓rs12, ↓rl12, ↓ra12, ↓rk12, ↓rx12, ↓rg12, ↓rh12, ↓rp12, ↓rv13, ↓ro13, ↓rb13, ↓rn13, ↓rs13, ↓rl13, ↓ra13, ↓rk13, ↓rx13, ↓rg13, ↓rh13, ↓rp13, ↓rv14, ↓ro14, ↓rb14, ↓rn14, ↓rs14, ↓rl14, ↓ra14, ↓rk14, ↓rx14, ↓rg14, ↓rh14, ↓rp14, ↓rv15, ↓ro15, ↓rb15, ↓rn15, ↓rs15, ↓rl15, ↓ra15, ↓rk15, ↓rx15, ↓rg15, ↓rh15, ↓rp15, ↓rv16, ↓ro16, ↓rb16, ↓rn16, ↓rs16, ↓rl16, ↓ra16, ↓rk16, ↓rx16, ↓rg16, ↓rh16, ↓rp16, ↓rv17, ↓ro17, ↓rb17, ↓rn17, ↓rs17, ↓rl17, ↓ra17, ↓rk17, ↓rx17, ↓rg17, ↓rh17, ↓rp17, rn_some, k_andT, k_andF, k_orT, k_orF, k_B, k_int, k_seqN, k_seqR, k_seqB, k_seqC, k_loopN, k_loopR, k_enum, k_fnN, k_fnD, k_fnNew, e_addI, e_subI, e_ltI, e_leI, e_gtI, e_geI, e_eqI, e_neI, e_abs, e_intI, e_intB, e_at0, e_at1, e_at2, e_ix30, e_ix32, List.set_cons_zero, List.set_cons_succ, f1, List.length_cons, List.length_nil, List.all_cons, List.all_nil, cold, hots, hot, List.map_cons, List.map_nil, List.cons_append, List.nil_append, List.append_nil, List.replicate_succ, List.replicate_zero, List.take_succ_cons, List.take_zero, wipeS, backS, noOwn, Nat.reduceAdd, Nat.reduceSub, Nat.reduceLeDiff, Nat.reduceEqDiff, Bool.and_true, Bool.true_and, Bool.and_false, Bool.false_and, Bool.not_true, Bool.not_false, Bool.false_eq_true, Bool.true_eq_false, reduceCtorEq, true_and, and_true, if_true, if_false, decide_true, decide_false, isOk, isA, String.reduceBEq, turn_f, cut_1, k_zipLL, k_zipTT, k_zipTL, e_isN, e_isNot, isNo, beq_self_eq_true, bne_self_eq_false, e_eqB, e_neB, e_eqX, List.any_cons, List.any_nil, Bool.or_true, Bool.true_or, Bool.or_self, reduceIte, Bool.or_false, Bool.false_or, ri0, rt0, ri1, rt1, ri2, rt2, ri3, rt3, ri4, rt4, ri5, rt5, ri6, rt6, ri7, rt7, ri8, rt8, ri9, rt9, ri10, rt10, ri11, rt11, ri12, rt12, ri13, rt13, ri14, rt14, ri15, rt15, ri16, rt16, ri17, rt17]
      | non =>
        simp only [↓u_C, ↓u_nil, ↓u_cons, ↓u_tup, ↓u_lst, ↓u_op, ↓u_and, ↓u_or, ↓u_test, ↓u_not, ↓u_notT, ↓u_andT, ↓u_orT, ↓u_ifE, ↓u_chain, ↓k_chT, ↓k_chF, ↓u_CB, ↓u_isi, ↓u_sl, ↓u_noPart, ↓u_part, ↓u_seq, ↓u_next, ↓u_retN, ↓u_bk, ↓u_ct, ↓u_drop, ↓u_ret, ↓u_if, ↓u_asg, ↓u_par, ↓u_prepN, ↓u_prepD, ↓u_prepO, ↓u_allN, ↓u_allC, ↓u_for, ↓u_loopN, ↓u_loopC, ↓u_it, ↓u_stoD, ↓u_stoN, ↓u_stosN, ↓u_stosC, ↓u_range1, ↓u_enum, ↓u_lc, ↓u_lcN, ↓u_lcC, ↓u_yes, ↓u_call, ↓u_argN, ↓u_argD, ↓u_argM, ↓u_argO, ↓u_argT, ↓u_backN, ↓u_backC, ↓u_fn, ↓k_fnO, ↓u_gtupD, ↓u_gtupN, ↓u_gtupL, ↓u_gtupT, ↓u_gN, ↓u_gC, ↓k_subL, ↓u_meth, ↓u_append, ↓u_popAt, ↓u_ixD, ↓u_ixN, ↓u_ixT, ↓u_ixS, ↓u_ixX, ↓u_mod, ↓u_div, ↓u_pow, ↓u_mul, ↓u_lenX, ↓u_lenL, ↓u_lenT, ↓u_lenC, ↓u_lenN, ↓u_addS, ↓u_isiD, ↓u_isiN, ↓u_zip, ↓u_argL, ↓u_argV, ↓u_dc, ↓u_dcN, ↓u_dcC, ↓k_dcX, ↓u_turn, ↓u_neg, ↓u_frz, ↓u_stoT, ↓u_stoL, ↓u_mulT, ↓u_addT, ↓u_listT, ↓u_listL, ↓u_slT, ↓rn_bind, ↓rn_some, ↓rn_iteT, ↓rn_iteF, ↓rv0, ↓ro0, ↓rb0, ↓rn0, ↓rs0, ↓rl0, ↓ra0, ↓rk0, ↓rx0, ↓rg0, ↓rh0, ↓rp0, ↓rv1, ↓ro1, ↓rb1, ↓rn1, ↓rs1, ↓rl1, ↓ra1, ↓rk1, ↓rx1, ↓rg1, ↓rh1, ↓rp1, ↓rv2, ↓ro2, ↓rb2, ↓rn2, ↓rs2, ↓rl2, ↓ra2, ↓rk2, ↓rx2, ↓rg2, ↓rh2, ↓rp2, ↓rv3, ↓ro3, ↓rb3, ↓rn3, ↓rs3, ↓rl3, ↓ra3, ↓rk3, ↓rx3, ↓rg3, ↓rh3, ↓rp3, ↓rv4, ↓ro4, ↓rb4, ↓rn4, ↓rs4, ↓rl4, ↓ra4, ↓rk4, ↓rx4, ↓rg4, ↓rh4, ↓rp4, ↓rv5, ↓ro5, ↓rb5, ↓rn5, ↓rs5, ↓rl5, ↓ra5, ↓rk5, ↓rx5, ↓rg5, ↓rh5, ↓rp5, ↓rv6, ↓ro6, ↓rb6, ↓rn6, ↓rs6, ↓rl6, ↓ra6, ↓rk6, ↓rx6, ↓rg6, ↓rh6, ↓rp6, ↓rv7, ↓ro7, ↓rb7, ↓rn7, ↓rs7, ↓rl7, ↓ra7, ↓rk7, ↓rx7, ↓rg7, ↓rh7, ↓rp7, ↓rv8, ↓ro8, ↓rb8, ↓rn8, ↓rs8, ↓rl8, ↓ra8, ↓rk8, ↓rx8, ↓rg8, ↓rh8, ↓rp8, ↓rv9, ↓ro9, ↓rb9, ↓rn9, ↓rs9, ↓rl9, ↓ra9, ↓rk9, ↓rx9, ↓rg9, ↓rh9, ↓rp9, ↓rv10, ↓ro10, ↓rb10, ↓rn10, ↓rs10, ↓rl10, ↓ra10, ↓rk10, ↓rx10, ↓rg10, ↓rh10, ↓rp10, ↓rv11, ↓ro11, ↓rb11, ↓rn11, ↓rs11, ↓rl11, ↓ra11, ↓rk11, ↓rx11, ↓rg11, ↓rh11, ↓rp11, ↓rv12, ↓ro12, ↓rb12, ↓rn12, ↓rs12, ↓rl12, ↓ra12, ↓rk12, ↓rx12, ↓rg12, ↓rh12, ↓rp12, ↓rv13, ↓ro13, ↓rb13, ↓rn13, ↓rs13, ↓rl13, ↓ra13, ↓rk13, ↓rx13, ↓rg13, ↓rh13, ↓rp13, ↓rv14, ↓ro14, ↓rb14, ↓rn14, ↓rs14, ↓rl14, ↓ra14, ↓rk14, ↓rx14, ↓rg14, ↓rh14, ↓rp14, ↓rv15, ↓ro15, ↓rb15, ↓rn15, ↓rs15, ↓rl15, ↓ra15, ↓rk15, ↓rx15, ↓rg15, ↓rh15, ↓rp15, ↓rv16, ↓ro16, ↓rb16, ↓rn16, ↓rs16, ↓rl16, ↓ra16, ↓rk16, ↓rx16, ↓rg16, ↓rh16, ↓rp16, ↓rv17, ↓ro17, ↓rb17, ↓rn17, ↓rs17, ↓rl17, ↓ra17, ↓rk17, ↓rx17, ↓rg17, ↓rh17, ↓rp17, rn_some, k_andT, k_andF, k_orT, k_orF, k_B, k_int, k_seqN, k_seqR, k_seqB, k_seqC, k_loopN, k_loopR, k_enum, k_fnN, k_fnD, k_fnNew, e_addI, e_subI, e_ltI, e_leI, e_gtI, e_geI, e_eqI, e_neI, e_abs, e_intI, e_intB, e_at0, e_at1, e_at2, e_ix30, e_ix32, List.set_cons_zero, List.set_cons_succ, f1, List.length_cons, List.length_nil, List.all_cons, List.all_nil, cold, hots, hot, List.map_cons, List.map_nil, List.cons_append, List.nil_append, List.append_nil, List.replicate_succ, List.replicate_zero, List.take_succ_cons, List.take_zero, wipeS, backS, noOwn, Nat.reduceAdd, Nat.reduceSub, Nat.reduceLeDiff, Nat.reduceEqDiff, Bool.and_true, Bool.true_and, Bool.and_false, Bool.false_and, Bool.not_true, Bool.not_false, Bool.false_eq_true, Bool.true_eq_false, reduceCtorEq, true_and, and_true, if_true, if_false, decide_true, decide_false, isOk, isA, String.reduceBEq, turn_f, cut_1, k_zipLL, k_zipTT, k_zipTL, e_isN, e_isNot, isNo, beq_self_eq_true, bne_self_eq_false, e_eqB, e_neB, e_eqX, List.any_cons, List.any_nil, Bool.or_true, Bool.true_or, Bool.or_self, reduceIte, Bool.or_false, Bool.false_or, ri0, rt0, ri1, rt1, ri2, rt2, ri3, rt3, ri4, rt4, ri5, rt5, ri6, rt6, ri7, rt7, ri8, rt8, ri9, rt9, ri10, rt10, ri11, rt11, ri12, rt12, ri13, rt13, ri14, rt14, ri15, rt15, ri16, rt16, ri17, rt17, e_eqNN]
      | tup ds =>
        simp only [↓u_C, ↓u_nil, ↓u_cons, ↓u_tup, ↓u_lst, ↓u_op, ↓u_and, ↓u_or, ↓u_test, ↓u_not, ↓u_notT, ↓u_andT, ↓u_orT, ↓u_ifE, ↓u_chain, ↓k_chT, ↓k_chF, ↓u_CB, ↓u_isi, ↓u_sl, ↓u_noPart, ↓u_part, ↓u_seq, ↓u_next, ↓u_retN, ↓u_bk, ↓u_ct, ↓u_drop, ↓u_ret, ↓u_if, ↓u_asg, ↓u_par, ↓u_prepN, ↓u_prepD, ↓u_prepO, ↓u_allN, ↓u_allC, ↓u_for, ↓u_loopN, ↓u_loopC, ↓u_it, ↓u_stoD, ↓u_stoN, ↓u_stosN, ↓u_stosC, ↓u_range1, ↓u_enum, ↓u_lc, ↓u_lcN, ↓u_lcC, ↓u_yes, ↓u_call, ↓u_argN, ↓u_argD, ↓u_argM, ↓u_argO, ↓u_argT, ↓u_backN, ↓u_backC, ↓u_fn, ↓k_fnO, ↓u_gtupD, ↓u_gtupN, ↓u_gtupL, ↓u_gtupT, ↓u_gN, ↓u_gC, ↓k_subL, ↓u_meth, ↓u_append, ↓u_popAt, ↓u_ixD, ↓u_ixN, ↓u_ixT, ↓u_ixS, ↓u_ixX, ↓u_mod, ↓u_div, ↓u_pow, ↓u_mul, ↓u_lenX, ↓u_lenL, ↓u_lenT, ↓u_lenC, ↓u_lenN, ↓u_addS, ↓u_isiD, ↓u_isiN, ↓u_zip, ↓u_argL, ↓u_argV, ↓u_dc, ↓u_dcN, ↓u_dcC, ↓k_dcX, ↓u_turn, ↓u_neg, ↓u_frz, ↓u_stoT, ↓u_stoL, ↓u_mulT, ↓u_addT, ↓u_listT, ↓u_listL, ↓u_slT, ↓rn_bind, ↓rn_some, ↓rn_iteT, ↓rn_iteF, ↓rv0, ↓ro0, ↓rb0, ↓rn0, ↓rs0, ↓rl0, ↓ra0, ↓rk0, ↓rx0, ↓rg0, ↓rh0, ↓rp0, ↓rv1, ↓ro1, ↓rb1, ↓rn1, ↓rs1, ↓rl1, ↓ra1, ↓rk1, ↓rx1, ↓rg1, ↓rh1, ↓rp1, ↓rv2, ↓ro2, ↓rb2, ↓rn2, ↓rs2, ↓rl2, ↓ra2, ↓rk2, ↓rx2, ↓rg2, ↓rh2, ↓rp2, ↓rv3, ↓ro3, ↓rb3, ↓rn3, ↓rs3, ↓rl3, ↓ra3, ↓rk3, ↓rx3, ↓rg3, ↓rh3, ↓rp3, ↓rv4, ↓ro4, ↓rb4, ↓rn4, ↓rs4, ↓rl4, ↓ra4, ↓rk4, ↓rx4, ↓rg4, ↓rh4, ↓rp4, ↓rv5, ↓ro5, ↓rb5, ↓rn5, ↓rs5, ↓rl5, ↓ra5, ↓rk5, ↓rx5, ↓rg5, ↓rh5, ↓rp5, ↓rv6, ↓ro6, ↓rb6, ↓rn6, ↓rs6, ↓rl6, ↓ra6, ↓rk6, ↓rx6, ↓rg6, ↓rh6, ↓rp6, ↓rv7, ↓ro7, ↓rb7, ↓rn7, ↓rs7, ↓rl7, ↓ra7, ↓rk7, ↓rx7, ↓rg7, ↓rh7, ↓rp7, ↓rv8, ↓ro8, ↓rb8, ↓rn8, ↓rs8, ↓rl8, ↓ra8, ↓rk8, ↓rx8, ↓rg8, ↓rh8, ↓rp8, ↓rv9, ↓ro9, ↓rb9, ↓rn9, ↓rs9, ↓rl9, ↓ra9, ↓rk9, ↓rx9, ↓rg9, ↓rh9, ↓rp9, ↓rv10, ↓ro10, ↓rb10, ↓rn10, ↓rs10, ↓rl10, ↓ra10, ↓rk10, ↓rx10, ↓rg10, ↓rh10, ↓rp10, ↓rv11, ↓ro11, ↓rb11, ↓rn11, ↓rs11, ↓rl11, ↓ra11, ↓rk11, ↓rx11, ↓rg11, ↓rh11, ↓rp11, ↓rv12, ↓ro12, ↓rb12, ↓rn12, ↓rs12, ↓rl12, ↓ra12, ↓rk12, ↓rx12, ↓rg12, ↓rh12, ↓rp12, ↓rv13, ↓ro13, ↓rb13, ↓rn13, ↓rs13, ↓rl13, ↓ra13, ↓rk13, ↓rx13, ↓rg13, ↓rh13, ↓rp13, ↓rv14, ↓ro14, ↓rb14, ↓rn14, ↓rs14, ↓rl14, ↓ra14, ↓rk14, ↓rx14, ↓rg14, ↓rh14, ↓rp14, ↓rv15, ↓ro15, ↓rb15, ↓rn15, ↓rs15, ↓rl15, ↓ra15, ↓rk15, ↓rx15, ↓rg15, ↓rh15, ↓rp15, ↓rv16, ↓ro16, ↓rb16, ↓rn16, ↓rs16, ↓rl16, ↓ra16, ↓rk16, ↓rx16, ↓rg16, ↓rh16, ↓rp16, ↓rv17, ↓ro17, ↓rb17, ↓rn17, ↓rs17, ↓rl17, ↓ra17, ↓rk17, ↓rx17, ↓rg17, ↓rh17, ↓rp17, rn_some, k_andT, k_andF, k_orT, k_orF, k_B, k_int, k_seqN, k_seqR, k_seqB, k_seqC, k_loopN, k_loopR, k_enum, k_fnN, k_fnD, k_fnNew, e_addI, e_subI, e_ltI, e_leI, e_gtI, e_geI, e_eqI, e_neI, e_abs, e_intI, e_intB, e_at0, e_at1, e_at2, e_ix30, e_ix32, List.set_cons_zero, List.set_cons_succ, f1, List.length_cons, List.length_nil, List.all_cons, List.all_nil, cold, hots, hot, List.map_cons, List.map_nil, List.cons_append, List.nil_append, List.append_nil, List.replicate_succ, List.replicate_zero, List.take_succ_cons, List.take_zero, wipeS, backS, noOwn, Nat.reduceAdd, Nat.reduceSub, Nat.reduceLeDiff, Nat.reduceEqDiff, Bool.and_true, Bool.true_and, Bool.and_false, Bool.false_and, Bool.not_true, Bool.not_false, Bool.false_eq_true, Bool.true_eq_false, reduceCtorEq, true_and, and_true, if_true, if_false, decide_true, decide_false, isOk, isA, String.reduceBEq, turn_f, cut_1, k_zipLL, k_zipTT, k_zipTL, e_isN, e_isNot, isNo, beq_self_eq_true, bne_self_eq_false, e_eqB, e_neB, e_eqX, List.any_cons, List.any_nil, Bool.or_true, Bool.true_or, Bool.or_self, reduceIte, Bool.or_false, Bool.false_or, ri0, rt0, ri1, rt1, ri2, rt2, ri3, rt3, ri4, rt4, ri5, rt5, ri6, rt6, ri7, rt7, ri8, rt8, ri9, rt9, ri10, rt10, ri11, rt11, ri12, rt12, ri13, rt13, ri14, rt14, ri15, rt15, ri16, rt16, ri17, rt17]
        refine rn_imp (same_loop (same_refl n) ds h.1) fun q e => ?_
        subst e
        simp only [↓u_C, ↓u_nil, ↓u_cons, ↓u_tup, ↓u_lst, ↓u_op, ↓u_and, ↓u_or, ↓u_test, ↓u_not, ↓u_notT, ↓u_andT, ↓u_orT, ↓u_ifE, ↓u_chain, ↓k_chT, ↓k_chF, ↓u_CB, ↓u_isi, ↓u_sl, ↓u_noPart, ↓u_part, ↓u_seq, ↓u_next, ↓u_retN, ↓u_bk, ↓u_ct, ↓u_drop, ↓u_ret, ↓u_if, ↓u_asg, ↓u_par, ↓u_prepN, ↓u_prepD, ↓u_prepO, ↓u_allN, ↓u_allC, ↓u_for, ↓u_loopN, ↓u_loopC, ↓u_it, ↓u_stoD, ↓u_stoN, ↓u_stosN, ↓u_stosC, ↓u_range1, ↓u_enum, ↓u_lc, ↓u_lcN, ↓u_lcC, ↓u_yes, ↓u_call, ↓u_argN, ↓u_argD, ↓u_argM, ↓u_argO, ↓u_argT, ↓u_backN, ↓u_backC, ↓u_fn, ↓k_fnO, ↓u_gtupD, ↓u_gtupN, ↓u_gtupL, ↓u_gtupT, ↓u_gN, ↓u_gC, ↓k_subL, ↓u_meth, ↓u_append, ↓u_popAt, ↓u_ixD, ↓u_ixN, ↓u_ixT, ↓u_ixS, ↓u_ixX, ↓u_mod, ↓u_div, ↓u_pow, ↓u_mul, ↓u_lenX, ↓u_lenL, ↓u_lenT, ↓u_lenC, ↓u_lenN, ↓u_addS, ↓u_isiD, ↓u_isiN, ↓u_zip, ↓u_argL, ↓u_argV, ↓u_dc, ↓u_dcN, ↓u_dcC, ↓k_dcX, ↓u_turn, ↓u_neg, ↓u_frz, ↓u_stoT, ↓u_stoL, ↓u_mulT, ↓u_addT, ↓u_listT, ↓u_listL, ↓u_slT, ↓rn_bind, ↓rn_some, ↓rn_iteT, ↓rn_iteF, ↓rv0, ↓ro0, ↓rb0, ↓rn0, ↓rs0, ↓rl0, ↓ra0, ↓rk0, ↓rx0, ↓rg0, ↓rh0, ↓rp0, ↓rv1, ↓ro1, ↓rb1, ↓rn1, ↓rs1, ↓rl1, ↓ra1, ↓rk1, ↓rx1, ↓rg1, ↓rh1, ↓rp1, ↓rv2, ↓ro2, ↓rb2, ↓rn2, ↓rs2, ↓rl2, ↓ra2, ↓rk2, ↓rx2, ↓rg2, ↓rh2, ↓rp2, ↓rv3, ↓ro3, ↓rb3, ↓rn3, ↓rs3, ↓rl3, ↓ra3, ↓rk3, ↓rx3, ↓rg3, ↓rh3, ↓rp3, ↓rv4, ↓ro4, ↓rb4, ↓rn4, ↓rs4, ↓rl4, ↓ra4, ↓rk4, ↓rx4, ↓rg4, ↓rh4, ↓rp4, ↓rv5, ↓ro5, ↓rb5, ↓rn5, ↓rs5, ↓rl5, ↓ra5, ↓rk5, ↓rx5, ↓rg5, ↓rh5, ↓rp5, ↓rv6, ↓ro6, ↓rb6, ↓rn6, ↓rs6, ↓rl6, ↓ra6, ↓rk6, ↓rx6, ↓rg6, ↓rh6, ↓rp6, ↓rv7, ↓ro7, ↓rb7, ↓rn7, ↓rs7, ↓rl7, ↓ra7, ↓rk7, ↓rx7, ↓rg7, ↓rh7, ↓rp7, ↓rv8, ↓ro8, ↓rb8, ↓rn8, ↓rs8, ↓rl8, ↓ra8, ↓rk8, ↓rx8, ↓rg8, ↓rh8, ↓rp8, ↓rv9, ↓ro9, ↓rb9, ↓rn9, ↓rs9, ↓rl9, ↓ra9, ↓rk9, ↓rx9, ↓rg9, ↓rh9, ↓rp9, ↓rv10, ↓ro10, ↓rb10, ↓rn10, ↓rs10, ↓rl10, ↓ra10, ↓rk10, ↓rx10, ↓rg10, ↓rh10, ↓rp10, ↓rv11, ↓ro11, ↓rb11, ↓rn11, ↓rs11, ↓rl11, ↓ra11, ↓rk11, ↓rx11, ↓rg11, ↓rh11, ↓rp11, ↓rv12, ↓ro12, ↓rb12, ↓rn12, ↓rs12, ↓rl12, ↓ra12, ↓rk12, ↓rx12, ↓rg12, ↓rh12, ↓rp12, ↓rv13, ↓ro13, ↓rb13, ↓rn13, ↓rs13, ↓rl13, ↓ra13, ↓rk13, ↓rx13, ↓rg13, ↓rh13, ↓rp13, ↓rv14, ↓ro14, ↓rb14, ↓rn14, ↓rs14, ↓rl14, ↓ra14, ↓rk14, ↓rx14, ↓rg14, ↓rh14, ↓rp14, ↓rv15, ↓ro15, ↓rb15, ↓rn15, ↓rs15, ↓rl15, ↓ra15, ↓rk15, ↓rx15, ↓rg15, ↓rh15, ↓rp15, ↓rv16, ↓ro16, ↓rb16, ↓rn16, ↓rs16, ↓rl16, ↓ra16, ↓rk16, ↓rx16, ↓rg16, ↓rh16, ↓rp16, ↓rv17, ↓ro17, ↓rb17, ↓rn17, ↓rs17, ↓rl17, ↓ra17, ↓rk17, ↓rx17, ↓rg17, ↓rh17, ↓rp17, rn_some, k_andT, k_andF, k_orT, k_orF, k_B, k_int, k_seqN, k_seqR, k_seqB, k_seqC, k_loopN, k_loopR, k_enum, k_fnN, k_fnD, k_fnNew, e_addI, e_subI, e_ltI, e_leI, e_gtI, e_geI, e_eqI, e_neI, e_abs, e_intI, e_intB, e_at0, e_at1, e_at2, e_ix30, e_ix32, List.set_cons_zero, List.set_cons_succ, f1, List.length_cons, List.length_nil, List.all_cons, List.all_nil, cold, hots, hot, List.map_cons, List.map_nil, List.cons_append, List.nil_append, List.append_nil, List.replicate_succ, List.replicate_zero, List.take_succ_cons, List.take_zero, wipeS, backS, noOwn, Nat.reduceAdd, Nat.reduceSub, Nat.reduceLeDiff, Nat.reduceEqDiff, Bool.and_true, Bool.true_and, Bool.and_false, Bool.false_and, Bool.not_true, Bool.not_false, Bool.false_eq_true, Bool.true_eq_false, reduceCtorEq, true_and, and_true, if_true, if_false, decide_true, decide_false, isOk, isA, String.reduceBEq, turn_f, cut_1, k_zipLL, k_zipTT, k_zipTL, e_isN, e_isNot, isNo, beq_self_eq_true, bne_self_eq_false, e_eqB, e_neB, e_eqX, List.any_cons, List.any_nil, Bool.or_true, Bool.true_or, Bool.or_self, reduceIte, Bool.or_false, Bool.false_or, ri0, rt0, ri1, rt1, ri2, rt2, ri3, rt3, ri4, rt4, ri5, rt5, ri6, rt6, ri7, rt7, ri8, rt8, ri9, rt9, ri10, rt10, ri11, rt11, ri12, rt12, ri13, rt13, ri14, rt14, ri15, rt15, ri16, rt16, ri17, rt17, ↓u_all, (all_true ds).1, (all_true ds).2]
        rw [List.length_map]
        exact h.2
      | lst ds =>
        simp only [↓u_C, ↓u_nil, ↓u_cons, ↓u_tup, ↓u_lst, ↓u_op, ↓u_and, ↓u_or, ↓u_test, ↓u_not, ↓u_notT, ↓u_andT, ↓u_orT, ↓u_ifE, ↓u_chain, ↓k_chT, ↓k_chF, ↓u_CB, ↓u_isi, ↓u_sl, ↓u_noPart, ↓u_part, ↓u_seq, ↓u_next, ↓u_retN, ↓u_bk, ↓u_ct, ↓u_drop, ↓u_ret, ↓u_if, ↓u_asg, ↓u_par, ↓u_prepN, ↓u_prepD, ↓u_prepO, ↓u_allN, ↓u_allC, ↓u_for, ↓u_loopN, ↓u_loopC, ↓u_it, ↓u_stoD, ↓u_stoN, ↓u_stosN, ↓u_stosC, ↓u_range1, ↓u_enum, ↓u_lc, ↓u_lcN, ↓u_lcC, ↓u_yes, ↓u_call, ↓u_argN, ↓u_argD, ↓u_argM, ↓u_argO, ↓u_argT, ↓u_backN, ↓u_backC, ↓u_fn, ↓k_fnO, ↓u_gtupD, ↓u_gtupN, ↓u_gtupL, ↓u_gtupT, ↓u_gN, ↓u_gC, ↓k_subL, ↓u_meth, ↓u_append, ↓u_popAt, ↓u_ixD, ↓u_ixN, ↓u_ixT, ↓u_ixS, ↓u_ixX, ↓u_mod, ↓u_div, ↓u_pow, ↓u_mul, ↓u_lenX, ↓u_lenL, ↓u_lenT, ↓u_lenC, ↓u_lenN, ↓u_addS, ↓u_isiD, ↓u_isiN, ↓u_zip, ↓u_argL, ↓u_argV, ↓u_dc, ↓u_dcN, ↓u_dcC, ↓k_dcX, ↓u_turn, ↓u_neg, ↓u_frz, ↓u_stoT, ↓u_stoL, ↓u_mulT, ↓u_addT, ↓u_listT, ↓u_listL, ↓u_slT, ↓rn_bind, ↓rn_some, ↓rn_iteT, ↓rn_iteF, ↓rv0, ↓ro0, ↓rb0, ↓rn0, ↓rs0, ↓rl0, ↓ra0, ↓rk0, ↓rx0, ↓rg0, ↓rh0, ↓rp0, ↓rv1, ↓ro1, ↓rb1, ↓rn1, ↓rs1, ↓rl1, ↓ra1, ↓rk1, ↓rx1, ↓rg1, ↓rh1, ↓rp1, ↓rv2, ↓ro2, ↓rb2, ↓rn2, ↓rs2, ↓rl2, ↓ra2, ↓rk2, ↓rx2, ↓rg2, ↓rh2, ↓rp2, ↓rv3, ↓ro3, ↓rb3, ↓rn3, ↓rs3, ↓rl3, ↓ra3, ↓rk3, ↓rx3, ↓rg3, ↓rh3, ↓rp3, ↓rv4, ↓ro4, ↓rb4, ↓rn4, ↓rs4, ↓rl4, ↓ra4, ↓rk4, ↓rx4, ↓rg4, ↓rh4, ↓rp4, ↓rv5, ↓ro5, ↓rb5, ↓rn5, ↓rs5, ↓rl5, ↓ra5, ↓rk5, ↓rx5, ↓rg5, ↓rh5, ↓rp5, ↓rv6, ↓ro6, ↓rb6, ↓rn6, ↓rs6, ↓rl6, ↓ra6, ↓rk6, ↓rx6, ↓rg6, ↓rh6, ↓rp6, ↓rv7, ↓ro7, ↓rb7, ↓rn7, ↓rs7, ↓rl7, ↓ra7, ↓rk7, ↓rx7, ↓rg7, ↓rh7, ↓rp7, ↓rv8, ↓ro8, ↓rb8, ↓rn8, ↓rs8, ↓rl8, ↓ra8, ↓rk8, ↓rx8, ↓rg8, ↓rh8, ↓rp8, ↓rv9, ↓ro9, ↓rb9, ↓rn9, ↓rs9, ↓rl9, ↓ra9, ↓rk9, ↓rx9, ↓rg9, ↓rh9, ↓rp9, ↓rv10, ↓ro10, ↓rb10, ↓rn10, ↓rs10, ↓rl10, ↓ra10, ↓rk10, ↓rx10, ↓rg10, ↓rh10, ↓rp10, ↓rv11, ↓ro11, ↓rb11, ↓rn11, ↓rs11, ↓rl11, ↓ra11, ↓rk11, ↓rx11, ↓rg11, ↓rh11, ↓rp11, ↓rv12, ↓ro12, ↓rb12, ↓rn12, ↓rs12, ↓rl12, ↓ra12, ↓rk12, ↓rx12, ↓rg12, ↓rh12, ↓rp12, ↓rv13, ↓ro13, ↓rb13, ↓rn13, ↓rs13, ↓rl13, ↓ra13, ↓rk13, ↓rx13, ↓rg13, ↓rh13, ↓rp13, ↓rv14, ↓ro14, ↓rb14, ↓rn14, ↓rs14, ↓rl14, ↓ra14, ↓rk14, ↓rx14, ↓rg14, ↓rh14, ↓rp14, ↓rv15, ↓ro15, ↓rb15, ↓rn15, ↓rs15, ↓rl15, ↓ra15, ↓rk15, ↓rx15, ↓rg15, ↓rh15, ↓rp15, ↓rv16, ↓ro16, ↓rb16, ↓rn16, ↓rs16, ↓rl16, ↓ra16, ↓rk16, ↓rx16, ↓rg16, ↓rh16, ↓rp16, ↓rv17, ↓ro17, ↓rb17, ↓rn17, ↓rs17, ↓rl17, ↓ra17, ↓rk17, ↓rx17, ↓rg17, ↓rh17, ↓rp17, rn_some, k_andT, k_andF, k_orT, k_orF, k_B, k_int, k_seqN, k_seqR, k_seqB, k_seqC, k_loopN, k_loopR, k_enum, k_fnN, k_fnD, k_fnNew, e_addI, e_subI, e_ltI, e_leI, e_gtI, e_geI, e_eqI, e_neI, e_abs, e_intI, e_intB, e_at0, e_at1, e_at2, e_ix30, e_ix32, List.set_cons_zero, List.set_cons_succ, f1, List.length_cons, List.length_nil, List.all_cons, List.all_nil, cold, hots, hot, List.map_cons, List.map_nil, List.cons_append, List.nil_append, List.append_nil, List.replicate_succ, List.replicate_zero, List.take_succ_cons, List.take_zero, wipeS, backS, noOwn, Nat.reduceAdd, Nat.reduceSub, Nat.reduceLeDiff, Nat.reduceEqDiff, Bool.and_true, Bool.true_and, Bool.and_false, Bool.false_and, Bool.not_true, Bool.not_false, Bool.false_eq_true, Bool.true_eq_false, reduceCtorEq, true_and, and_true, if_true, if_false, decide_true, decide_false, isOk, isA, String.reduceBEq, turn_f, cut_1, k_zipLL, k_zipTT, k_zipTL, e_isN, e_isNot, isNo, beq_self_eq_true, bne_self_eq_false, e_eqB, e_neB, e_eqX, List.any_cons, List.any_nil, Bool.or_true, Bool.true_or, Bool.or_self, reduceIte, Bool.or_false, Bool.false_or, ri0, rt0, ri1, rt1, ri2, rt2, ri3, rt3, ri4, rt4, ri5, rt5, ri6, rt6, ri7, rt7, ri8, rt8, ri9, rt9, ri10, rt10, ri11, rt11, ri12, rt12, ri13, rt13, ri14, rt14, ri15, rt15, ri16, rt16, ri17, rt17]
        refine rn_imp (same_loop (same_refl n) ds h.1) fun q e => ?_
        subst e
        simp only [↓u_C, ↓u_nil, ↓u_cons, ↓u_tup, ↓u_lst, ↓u_op, ↓u_and, ↓u_or, ↓u_test, ↓u_not, ↓u_notT, ↓u_andT, ↓u_orT, ↓u_ifE, ↓u_chain, ↓k_chT, ↓k_chF, ↓u_CB, ↓u_isi, ↓u_sl, ↓u_noPart, ↓u_part, ↓u_seq, ↓u_next, ↓u_retN, ↓u_bk, ↓u_ct, ↓u_drop, ↓u_ret, ↓u_if, ↓u_asg, ↓u_par, ↓u_prepN, ↓u_prepD, ↓u_prepO, ↓u_allN, ↓u_allC, ↓u_for, ↓u_loopN, ↓u_loopC, ↓u_it, ↓u_stoD, ↓u_stoN, ↓u_stosN, ↓u_stosC, ↓u_range1, ↓u_enum, ↓u_lc, ↓u_lcN, ↓u_lcC, ↓u_yes, ↓u_call, ↓u_argN, ↓u_argD, ↓u_argM, ↓u_argO, ↓u_argT, ↓u_backN, ↓u_backC, ↓u_fn, ↓k_fnO, ↓u_gtupD, ↓u_gtupN, ↓u_gtupL, ↓u_gtupT, ↓u_gN, ↓u_gC, ↓k_subL, ↓u_meth, ↓u_append, ↓u_popAt, ↓u_ixD, ↓u_ixN, ↓u_ixT, ↓u_ixS, ↓u_ixX, ↓u_mod, ↓u_div, ↓u_pow, ↓u_mul, ↓u_lenX, ↓u_lenL, ↓u_lenT, ↓u_lenC, ↓u_lenN, ↓u_addS, ↓u_isiD, ↓u_isiN, ↓u_zip, ↓u_argL, ↓u_argV, ↓u_dc, ↓u_dcN, ↓u_dcC, ↓k_dcX, ↓u_turn, ↓u_neg, ↓u_frz, ↓u_stoT, ↓u_stoL, ↓u_mulT, ↓u_addT, ↓u_listT, ↓u_listL, ↓u_slT, ↓rn_bind, ↓rn_some, ↓rn_iteT, ↓rn_iteF, ↓rv0, ↓ro0, ↓rb0, ↓rn0, ↓rs0, ↓rl0, ↓ra0, ↓rk0, ↓rx0, ↓rg0, ↓rh0, ↓rp0, ↓rv1, ↓ro1, ↓rb1, ↓rn1, ↓rs1, ↓rl1, ↓ra1, ↓rk1, ↓rx1, ↓rg1, ↓rh1, ↓rp1, ↓rv2, ↓ro2, ↓rb2, ↓rn2, ↓rs2, ↓rl2, ↓ra2, ↓rk2, ↓rx2, ↓rg2, ↓rh2, ↓rp2, ↓rv3, ↓ro3, ↓rb3, ↓rn3, ↓rs3, ↓rl3, ↓ra3, ↓rk3, ↓rx3, ↓rg3, ↓rh3, ↓rp3, ↓rv4, ↓ro4, ↓rb4, ↓rn4, ↓rs4, ↓rl4, ↓ra4, ↓rk4, ↓rx4, ↓rg4, ↓rh4, ↓rp4, ↓rv5, ↓ro5, ↓rb5, ↓rn5, ↓rs5, ↓rl5, ↓ra5, ↓rk5, ↓rx5, ↓rg5, ↓rh5, ↓rp5, ↓rv6, ↓ro6, ↓rb6, ↓rn6, ↓rs6, ↓rl6, ↓ra6, ↓rk6, ↓rx6, ↓rg6, ↓rh6, ↓rp6, ↓rv7, ↓ro7, ↓rb7, ↓rn7, ↓rs7, ↓rl7, ↓ra7, ↓rk7, ↓rx7, ↓rg7, ↓rh7, ↓rp7, ↓rv8, ↓ro8, ↓rb8, ↓rn8, ↓rs8, ↓rl8, ↓ra8, ↓rk8, ↓rx8, ↓rg8, ↓rh8, ↓rp8, ↓rv9, ↓ro9, ↓rb9, ↓rn9, ↓rs9, ↓rl9, ↓ra9, ↓rk9, ↓rx9, ↓rg9, ↓rh9, ↓rp9, ↓rv10, ↓ro10, ↓rb10, ↓rn10, ↓rs10, ↓rl10, ↓ra10, ↓rk10, ↓rx10, ↓rg10, ↓rh10, ↓rp10, ↓rv11, ↓ro11, ↓rb11, ↓rn11, ↓rs11, ↓rl11, ↓ra11, ↓rk11, ↓rx11, ↓rg11, ↓rh11, ↓rp11, ↓rv12, ↓ro12, ↓rb12, ↓rn12, ↓rs12, ↓rl12, ↓ra12, ↓rk12, ↓rx12, ↓rg12, ↓rh12, ↓rp12, ↓rv13, ↓ro13, ↓rb13, ↓rn13, ↓rs13, ↓rl13, ↓ra13, ↓rk13, ↓rx13, ↓rg13, ↓rh13, ↓rp13, ↓rv14, ↓ro14, ↓rb14, ↓rn14, ↓rs14, ↓rl14, ↓ra14, ↓rk14, ↓rx14, ↓rg14, ↓rh14, ↓rp14, ↓rv15, ↓ro15, ↓rb15, ↓rn15, ↓rs15, ↓rl15, ↓ra15, ↓rk15, ↓rx15, ↓rg15, ↓rh15, ↓rp15, ↓rv16, ↓ro16, ↓rb16, ↓rn16, ↓rs16, ↓rl16, ↓ra16, ↓rk16, ↓rx16, ↓rg16, ↓rh16, ↓rp16, ↓rv17, ↓ro17, ↓rb17, ↓rn17, ↓rs17, ↓rl17, ↓ra17, ↓rk17, ↓rx17, ↓rg17, ↓rh17, ↓rp17, rn_some, k_andT, k_andF, k_orT, k_orF, k_B, k_int, k_seqN, k_seqR, k_seqB, k_seqC, k_loopN, k_loopR, k_enum, k_fnN, k_fnD, k_fnNew, e_addI, e_subI, e_ltI, e_leI, e_gtI, e_geI, e_eqI, e_neI, e_abs, e_intI, e_intB, e_at0, e_at1, e_at2, e_ix30, e_ix32, List.set_cons_zero, List.set_cons_succ, f1, List.length_cons, List.length_nil, List.all_cons, List.all_nil, cold, hots, hot, List.map_cons, List.map_nil, List.cons_append, List.nil_append, List.append_nil, List.replicate_succ, List.replicate_zero, List.take_succ_cons, List.take_zero, wipeS, backS, noOwn, Nat.reduceAdd, Nat.reduceSub, Nat.reduceLeDiff, Nat.reduceEqDiff, Bool.and_true, Bool.true_and, Bool.and_false, Bool.false_and, Bool.not_true, Bool.not_false, Bool.false_eq_true, Bool.true_eq_false, reduceCtorEq, true_and, and_true, if_true, if_false, decide_true, decide_false, isOk, isA, String.reduceBEq, turn_f, cut_1, k_zipLL, k_zipTT, k_zipTL, e_isN, e_isNot, isNo, beq_self_eq_true, bne_self_eq_false, e_eqB, e_neB, e_eqX, List.any_cons, List.any_nil, Bool.or_true, Bool.true_or, Bool.or_self, reduceIte, Bool.or_false, Bool.false_or, ri0, rt0, ri1, rt1, ri2, rt2, ri3, rt3, ri4, rt4, ri5, rt5, ri6, rt6, ri7, rt7, ri8, rt8, ri9, rt9, ri10, rt10, ri11, rt11, ri12, rt12, ri13, rt13, ri14, rt14, ri15, rt15, ri16, rt16, ri17, rt17, ↓u_all, (all_true ds).1, (all_true ds).2]
        rw [List.length_map]
        exact h.2
      | _ => exact h.elim
    obtain ⟨a, e, rfl⟩ := main
    exact e
end Tw

/-! is_number .. is_code, as plain functions -/
namespace Tw
open PySem PySem.Spec PyProof.Rows L2
def numB : Da → Bool
  | .int _ => true
  | _ => false
def withinB (d : Da) (lo hi : Int) : Bool := match d with
  | .int i => decide (lo ≤ i) && decide (i ≤ hi)
  | _ => false
def isLt (c : Nat) : Bool := decide (c ∈ ("abcdefghijklmnopqrstuvwxyz" : Str).cps.toList)
def nameD : Da → Bool
  | .str z => decide (1 ≤ z.length) && decide (z.length ≤ 8) && z.cps.toList.all isLt
  | _ => false
def tupB (d : Da) (lo hi : Int) : Bool := match d with
  | .tup ds => decide (lo ≤ ds.length) && decide ((ds.length : Int) ≤ hi)
  | _ => false
section
variable {d : Da}
theorem is_number_eq (h : isOk d = true) : w_is_number [.dat d] = some (.d (.bl (numB d)), [.dat d]) := by
  have main : Rn (w_is_number [.dat d]) fun p => p = (.d (.bl (numB d)), [.dat d]) := by
    unfold w_is_number
    cases d with
    | dct _ => cases h
    | fn _ => cases h
    | tab _ => cases h
    | _ => simp only [↓u_C, ↓u_nil, ↓u_cons, ↓u_tup, ↓u_lst, ↓u_op, ↓u_and, ↓u_or, ↓u_test, ↓u_not, ↓u_notT, ↓u_andT, ↓u_orT, ↓u_ifE, ↓u_chain, ↓k_chT, ↓k_chF, ↓u_CB, ↓u_isi, ↓u_sl, ↓u_noPart, ↓u_part, ↓u_seq, ↓u_next, ↓u_retN, ↓u_bk, ↓u_ct, ↓u_drop, ↓u_ret, ↓u_if, ↓u_asg, ↓u_par, ↓u_prepN, ↓u_prepD, ↓u_prepO, ↓u_allN, ↓u_allC, ↓u_for, ↓u_loopN, ↓u_loopC, ↓u_it, ↓u_stoD, ↓u_stoN, ↓u_stosN, ↓u_stosC, ↓u_range1, ↓u_enum, ↓u_lc, ↓u_lcN, ↓u_lcC, ↓u_yes, ↓u_call, ↓u_argN, ↓u_argD, ↓u_argM, ↓u_argO, ↓u_argT, ↓u_backN, ↓u_backC, ↓u_fn, ↓k_fnO, ↓u_gtupD, ↓u_gtupN, ↓u_gtupL, ↓u_gtupT, ↓u_gN, ↓u_gC, ↓k_subL, ↓u_meth, ↓u_append, ↓u_popAt, ↓u_ixD, ↓u_ixN, ↓u_ixT, ↓u_ixS, ↓u_ixX, ↓u_mod, ↓u_div, ↓u_pow, ↓u_mul, ↓u_lenX, ↓u_lenL, ↓u_lenT, ↓u_lenC, ↓u_lenN, ↓u_addS, ↓u_isiD, ↓u_isiN, ↓u_zip, ↓u_argL, ↓u_argV, ↓u_dc, ↓u_dcN, ↓u_dcC, ↓k_dcX, ↓u_turn, ↓u_neg, ↓u_frz, ↓u_stoT, ↓u_stoL, ↓u_mulT, ↓u_addT, ↓u_listT, ↓u_listL, ↓u_slT, ↓rn_bind, ↓rn_some, ↓rn_iteT, ↓rn_iteF, ↓rv0, ↓ro0, ↓rb0, ↓rn0, ↓rs0, ↓rl0, ↓ra0, ↓rk0, ↓rx0, ↓rg0, ↓rh0, ↓rp0, ↓rv1, ↓ro1, ↓rb1, ↓rn1, ↓rs1, ↓rl1, ↓ra1, ↓rk1, ↓rx1, ↓rg1, ↓rh1, ↓rp1, ↓rv2, ↓ro2, ↓rb2, ↓rn2, ↓rs2, ↓rl2, ↓ra2, ↓rk2, ↓rx2, ↓rg2, ↓rh2, ↓rp2, ↓rv3, ↓ro3, ↓rb3, ↓rn3, ↓rs3, ↓rl3, ↓ra3, ↓rk3, ↓rx3, ↓rg3, ↓rh3, ↓rp3, ↓rv4, ↓ro4, ↓rb4, ↓rn4, ↓rs4, ↓rl4, ↓ra4, ↓rk4, ↓rx4, ↓rg4, ↓rh4, ↓rp4, ↓rv5, ↓ro5, ↓rb5, ↓rn5, ↓rs5, ↓rl5, ↓ra5, ↓rk5, ↓rx5, ↓rg5, ↓rh5, ↓rp5, ↓rv6, ↓ro6, ↓rb6, ↓rn6, ↓rs6, ↓rl6, ↓ra6, ↓rk6, ↓rx6, ↓rg6, ↓rh6, ↓rp6, ↓rv7, ↓ro7, ↓rb7, ↓rn7, ↓rs7, ↓rl7, ↓ra7, ↓rk7, ↓rx7, ↓rg7, ↓rh7, ↓rp7, ↓rv8, ↓ro8, ↓rb8, ↓rn8, ↓rs8, ↓rl8, ↓ra8, ↓rk8, ↓rx8, ↓rg8, ↓rh8, ↓rp8, ↓rv9, ↓ro9, ↓rb9, ↓rn9, ↓rs9, ↓rl9, ↓ra9, ↓rk9, ↓rx9, ↓rg9, ↓rh9, ↓rp9, ↓rv10, ↓ro10, ↓rb10, ↓rn10, ↓rs10, ↓rl10, ↓ra10, ↓rk10, ↓rx10, ↓rg10, ↓rh10, ↓rp10, ↓rv11, ↓ro11, ↓rb11, ↓rn11, ↓rs11, ↓rl11, ↓ra11, ↓rk11, ↓rx11, ↓rg11, ↓rh11, ↓rp11, ↓rv12, ↓ro12, ↓rb12, ↓rn12, ↓rs12, ↓rl12, ↓ra12, ↓rk12, ↓rx12, ↓rg12, ↓rh12, ↓rp12, ↓rv13, ↓ro13, ↓rb13, ↓rn13, ↓rs13, ↓rl13, ↓ra13, ↓rk13, ↓rx13, ↓rg13, ↓rh13, ↓rp13, ↓rv14, ↓ro14, ↓rb14, ↓rn14, ↓rs14, ↓rl14, ↓ra14, ↓rk14, ↓rx14, ↓rg14, ↓rh14, ↓rp14, ↓rv15, ↓ro15, ↓rb15, ↓rn15, ↓rs15, ↓rl15, ↓ra15, ↓rk15, ↓rx15, ↓rg15, ↓rh15, ↓rp15, ↓rv16, ↓ro16, ↓rb16, ↓rn16, ↓rs16, ↓rl16, ↓ra16, ↓rk16, ↓rx16, ↓rg16, ↓rh16, ↓rp16, ↓rv17, ↓ro17, ↓rb17, ↓rn17, ↓rs17, ↓rl17, ↓ra17, ↓rk17, ↓rx17, ↓rg17, ↓rh17, ↓rp17, rn_some, k_andT, k_andF, k_orT, k_orF, k_B, k_int, k_seqN, k_seqR, k_seqB, k_seqC, k_loopN, k_loopR, k_enum, k_fnN, k_fnD, k_fnNew, e_addI, e_subI, e_ltI, e_leI, e_gtI, e_geI, e_eqI, e_neI, e_abs, e_intI, e_intB, e_at0, e_at1, e_at2, e_ix30, e_ix32, List.set_cons_zero, List.set_cons_succ, f1, List.length_cons, List.length_nil, List.all_cons, List.all_nil, cold, hots, hot, List.map_cons, List.map_nil, List.cons_append, List.nil_append, List.append_nil, List.replicate_succ, List.replicate_zero, List.take_succ_cons, List.take_zero, wipeS, backS, noOwn, Nat.reduceAdd, Nat.reduceSub, Nat.reduceLeDiff, Nat.reduceEqDiff, Bool.and_true, Bool.true_and, Bool.and_false, Bool.false_and, Bool.not_true, Bool.not_false, Bool.false_eq_true, Bool.true_eq_false, reduceCtorEq, true_and, and_true, if_true, if_false, decide_true, decide_false, isOk, isA, String.reduceBEq, turn_f, cut_1, k_zipLL, k_zipTT, k_zipTL, e_isN, e_isNot, isNo, beq_self_eq_true, bne_self_eq_false, e_eqB, e_neB, e_eqX, List.any_cons, List.any_nil, Bool.or_true, Bool.true_or, Bool.or_self, reduceIte, Bool.or_false, Bool.false_or, ri0, rt0, ri1, rt1, ri2, rt2, ri3, rt3, ri4, rt4, ri5, rt5, ri6, rt6, ri7, rt7, ri8, rt8, ri9, rt9, ri10, rt10, ri11, rt11, ri12, rt12, ri13, rt13, ri14, rt14, ri15, rt15, ri16, rt16, ri17, rt17, numB]
  obtain ⟨a, e, rfl⟩ := main
  exact e
theorem is_within_eq {lo hi : Int} (h : isOk d = true) : w_is_within [.dat d, .dat (.int lo), .dat (.int hi)] = some (.d (.bl (withinB d lo hi)), [.dat d, .dat (.int lo), .dat (.int hi)]) := by
  have main : Rn (w_is_within [.dat d, .dat (.int lo), .dat (.int hi)]) fun p => p = (.d (.bl (withinB d lo hi)), [.dat d, .dat (.int lo), .dat (.int hi)]) := by
    unfold w_is_within
    have e := is_number_eq h
    simp only [↓u_C, ↓u_nil, ↓u_cons, ↓u_tup, ↓u_lst, ↓u_op, ↓u_and, ↓u_or, ↓u_test, ↓u_not, ↓u_notT, ↓u_andT, ↓u_orT, ↓u_ifE, ↓u_chain, ↓k_chT, ↓k_chF, ↓u_CB, ↓u_isi, ↓u_sl, ↓u_noPart, ↓u_part, ↓u_seq, ↓u_next, ↓u_retN, ↓u_bk, ↓u_ct, ↓u_drop, ↓u_ret, ↓u_if, ↓u_asg, ↓u_par, ↓u_prepN, ↓u_prepD, ↓u_prepO, ↓u_allN, ↓u_allC, ↓u_for, ↓u_loopN, ↓u_loopC, ↓u_it, ↓u_stoD, ↓u_stoN, ↓u_stosN, ↓u_stosC, ↓u_range1, ↓u_enum, ↓u_lc, ↓u_lcN, ↓u_lcC, ↓u_yes, ↓u_call, ↓u_argN, ↓u_argD, ↓u_argM, ↓u_argO, ↓u_argT, ↓u_backN, ↓u_backC, ↓u_fn, ↓k_fnO, ↓u_gtupD, ↓u_gtupN, ↓u_gtupL, ↓u_gtupT, ↓u_gN, ↓u_gC, ↓k_subL, ↓u_meth, ↓u_append, ↓u_popAt, ↓u_ixD, ↓u_ixN, ↓u_ixT, ↓u_ixS, ↓u_ixX, ↓u_mod, ↓u_div, ↓u_pow, ↓u_mul, ↓u_lenX, ↓u_lenL, ↓u_lenT, ↓u_lenC, ↓u_lenN, ↓u_addS, ↓u_isiD, ↓u_isiN, ↓u_zip, ↓u_argL, ↓u_argV, ↓u_dc, ↓u_dcN, ↓u_dcC, ↓k_dcX, ↓u_turn, ↓u_neg, ↓u_frz, ↓u_stoT, ↓u_stoL, ↓u_mulT, ↓u_addT, ↓u_listT, ↓u_listL, ↓u_slT, ↓rn_bind, ↓rn_some, ↓rn_iteT, ↓rn_iteF, ↓rv0, ↓ro0, ↓rb0, ↓rn0, ↓rs0, ↓rl0, ↓ra0, ↓rk0, ↓rx0, ↓rg0, ↓rh0, ↓rp0, ↓rv1, ↓ro1, ↓rb1, ↓rn1, ↓rs1, ↓rl1, ↓ra1, ↓rk1, ↓rx1, ↓rg1, ↓rh1, ↓rp1, ↓rv2, ↓ro2, ↓rb2, ↓rn2, ↓rs2, ↓rl2, ↓ra2, ↓rk2, ↓rx2, ↓rg2, ↓rh2, ↓rp2, ↓rv3, ↓ro3, ↓rb3, ↓rn3, ↓rs3, ↓rl3, ↓ra3, ↓rk3, ↓rx3, ↓rg3, ↓rh3, ↓rp3, ↓rv4, ↓ro4, ↓rb4, ↓rn4, ↓rs4, ↓rl4, ↓ra4, ↓rk4, ↓rx4, ↓rg4, ↓rh4, ↓rp4, ↓rv5, ↓ro5, ↓rb5, ↓rn5, ↓rs5, ↓rl5, ↓ra5, ↓rk5, ↓rx5, ↓rg5, ↓rh5, ↓rp5, ↓rv6, ↓ro6, ↓rb6, ↓rn6, ↓rs6, ↓rl6, ↓ra6, ↓rk6, ↓rx6, ↓rg6, ↓rh6, ↓rp6, ↓rv7, ↓ro7, ↓rb7, ↓rn7, ↓rs7, ↓rl7, ↓ra7, ↓rk7, ↓rx7, ↓rg7, ↓rh7, ↓rp7, ↓rv8, ↓ro8, ↓rb8, ↓rn8, ↓rs8, ↓rl8, ↓ra8, ↓rk8, ↓rx8, ↓rg8, ↓rh8, ↓rp8, ↓rv9, ↓ro9, ↓rb9, ↓rn9, ↓rs9, ↓rl9, ↓ra9, ↓rk9, ↓rx9, ↓rg9, ↓rh9, ↓rp9, ↓rv10, ↓ro10, ↓rb10, ↓rn10, ↓rs10, ↓rl10, ↓ra10, ↓rk10, ↓rx10, ↓rg10, ↓rh10, ↓rp10, ↓rv11, ↓ro11, ↓rb11, ↓rn11, ↓rs11, ↓rl11, ↓ra11, ↓rk11, ↓rx11, ↓rg11, ↓rh11, ↓rp11, ↓rv12, ↓ro12, ↓rb12, ↓rn12, ↓rs12, ↓rl12, ↓ra12, ↓rk12, ↓rx12, ↓rg12, ↓rh12, ↓rp12, ↓rv13, ↓ro13, ↓rb13, ↓rn13, ↓rs13, ↓rl13, ↓ra13, ↓rk13, ↓rx13, ↓rg13, ↓rh13, ↓rp13, ↓rv14, ↓ro14, ↓rb14, ↓rn14, ↓rs14, ↓rl14, ↓ra14, ↓rk14, ↓rx14, ↓rg14, ↓rh14, ↓rp14, ↓rv15, ↓ro15, ↓rb15, ↓rn15, ↓rs15, ↓rl15, ↓ra15, ↓rk15, ↓rx15, ↓rg15, ↓rh15, ↓rp15, ↓rv16, ↓ro16, ↓rb16, ↓rn16, ↓rs16, ↓rl16, ↓ra16, ↓rk16, ↓rx16, ↓rg16, ↓rh16, ↓rp16, ↓rv17, ↓ro17, ↓rb17, ↓rn17, ↓rs17, ↓rl17, ↓ra17, ↓rk17, ↓rx17, ↓rg17, ↓rh17, ↓rp17, rn_some, k_andT, k_andF, k_orT, k_orF, k_B, k_int, k_seqN, k_seqR, k_seqB, k_seqC, k_loopN, k_loopR, k_enum, k_fnN, k_fnD, k_fnNew, e_addI, e_subI, e_ltI, e_leI, e_gtI, e_geI, e_eqI, e_neI, e_abs, e_intI, e_intB, e_at0, e_at1, e_at2, e_ix30, e_ix32, List.set_cons_zero, List.set_cons_succ, f1, List.length_cons, List.length_nil, List.all_cons, List.all_nil, cold, hots, hot, List.map_cons, List.map_nil, List.cons_append, List.nil_append, List.append_nil, List.replicate_succ, List.replicate_zero, List.take_succ_cons, List.take_zero, wipeS, backS, noOwn, Nat.reduceAdd, Nat.reduceSub, Nat.reduceLeDiff, Nat.reduceEqDiff, Bool.and_true, Bool.true_and, Bool.and_false, Bool.false_and, Bool.not_true, Bool.not_false, Bool.false_eq_true, Bool.true_eq_false, reduceCtorEq, true_and, and_true, if_true, if_false, decide_true, decide_false, isOk, isA, String.reduceBEq, turn_f, cut_1, k_zipLL, k_zipTT, k_zipTL, e_isN, e_isNot, isNo, beq_self_eq_true, bne_self_eq_false, e_eqB, e_neB, e_eqX, List.any_cons, List.any_nil, Bool.or_true, Bool.true_or, Bool.or_self, reduceIte, Bool.or_false, Bool.false_or, ri0, rt0, ri1, rt1, ri2, rt2, ri3, rt3, ri4, rt4, ri5, rt5, ri6, rt6, ri7, rt7, ri8, rt8, ri9, rt9, ri10, rt10, ri11, rt11, ri12, rt12, ri13, rt13, ri14, rt14, ri15, rt15, ri16, rt16, ri17, rt17, ↓rn_of e]
    cases d with
    | dct _ => cases h
    | fn _ => cases h
    | tab _ => cases h
    | int i =>
      by_cases h1 : lo ≤ i
      · simp only [↓u_C, ↓u_nil, ↓u_cons, ↓u_tup, ↓u_lst, ↓u_op, ↓u_and, ↓u_or, ↓u_test, ↓u_not, ↓u_notT, ↓u_andT, ↓u_orT, ↓u_ifE, ↓u_chain, ↓k_chT, ↓k_chF, ↓u_CB, ↓u_isi, ↓u_sl, ↓u_noPart, ↓u_part, ↓u_seq, ↓u_next, ↓u_retN, ↓u_bk, ↓u_ct, ↓u_drop, ↓u_ret, ↓u_if, ↓u_asg, ↓u_par, ↓u_prepN, ↓u_prepD, ↓u_prepO, ↓u_allN, ↓u_allC, ↓u_for, ↓u_loopN, ↓u_loopC, ↓u_it, ↓u_stoD, ↓u_stoN, ↓u_stosN, ↓u_stosC, ↓u_range1, ↓u_enum, ↓u_lc, ↓u_lcN, ↓u_lcC, ↓u_yes, ↓u_call, ↓u_argN, ↓u_argD, ↓u_argM, ↓u_argO, ↓u_argT, ↓u_backN, ↓u_backC, ↓u_fn, ↓k_fnO, ↓u_gtupD, ↓u_gtupN, ↓u_gtupL, ↓u_gtupT, ↓u_gN, ↓u_gC, ↓k_subL, ↓u_meth, ↓u_append, ↓u_popAt, ↓u_ixD, ↓u_ixN, ↓u_ixT, ↓u_ixS, ↓u_ixX, ↓u_mod, ↓u_div, ↓u_pow, ↓u_mul, ↓u_lenX, ↓u_lenL, ↓u_lenT, ↓u_lenC, ↓u_lenN, ↓u_addS, ↓u_isiD, ↓u_isiN, ↓u_zip, ↓u_argL, ↓u_argV, ↓u_dc, ↓u_dcN, ↓u_dcC, ↓k_dcX, ↓u_turn, ↓u_neg, ↓u_frz, ↓u_stoT, ↓u_stoL, ↓u_mulT, ↓u_addT, ↓u_listT, ↓u_listL, ↓u_slT, ↓rn_bind, ↓rn_some, ↓rn_iteT, ↓rn_iteF, ↓rv0, ↓ro0, ↓rb0, ↓rn0, ↓rs0, ↓rl0, ↓ra0, ↓rk0, ↓rx0, ↓rg0, ↓rh0, ↓rp0, ↓rv1, ↓ro1, ↓rb1, ↓rn1, ↓rs1, ↓rl1, ↓ra1, ↓rk1, ↓rx1, ↓rg1, ↓rh1, ↓rp1, ↓rv2, ↓ro2, ↓rb2, ↓rn2, ↓rs2, ↓rl2, ↓ra2, ↓rk2, ↓rx2, ↓rg2, ↓rh2, ↓rp2, ↓rv3, ↓ro3, ↓rb3, ↓rn3, ↓rs3, ↓rl3, ↓ra3, ↓rk3, ↓rx3, ↓rg3, ↓rh3, ↓rp3, ↓rv4, ↓ro4, ↓rb4, ↓rn4, ↓rs4, ↓rl4, ↓ra4, ↓rk4, ↓rx4, ↓rg4, ↓rh4, ↓rp4, ↓rv5, ↓ro5, ↓rb5, ↓rn5, ↓rs5, ↓rl5, ↓ra5, ↓rk5, ↓rx5, ↓rg5, ↓rh5, ↓rp5, ↓rv6, ↓ro6, ↓rb6, ↓rn6, ↓rs6, ↓rl6, ↓ra6, ↓rk6, ↓rx6, ↓rg6, ↓rh6, ↓rp6, ↓rv7, ↓ro7, ↓rb7, ↓rn7, ↓rs7, ↓rl7, ↓ra7, ↓rk7, ↓rx7, ↓rg7, ↓rh7, ↓rp7, ↓rv8, ↓ro8, ↓rb8, ↓rn8, ↓rs8, ↓rl8, ↓ra8, ↓rk8, ↓rx8, ↓rg8, ↓rh8, ↓rp8, ↓rv9, ↓ro9, ↓rb9, ↓rn9, ↓rs9, ↓rl9, ↓ra9, ↓rk9, ↓rx9, ↓rg9, ↓rh9, ↓rp9, ↓rv10, ↓ro10, ↓rb10, ↓rn10, ↓rs10, ↓rl10, ↓ra10, ↓rk10, ↓rx10, ↓rg10, ↓rh10, ↓rp10, ↓rv11, ↓ro11, ↓rb11, ↓rn11, ↓rs11, ↓rl11, ↓ra11, ↓rk11, ↓rx11, ↓rg11, ↓rh11, ↓rp11, ↓rv12, ↓ro12, ↓rb12, ↓rn12, ↓rs12, ↓rl12, ↓ra12, ↓rk12, ↓rx12, ↓rg12, ↓rh12, ↓rp12, ↓rv13, ↓ro13, ↓rb13, ↓rn13, ↓rs13, ↓rl13, ↓ra13, ↓rk13, ↓rx13, ↓rg13, ↓rh13, ↓rp13, ↓rv14, ↓ro14, ↓rb14, ↓rn14, ↓rs14, ↓rl14, ↓ra14, ↓rk14, ↓rx14, ↓rg14, ↓rh14, ↓rp14, ↓rv15, ↓ro15, ↓rb15, ↓rn15, ↓rs15, ↓rl15, ↓ra15, ↓rk15, ↓rx15, ↓rg15, ↓rh15, ↓rp15, ↓rv16, ↓ro16, ↓rb16, ↓rn16, ↓rs16, ↓rl16, ↓ra16, ↓rk16, ↓rx16, ↓rg16, ↓rh16, ↓rp16, ↓rv17, ↓ro17, ↓rb17, ↓rn17, ↓rs17, ↓rl17, ↓ra17, ↓rk17, ↓rx17, ↓rg17, ↓rh17, ↓rp17, rn_some, k_andT, k_andF, k_orT, k_orF, k_B, k_int, k_seqN, k_seqR, k_seqB, k_seqC, k_loopN, k_loopR, k_enum, k_fnN, k_fnD, k_fnNew, e_addI, e_subI, e_ltI, e_leI, e_gtI, e_geI, e_eqI, e_neI, e_abs, e_intI, e_intB, e_at0, e_at1, e_at2, e_ix30, e_ix32, List.set_cons_zero, List.set_cons_succ, f1, List.length_cons, List.length_nil, List.all_cons, List.all_nil, cold, hots, hot, List.map_cons, List.map_nil, List.cons_append, List.nil_append, List.append_nil, List.replicate_succ, List.replicate_zero, List.take_succ_cons, List.take_zero, wipeS, backS, noOwn, Nat.reduceAdd, Nat.reduceSub, Nat.reduceLeDiff, Nat.reduceEqDiff, Bool.and_true, Bool.true_and, Bool.and_false, Bool.false_and, Bool.not_true, Bool.not_false, Bool.false_eq_true, Bool.true_eq_false, reduceCtorEq, true_and, and_true, if_true, if_false, decide_true, decide_false, isOk, isA, String.reduceBEq, turn_f, cut_1, k_zipLL, k_zipTT, k_zipTL, e_isN, e_isNot, isNo, beq_self_eq_true, bne_self_eq_false, e_eqB, e_neB, e_eqX, List.any_cons, List.any_nil, Bool.or_true, Bool.true_or, Bool.or_self, reduceIte, Bool.or_false, Bool.false_or, ri0, rt0, ri1, rt1, ri2, rt2, ri3, rt3, ri4, rt4, ri5, rt5, ri6, rt6, ri7, rt7, ri8, rt8, ri9, rt9, ri10, rt10, ri11, rt11, ri12, rt12, ri13, rt13, ri14, rt14, ri15, rt15, ri16, rt16, ri17, rt17, numB, withinB, h1]
      · simp only [↓u_C, ↓u_nil, ↓u_cons, ↓u_tup, ↓u_lst, ↓u_op, ↓u_and, ↓u_or, ↓u_test, ↓u_not, ↓u_notT, ↓u_andT, ↓u_orT, ↓u_ifE, ↓u_chain, ↓k_chT, ↓k_chF, ↓u_CB, ↓u_isi, ↓u_sl, ↓u_noPart, ↓u_part, ↓u_seq, ↓u_next, ↓u_retN, ↓u_bk, ↓u_ct, ↓u_drop, ↓u_ret, ↓u_if, ↓u_asg, ↓u_par, ↓u_prepN, ↓u_prepD, ↓u_prepO, ↓u_allN, ↓u_allC, ↓u_for, ↓u_loopN, ↓u_loopC, ↓u_it, ↓u_stoD, ↓u_stoN, ↓u_stosN, ↓u_stosC, ↓u_range1, ↓u_enum, ↓u_lc, ↓u_lcN, ↓u_lcC, ↓u_yes, ↓u_call, ↓u_argN, ↓u_argD, ↓u_argM, ↓u_argO, ↓u_argT, ↓u_backN, ↓u_backC, ↓u_fn, ↓k_fnO, ↓u_gtupD, ↓u_gtupN, ↓u_gtupL, ↓u_gtupT, ↓u_gN, ↓u_gC, ↓k_subL, ↓u_meth, ↓u_append, ↓u_popAt, ↓u_ixD, ↓u_ixN, ↓u_ixT, ↓u_ixS, ↓u_ixX, ↓u_mod, ↓u_div, ↓u_pow, ↓u_mul, ↓u_lenX, ↓u_lenL, ↓u_lenT, ↓u_lenC, ↓u_lenN, ↓u_addS, ↓u_isiD, ↓u_isiN, ↓u_zip, ↓u_argL, ↓u_argV, ↓u_dc, ↓u_dcN, ↓u_dcC, ↓k_dcX, ↓u_turn, ↓u_neg, ↓u_frz, ↓u_stoT, ↓u_stoL, ↓u_mulT, ↓u_addT, ↓u_listT, ↓u_listL, ↓u_slT, ↓rn_bind, ↓rn_some, ↓rn_iteT, ↓rn_iteF, ↓rv0, ↓ro0, ↓rb0, ↓rn0, ↓rs0, ↓rl0, ↓ra0, ↓rk0, ↓rx0, ↓rg0, ↓rh0, ↓rp0, ↓rv1, ↓ro1, ↓rb1, ↓rn1, ↓rs1, ↓rl1, ↓ra1, ↓rk1, ↓rx1, ↓rg1, ↓rh1, ↓rp1, ↓rv2, ↓ro2, ↓rb2, ↓rn2, ↓rs2, ↓rl2, ↓ra2, ↓rk2, ↓rx2, ↓rg2, ↓rh2, ↓rp2, ↓rv3, ↓ro3, ↓rb3, ↓rn3, ↓rs3, ↓rl3, ↓ra3, ↓rk3, ↓rx3, ↓rg3, ↓rh3, ↓rp3, ↓rv4, ↓ro4, ↓rb4, ↓rn4, ↓rs4, ↓rl4, ↓ra4, ↓rk4, ↓rx4, ↓rg4, ↓rh4, ↓rp4, ↓rv5, ↓ro5, ↓rb5, ↓rn5, ↓rs5, ↓rl5, ↓ra5, ↓rk5, ↓rx5, ↓rg5, ↓rh5, ↓rp5, ↓rv6, ↓ro6, ↓rb6, ↓rn6, ↓rs6, ↓rl6, ↓ra6, ↓rk6, ↓rx6, ↓rg6, ↓rh6, ↓rp6, ↓rv7, ↓ro7, ↓rb7, ↓rn7, ↓rs7, ↓rl7, ↓ra7, ↓rk7, ↓rx7, ↓rg7, ↓rh7, ↓rp7, ↓rv8, ↓ro8, ↓rb8, ↓rn8, ↓rs8, ↓rl8, ↓ra8, ↓rk8, ↓rx8, ↓rg8, ↓rh8, ↓rp8, ↓rv9, ↓ro9, ↓rb9, ↓rn9, ↓rs9, ↓rl9, ↓ra9, ↓rk9, ↓rx9, ↓rg9, ↓rh9, ↓rp9, ↓rv10, ↓ro10, ↓rb10, ↓rn10, ↓rs10, ↓rl10, ↓ra10, ↓rk10, ↓rx10, ↓rg10, ↓rh10, ↓rp10, ↓rv11, ↓ro11, ↓rb11, ↓rn11, ↓rs11, ↓rl11, ↓ra11, ↓rk11, ↓rx11, ↓rg11, ↓rh11, ↓rp11, ↓rv12, ↓ro12, ↓rb12, ↓rn12, ↓rs12, ↓rl12, ↓ra12, ↓rk12, ↓rx12, ↓rg12, ↓rh12, ↓rp12, ↓rv13, ↓ro13, ↓rb13, ↓rn13, ↓rs13, ↓rl13, ↓ra13, ↓rk13, ↓rx13, ↓rg13, ↓rh13, ↓rp13, ↓rv14, ↓ro14, ↓rb14, ↓rn14, ↓rs14, ↓rl14, ↓ra14, ↓rk14, ↓rx14, ↓rg14, ↓rh14, ↓rp14, ↓rv15, ↓ro15, ↓rb15, ↓rn15, ↓rs15, ↓rl15, ↓ra15, ↓rk15, ↓rx15, ↓rg15, ↓rh15, ↓rp15, ↓rv16, ↓ro16, ↓rb16, ↓rn16, ↓rs16, ↓rl16, ↓ra16, ↓rk16, ↓rx16, ↓rg16, ↓rh16, ↓rp16, ↓rv17, ↓ro17, ↓rb17, ↓rn17, ↓rs17, ↓rl17, ↓ra17, ↓rk17, ↓rx17, ↓rg17, ↓rh17, ↓rp17, rn_some, k_andT, k_andF, k_orT, k_orF, k_B, k_int, k_seqN, k_seqR, k_seqB, k_seqC, k_loopN, k_loopR, k_enum, k_fnN, k_fnD, k_fnNew, e_addI, e_subI, e_ltI, e_leI, e_gtI, e_geI, e_eqI, e_neI, e_abs, e_intI, e_intB, e_at0, e_at1, e_at2, e_ix30, e_ix32, List.set_cons_zero, List.set_cons_succ, f1, List.length_cons, List.length_nil, List.all_cons, List.all_nil, cold, hots, hot, List.map_cons, List.map_nil, List.cons_append, List.nil_append, List.append_nil, List.replicate_succ, List.replicate_zero, List.take_succ_cons, List.take_zero, wipeS, backS, noOwn, Nat.reduceAdd, Nat.reduceSub, Nat.reduceLeDiff, Nat.reduceEqDiff, Bool.and_true, Bool.true_and, Bool.and_false, Bool.false_and, Bool.not_true, Bool.not_false, Bool.false_eq_true, Bool.true_eq_false, reduceCtorEq, true_and, and_true, if_true, if_false, decide_true, decide_false, isOk, isA, String.reduceBEq, turn_f, cut_1, k_zipLL, k_zipTT, k_zipTL, e_isN, e_isNot, isNo, beq_self_eq_true, bne_self_eq_false, e_eqB, e_neB, e_eqX, List.any_cons, List.any_nil, Bool.or_true, Bool.true_or, Bool.or_self, reduceIte, Bool.or_false, Bool.false_or, ri0, rt0, ri1, rt1, ri2, rt2, ri3, rt3, ri4, rt4, ri5, rt5, ri6, rt6, ri7, rt7, ri8, rt8, ri9, rt9, ri10, rt10, ri11, rt11, ri12, rt12, ri13, rt13, ri14, rt14, ri15, rt15, ri16, rt16, ri17, rt17, numB, withinB, h1]
    | _ => simp only [↓u_C, ↓u_nil, ↓u_cons, ↓u_tup, ↓u_lst, ↓u_op, ↓u_and, ↓u_or, ↓u_test, ↓u_not, ↓u_notT, ↓u_andT, ↓u_orT, ↓u_ifE, ↓u_chain, ↓k_chT, ↓k_chF, ↓u_CB, ↓u_isi, ↓u_sl, ↓u_noPart, ↓u_part, ↓u_seq, ↓u_next, ↓u_retN, ↓u_bk, ↓u_ct, ↓u_drop, ↓u_ret, ↓u_if, ↓u_asg, ↓u_par, ↓u_prepN, ↓u_prepD, ↓u_prepO, ↓u_allN, ↓u_allC, ↓u_for, ↓u_loopN, ↓u_loopC, ↓u_it, ↓u_stoD, ↓u_stoN, ↓u_stosN, ↓u_stosC, ↓u_range1, ↓u_enum, ↓u_lc, ↓u_lcN, ↓u_lcC, ↓u_yes, ↓u_call, ↓u_argN, ↓u_argD, ↓u_argM, ↓u_argO, ↓u_argT, ↓u_backN, ↓u_backC, ↓u_fn, ↓k_fnO, ↓u_gtupD, ↓u_gtupN, ↓u_gtupL, ↓u_gtupT, ↓u_gN, ↓u_gC, ↓k_subL, ↓u_meth, ↓u_append, ↓u_popAt, ↓u_ixD, ↓u_ixN, ↓u_ixT, ↓u_ixS, ↓u_ixX, ↓u_mod, ↓u_div, ↓u_pow, ↓u_mul, ↓u_lenX, ↓u_lenL, ↓u_lenT, ↓u_lenC, ↓u_lenN, ↓u_addS, ↓u_isiD, ↓u_isiN, ↓u_zip, ↓u_argL, ↓u_argV, ↓u_dc, ↓u_dcN, ↓u_dcC, ↓k_dcX, ↓u_turn, ↓u_neg, ↓u_frz, ↓u_stoT, ↓u_stoL, ↓u_mulT, ↓u_addT, ↓u_listT, ↓u_listL, ↓u_slT, ↓rn_bind, ↓rn_some, ↓rn_iteT, ↓rn_iteF, ↓rv0, ↓ro0, ↓rb0, ↓rn0, ↓rs0, ↓rl0, ↓ra0, ↓rk0, ↓rx0, ↓rg0, ↓rh0, ↓rp0, ↓rv1, ↓ro1, ↓rb1, ↓rn1, ↓rs1, ↓rl1, ↓ra1, ↓rk1, ↓rx1, ↓rg1, ↓rh1, ↓rp1, ↓rv2, ↓ro2, ↓rb2, ↓rn2, ↓rs2, ↓rl2, ↓ra2, ↓rk2, ↓rx2, ↓rg2, ↓rh2, ↓rp2, ↓rv3, ↓ro3, ↓rb3, ↓rn3, ↓rs3, ↓rl3, ↓ra3, ↓rk3, ↓rx3, ↓rg3, ↓rh3, ↓rp3, ↓rv4, ↓ro4, ↓rb4, ↓rn4, ↓rs4, ↓rl4, ↓ra4, ↓rk4, ↓rx4, ↓rg4, ↓rh4, ↓rp4, ↓rv5, ↓ro5, ↓rb5, ↓rn5, ↓rs5, ↓rl5, ↓ra5, ↓rk5, ↓rx5, ↓rg5, ↓rh5, ↓rp5, ↓rv6, ↓ro6, ↓rb6, ↓rn6, ↓rs6, ↓rl6, ↓ra6, ↓rk6, ↓rx6, ↓rg6, ↓rh6, ↓rp6, ↓rv7, ↓ro7, ↓rb7, ↓rn7, ↓rs7, ↓rl7, ↓ra7, ↓rk7, ↓rx7, ↓rg7, ↓rh7, ↓rp7, ↓rv8, ↓ro8, ↓rb8, ↓rn8, ↓rs8, ↓rl8, ↓ra8, ↓rk8, ↓rx8, ↓rg8, ↓rh8, ↓rp8, ↓rv9, ↓ro9, ↓rb9, ↓rn9, ↓rs9, ↓rl9, ↓ra9, ↓rk9, ↓rx9, ↓rg9, ↓rh9, ↓rp9, ↓rv10, ↓ro10, ↓rb10, ↓rn10, ↓rs10, ↓rl10, ↓ra10, ↓rk10, ↓rx10, ↓rg10, ↓rh10, ↓rp10, ↓rv11, ↓ro11, ↓rb11, ↓rn11, ↓rs11, ↓rl11, ↓ra11, ↓rk11, ↓rx11, ↓rg11, ↓rh11, ↓rp11, ↓rv12, ↓ro12, ↓rb12, ↓rn12, ↓rs12, ↓rl12, ↓ra12, ↓rk12, ↓rx12, ↓rg12, ↓rh12, ↓rp12, ↓rv13, ↓ro13, ↓rb13, ↓rn13, ↓rs13, ↓rl13, ↓ra13, ↓rk13, ↓rx13, ↓rg13, ↓rh13, ↓rp13, ↓rv14, ↓ro14, ↓rb14, ↓rn14, ↓rs14, ↓rl14, ↓ra14, ↓rk14, ↓rx14, ↓rg14, ↓rh14, ↓rp14, ↓rv15, ↓ro15, ↓rb15, ↓rn15, ↓rs15, ↓rl15, ↓ra15, ↓rk15, ↓rx15, ↓rg15, ↓rh15, ↓rp15, ↓rv16, ↓ro16, ↓rb16, ↓rn16, ↓rs16, ↓rl16, ↓ra16, ↓rk16, ↓rx16, ↓rg16, ↓rh16, ↓rp16, ↓rv17, ↓ro17, ↓rb17, ↓rn17, ↓rs17, ↓rl17, ↓ra17, ↓rk17, ↓rx17, ↓rg17, ↓rh17, ↓rp17, rn_some, k_andT, k_andF, k_orT, k_orF, k_B, k_int, k_seqN, k_seqR, k_seqB, k_seqC, k_loopN, k_loopR, k_enum, k_fnN, k_fnD, k_fnNew, e_addI, e_subI, e_ltI, e_leI, e_gtI, e_geI, e_eqI, e_neI, e_abs, e_intI, e_intB, e_at0, e_at1, e_at2, e_ix30, e_ix32, List.set_cons_zero, List.set_cons_succ, f1, List.length_cons, List.length_nil, List.all_cons, List.all_nil, cold, hots, hot, List.map_cons, List.map_nil, List.cons_append, List.nil_append, List.append_nil, List.replicate_succ, List.replicate_zero, List.take_succ_cons, List.take_zero, wipeS, backS, noOwn, Nat.reduceAdd, Nat.reduceSub, Nat.reduceLeDiff, Nat.reduceEqDiff, Bool.and_true, Bool.true_and, Bool.and_false, Bool.false_and, Bool.not_true, Bool.not_false, Bool.false_eq_true, Bool.true_eq_false, reduceCtorEq, true_and, and_true, if_true, if_false, decide_true, decide_false, isOk, isA, String.reduceBEq, turn_f, cut_1, k_zipLL, k_zipTT, k_zipTL, e_isN, e_isNot, isNo, beq_self_eq_true, bne_self_eq_false, e_eqB, e_neB, e_eqX, List.any_cons, List.any_nil, Bool.or_true, Bool.true_or, Bool.or_self, reduceIte, Bool.or_false, Bool.false_or, ri0, rt0, ri1, rt1, ri2, rt2, ri3, rt3, ri4, rt4, ri5, rt5, ri6, rt6, ri7, rt7, ri8, rt8, ri9, rt9, ri10, rt10, ri11, rt11, ri12, rt12, ri13, rt13, ri14, rt14, ri15, rt15, ri16, rt16, ri17, rt17, numB, withinB]
  obtain ⟨a, e, rfl⟩ := main
  exact e
theorem is_item_eq (h : isOk d = true) : w_is_item [.dat d] = some (.d (.bl (withinB d 0 999999)), [.dat d]) := by
  have main : Rn (w_is_item [.dat d]) fun p => p = (.d (.bl (withinB d 0 999999)), [.dat d]) := by
    unfold w_is_item
    have e := is_within_eq (lo := 0) (hi := 999999) h
    simp only [↓u_C, ↓u_nil, ↓u_cons, ↓u_tup, ↓u_lst, ↓u_op, ↓u_and, ↓u_or, ↓u_test, ↓u_not, ↓u_notT, ↓u_andT, ↓u_orT, ↓u_ifE, ↓u_chain, ↓k_chT, ↓k_chF, ↓u_CB, ↓u_isi, ↓u_sl, ↓u_noPart, ↓u_part, ↓u_seq, ↓u_next, ↓u_retN, ↓u_bk, ↓u_ct, ↓u_drop, ↓u_ret, ↓u_if, ↓u_asg, ↓u_par, ↓u_prepN, ↓u_prepD, ↓u_prepO, ↓u_allN, ↓u_allC, ↓u_for, ↓u_loopN, ↓u_loopC, ↓u_it, ↓u_stoD, ↓u_stoN, ↓u_stosN, ↓u_stosC, ↓u_range1, ↓u_enum, ↓u_lc, ↓u_lcN, ↓u_lcC, ↓u_yes, ↓u_call, ↓u_argN, ↓u_argD, ↓u_argM, ↓u_argO, ↓u_argT, ↓u_backN, ↓u_backC, ↓u_fn, ↓k_fnO, ↓u_gtupD, ↓u_gtupN, ↓u_gtupL, ↓u_gtupT, ↓u_gN, ↓u_gC, ↓k_subL, ↓u_meth, ↓u_append, ↓u_popAt, ↓u_ixD, ↓u_ixN, ↓u_ixT, ↓u_ixS, ↓u_ixX, ↓u_mod, ↓u_div, ↓u_pow, ↓u_mul, ↓u_lenX, ↓u_lenL, ↓u_lenT, ↓u_lenC, ↓u_lenN, ↓u_addS, ↓u_isiD, ↓u_isiN, ↓u_zip, ↓u_argL, ↓u_argV, ↓u_dc, ↓u_dcN, ↓u_dcC, ↓k_dcX, ↓u_turn, ↓u_neg, ↓u_frz, ↓u_stoT, ↓u_stoL, ↓u_mulT, ↓u_addT, ↓u_listT, ↓u_listL, ↓u_slT, ↓rn_bind, ↓rn_some, ↓rn_iteT, ↓rn_iteF, ↓rv0, ↓ro0, ↓rb0, ↓rn0, ↓rs0, ↓rl0, ↓ra0, ↓rk0, ↓rx0, ↓rg0, ↓rh0, ↓rp0, ↓rv1, ↓ro1, ↓rb1, ↓rn1, ↓rs1, ↓rl1, ↓ra1, ↓rk1, ↓rx1, ↓rg1, ↓rh1, ↓rp1, ↓rv2, ↓ro2, ↓rb2, ↓rn2, ↓rs2, ↓rl2, ↓ra2, ↓rk2, ↓rx2, ↓rg2, ↓rh2, ↓rp2, ↓rv3, ↓ro3, ↓rb3, ↓rn3, ↓rs3, ↓rl3, ↓ra3, ↓rk3, ↓rx3, ↓rg3, ↓rh3, ↓rp3, ↓rv4, ↓ro4, ↓rb4, ↓rn4, ↓rs4, ↓rl4, ↓ra4, ↓rk4, ↓rx4, ↓rg4, ↓rh4, ↓rp4, ↓rv5, ↓ro5, ↓rb5, ↓rn5, ↓rs5, ↓rl5, ↓ra5, ↓rk5, ↓rx5, ↓rg5, ↓rh5, ↓rp5, ↓rv6, ↓ro6, ↓rb6, ↓rn6, ↓rs6, ↓rl6, ↓ra6, ↓rk6, ↓rx6, ↓rg6, ↓rh6, ↓rp6, ↓rv7, ↓ro7, ↓rb7, ↓rn7, ↓rs7, ↓rl7, ↓ra7, ↓rk7, ↓rx7, ↓rg7, ↓rh7, ↓rp7, ↓rv8, ↓ro8, ↓rb8, ↓rn8, ↓rs8, ↓rl8, ↓ra8, ↓rk8, ↓rx8, ↓rg8, ↓rh8, ↓rp8, ↓rv9, ↓ro9, ↓rb9, ↓rn9, ↓rs9, ↓rl9, ↓ra9, ↓rk9, ↓rx9, ↓rg9, ↓rh9, ↓rp9, ↓rv10, ↓ro10, ↓rb10, ↓rn10, ↓rs10, ↓rl10, ↓ra10, ↓rk10, ↓rx10, ↓rg10, ↓rh10, ↓rp10, ↓rv11, ↓ro11, ↓rb11, ↓rn11, ↓rs11, ↓rl11, ↓ra11, ↓rk11, ↓rx11, ↓rg11, ↓rh11, ↓rp11, ↓rv12, ↓ro12, ↓rb12, ↓rn12, ↓rs12, ↓rl12, ↓ra12, ↓rk12, ↓rx12, ↓rg12, ↓rh12, ↓rp12, ↓rv13, ↓ro13, ↓rb13, ↓rn13, ↓rs13, ↓rl13, ↓ra13, ↓rk13, ↓rx13, ↓rg13, ↓rh13, ↓rp13, ↓rv14, ↓ro14, ↓rb14, ↓rn14, ↓rs14, ↓rl14, ↓ra14, ↓rk14, ↓rx14, ↓rg14, ↓rh14, ↓rp14, ↓rv15, ↓ro15, ↓rb15, ↓rn15, ↓rs15, ↓rl15, ↓ra15, ↓rk15, ↓rx15, ↓rg15, ↓rh15, ↓rp15, ↓rv16, ↓ro16, ↓rb16, ↓rn16, ↓rs16, ↓rl16, ↓ra16, ↓rk16, ↓rx16, ↓rg16, ↓rh16, ↓rp16, ↓rv17, ↓ro17, ↓rb17, ↓rn17, ↓rs17, ↓rl17, ↓ra17, ↓rk17, ↓rx17, ↓rg17, ↓rh17, ↓rp17, rn_some, k_andT, k_andF, k_orT, k_orF, k_B, k_int, k_seqN, k_seqR, k_seqB, k_seqC, k_loopN, k_loopR, k_enum, k_fnN, k_fnD, k_fnNew, e_addI, e_subI, e_ltI, e_leI, e_gtI, e_geI, e_eqI, e_neI, e_abs, e_intI, e_intB, e_at0, e_at1, e_at2, e_ix30, e_ix32, List.set_cons_zero, List.set_cons_succ, f1, List.length_cons, List.length_nil, List.all_cons, List.all_nil, cold, hots, hot, List.map_cons, List.map_nil, List.cons_append, List.nil_append, List.append_nil, List.replicate_succ, List.replicate_zero, List.take_succ_cons, List.take_zero, wipeS, backS, noOwn, Nat.reduceAdd, Nat.reduceSub, Nat.reduceLeDiff, Nat.reduceEqDiff, Bool.and_true, Bool.true_and, Bool.and_false, Bool.false_and, Bool.not_true, Bool.not_false, Bool.false_eq_true, Bool.true_eq_false, reduceCtorEq, true_and, and_true, if_true, if_false, decide_true, decide_false, isOk, isA, String.reduceBEq, turn_f, cut_1, k_zipLL, k_zipTT, k_zipTL, e_isN, e_isNot, isNo, beq_self_eq_true, bne_self_eq_false, e_eqB, e_neB, e_eqX, List.any_cons, List.any_nil, Bool.or_true, Bool.true_or, Bool.or_self, reduceIte, Bool.or_false, Bool.false_or, ri0, rt0, ri1, rt1, ri2, rt2, ri3, rt3, ri4, rt4, ri5, rt5, ri6, rt6, ri7, rt7, ri8, rt8, ri9, rt9, ri10, rt10, ri11, rt11, ri12, rt12, ri13, rt13, ri14, rt14, ri15, rt15, ri16, rt16, ri17, rt17, Int.reduceSub, ↓rn_of e]
  obtain ⟨a, e, rfl⟩ := main
  exact e
theorem is_place_eq (h : isOk d = true) : w_is_place [.dat d] = some (.d (.bl (withinB d 0 3)), [.dat d]) := by
  have main : Rn (w_is_place [.dat d]) fun p => p = (.d (.bl (withinB d 0 3)), [.dat d]) := by
    unfold w_is_place
    have e := is_within_eq (lo := 0) (hi := 3) h
    simp only [↓u_C, ↓u_nil, ↓u_cons, ↓u_tup, ↓u_lst, ↓u_op, ↓u_and, ↓u_or, ↓u_test, ↓u_not, ↓u_notT, ↓u_andT, ↓u_orT, ↓u_ifE, ↓u_chain, ↓k_chT, ↓k_chF, ↓u_CB, ↓u_isi, ↓u_sl, ↓u_noPart, ↓u_part, ↓u_seq, ↓u_next, ↓u_retN, ↓u_bk, ↓u_ct, ↓u_drop, ↓u_ret, ↓u_if, ↓u_asg, ↓u_par, ↓u_prepN, ↓u_prepD, ↓u_prepO, ↓u_allN, ↓u_allC, ↓u_for, ↓u_loopN, ↓u_loopC, ↓u_it, ↓u_stoD, ↓u_stoN, ↓u_stosN, ↓u_stosC, ↓u_range1, ↓u_enum, ↓u_lc, ↓u_lcN, ↓u_lcC, ↓u_yes, ↓u_call, ↓u_argN, ↓u_argD, ↓u_argM, ↓u_argO, ↓u_argT, ↓u_backN, ↓u_backC, ↓u_fn, ↓k_fnO, ↓u_gtupD, ↓u_gtupN, ↓u_gtupL, ↓u_gtupT, ↓u_gN, ↓u_gC, ↓k_subL, ↓u_meth, ↓u_append, ↓u_popAt, ↓u_ixD, ↓u_ixN, ↓u_ixT, ↓u_ixS, ↓u_ixX, ↓u_mod, ↓u_div, ↓u_pow, ↓u_mul, ↓u_lenX, ↓u_lenL, ↓u_lenT, ↓u_lenC, ↓u_lenN, ↓u_addS, ↓u_isiD, ↓u_isiN, ↓u_zip, ↓u_argL, ↓u_argV, ↓u_dc, ↓u_dcN, ↓u_dcC, ↓k_dcX, ↓u_turn, ↓u_neg, ↓u_frz, ↓u_stoT, ↓u_stoL, ↓u_mulT, ↓u_addT, ↓u_listT, ↓u_listL, ↓u_slT, ↓rn_bind, ↓rn_some, ↓rn_iteT, ↓rn_iteF, ↓rv0, ↓ro0, ↓rb0, ↓rn0, ↓rs0, ↓rl0, ↓ra0, ↓rk0, ↓rx0, ↓rg0, ↓rh0, ↓rp0, ↓rv1, ↓ro1, ↓rb1, ↓rn1, ↓rs1, ↓rl1, ↓ra1, ↓rk1, ↓rx1, ↓rg1, ↓rh1, ↓rp1, ↓rv2, ↓ro2, ↓rb2, ↓rn2, ↓rs2, ↓rl2, ↓ra2, ↓rk2, ↓rx2, ↓rg2, ↓rh2, ↓rp2, ↓rv3, ↓ro3, ↓rb3, ↓rn3, ↓rs3, ↓rl3, ↓ra3, ↓rk3, ↓rx3, ↓rg3, ↓rh3, ↓rp3, ↓rv4, ↓ro4, ↓rb4, ↓rn4, ↓rs4, ↓rl4, ↓ra4, ↓rk4, ↓rx4, ↓rg4, ↓rh4, ↓rp4, ↓rv5, ↓ro5, ↓rb5, ↓rn5, ↓rs5, ↓rl5, ↓ra5, ↓rk5, ↓rx5, ↓rg5, ↓rh5, ↓rp5, ↓rv6, ↓ro6, ↓rb6, ↓rn6, ↓rs6, ↓rl6, ↓ra6, ↓rk6, ↓rx6, ↓rg6, ↓rh6, ↓rp6, ↓rv7, ↓ro7, ↓rb7, ↓rn7, ↓rs7, ↓rl7, ↓ra7, ↓rk7, ↓rx7, ↓rg7, ↓rh7, ↓rp7, ↓rv8, ↓ro8, ↓rb8, ↓rn8, ↓rs8, ↓rl8, ↓ra8, ↓rk8, ↓rx8, ↓rg8, ↓rh8, ↓rp8, ↓rv9, ↓ro9, ↓rb9, ↓rn9, ↓rs9, ↓rl9, ↓ra9, ↓rk9, ↓rx9, ↓rg9, ↓rh9, ↓rp9, ↓rv10, ↓ro10, ↓rb10, ↓rn10, ↓rs10, ↓rl10, ↓ra10, ↓rk10, ↓rx10, ↓rg10, ↓rh10, ↓rp10, ↓rv11, ↓ro11, ↓rb11, ↓rn11, ↓rs11, ↓rl11, ↓ra11, ↓rk11, ↓rx11, ↓rg11, ↓rh11, ↓rp11, ↓rv12, ↓ro12, ↓rb12, ↓rn12, ↓rs12, ↓rl12, ↓ra12, ↓rk12, ↓rx12, ↓rg12, ↓rh12, ↓rp12, ↓rv13, ↓ro13, ↓rb13, ↓rn13, ↓rs13, ↓rl13, ↓ra13, ↓rk13, ↓rx13, ↓rg13, ↓rh13, ↓rp13, ↓rv14, ↓ro14, ↓rb14, ↓rn14, ↓rs14, ↓rl14, ↓ra14, ↓rk14, ↓rx14, ↓rg14, ↓rh14, ↓rp14, ↓rv15, ↓ro15, ↓rb15, ↓rn15, ↓rs15, ↓rl15, ↓ra15, ↓rk15, ↓rx15, ↓rg15, ↓rh15, ↓rp15, ↓rv16, ↓ro16, ↓rb16, ↓rn16, ↓rs16, ↓rl16, ↓ra16, ↓rk16, ↓rx16, ↓rg16, ↓rh16, ↓rp16, ↓rv17, ↓ro17, ↓rb17, ↓rn17, ↓rs17, ↓rl17, ↓ra17, ↓rk17, ↓rx17, ↓rg17, ↓rh17, ↓rp17, rn_some, k_andT, k_andF, k_orT, k_orF, k_B, k_int, k_seqN, k_seqR, k_seqB, k_seqC, k_loopN, k_loopR, k_enum, k_fnN, k_fnD, k_fnNew, e_addI, e_subI, e_ltI, e_leI, e_gtI, e_geI, e_eqI, e_neI, e_abs, e_intI, e_intB, e_at0, e_at1, e_at2, e_ix30, e_ix32, List.set_cons_zero, List.set_cons_succ, f1, List.length_cons, List.length_nil, List.all_cons, List.all_nil, cold, hots, hot, List.map_cons, List.map_nil, List.cons_append, List.nil_append, List.append_nil, List.replicate_succ, List.replicate_zero, List.take_succ_cons, List.take_zero, wipeS, backS, noOwn, Nat.reduceAdd, Nat.reduceSub, Nat.reduceLeDiff, Nat.reduceEqDiff, Bool.and_true, Bool.true_and, Bool.and_false, Bool.false_and, Bool.not_true, Bool.not_false, Bool.false_eq_true, Bool.true_eq_false, reduceCtorEq, true_and, and_true, if_true, if_false, decide_true, decide_false, isOk, isA, String.reduceBEq, turn_f, cut_1, k_zipLL, k_zipTT, k_zipTL, e_isN, e_isNot, isNo, beq_self_eq_true, bne_self_eq_false, e_eqB, e_neB, e_eqX, List.any_cons, List.any_nil, Bool.or_true, Bool.true_or, Bool.or_self, reduceIte, Bool.or_false, Bool.false_or, ri0, rt0, ri1, rt1, ri2, rt2, ri3, rt3, ri4, rt4, ri5, rt5, ri6, rt6, ri7, rt7, ri8, rt8, ri9, rt9, ri10, rt10, ri11, rt11, ri12, rt12, ri13, rt13, ri14, rt14, ri15, rt15, ri16, rt16, ri17, rt17, Int.reduceSub, ↓rn_of e]
  obtain ⟨a, e, rfl⟩ := main
  exact e
theorem is_tuple_eq {lo hi : Int} (h : isOk d = true) : w_is_tuple [.dat d, .dat (.int lo), .dat (.int hi)] = some (.d (.bl (tupB d lo hi)), [.dat d, .dat (.int lo), .dat (.int hi)]) := by
  have main : Rn (w_is_tuple [.dat d, .dat (.int lo), .dat (.int hi)]) fun p => p = (.d (.bl (tupB d lo hi)), [.dat d, .dat (.int lo), .dat (.int hi)]) := by
    unfold w_is_tuple
    cases d with
    | dct _ => cases h
    | fn _ => cases h
    | tab _ => cases h
    | tup ds =>
      by_cases h1 : lo ≤ (ds.length : Int)
      · simp only [↓u_C, ↓u_nil, ↓u_cons, ↓u_tup, ↓u_lst, ↓u_op, ↓u_and, ↓u_or, ↓u_test, ↓u_not, ↓u_notT, ↓u_andT, ↓u_orT, ↓u_ifE, ↓u_chain, ↓k_chT, ↓k_chF, ↓u_CB, ↓u_isi, ↓u_sl, ↓u_noPart, ↓u_part, ↓u_seq, ↓u_next, ↓u_retN, ↓u_bk, ↓u_ct, ↓u_drop, ↓u_ret, ↓u_if, ↓u_asg, ↓u_par, ↓u_prepN, ↓u_prepD, ↓u_prepO, ↓u_allN, ↓u_allC, ↓u_for, ↓u_loopN, ↓u_loopC, ↓u_it, ↓u_stoD, ↓u_stoN, ↓u_stosN, ↓u_stosC, ↓u_range1, ↓u_enum, ↓u_lc, ↓u_lcN, ↓u_lcC, ↓u_yes, ↓u_call, ↓u_argN, ↓u_argD, ↓u_argM, ↓u_argO, ↓u_argT, ↓u_backN, ↓u_backC, ↓u_fn, ↓k_fnO, ↓u_gtupD, ↓u_gtupN, ↓u_gtupL, ↓u_gtupT, ↓u_gN, ↓u_gC, ↓k_subL, ↓u_meth, ↓u_append, ↓u_popAt, ↓u_ixD, ↓u_ixN, ↓u_ixT, ↓u_ixS, ↓u_ixX, ↓u_mod, ↓u_div, ↓u_pow, ↓u_mul, ↓u_lenX, ↓u_lenL, ↓u_lenT, ↓u_lenC, ↓u_lenN, ↓u_addS, ↓u_isiD, ↓u_isiN, ↓u_zip, ↓u_argL, ↓u_argV, ↓u_dc, ↓u_dcN, ↓u_dcC, ↓k_dcX, ↓u_turn, ↓u_neg, ↓u_frz, ↓u_stoT, ↓u_stoL, ↓u_mulT, ↓u_addT, ↓u_listT, ↓u_listL, ↓u_slT, ↓rn_bind, ↓rn_some, ↓rn_iteT, ↓rn_iteF, ↓rv0, ↓ro0, ↓rb0, ↓rn0, ↓rs0, ↓rl0, ↓ra0, ↓rk0, ↓rx0, ↓rg0, ↓rh0, ↓rp0, ↓rv1, ↓ro1, ↓rb1, ↓rn1, ↓rs1, ↓rl1, ↓ra1, ↓rk1, ↓rx1, ↓rg1, ↓rh1, ↓rp1, ↓rv2, ↓ro2, ↓rb2, ↓rn2, ↓rs2, ↓rl2, ↓ra2, ↓rk2, ↓rx2, ↓rg2, ↓rh2, ↓rp2, ↓rv3, ↓ro3, ↓rb3, ↓rn3, ↓rs3, ↓rl3, ↓ra3, ↓rk3, ↓rx3, ↓rg3, ↓rh3, ↓rp3, ↓rv4, ↓ro4, ↓rb4, ↓rn4, ↓rs4, ↓rl4, ↓ra4, ↓rk4, ↓rx4, ↓rg4, ↓rh4, ↓rp4, ↓rv5, ↓ro5, ↓rb5, ↓rn5, ↓rs5, ↓rl5, ↓ra5, ↓rk5, ↓rx5, ↓rg5, ↓rh5, ↓rp5, ↓rv6, ↓ro6, ↓rb6, ↓rn6, ↓rs6, ↓rl6, ↓ra6, ↓rk6, ↓rx6, ↓rg6, ↓rh6, ↓rp6, ↓rv7, ↓ro7, ↓rb7, ↓rn7, ↓rs7, ↓rl7, ↓ra7, ↓rk7, ↓rx7, ↓rg7, ↓rh7, ↓rp7, ↓rv8, ↓ro8, ↓rb8, ↓rn8, ↓rs8, ↓rl8, ↓ra8, ↓rk8, ↓rx8, ↓rg8, ↓rh8, ↓rp8, ↓rv9, ↓ro9, ↓rb9, ↓rn9, ↓rs9, ↓rl9, ↓ra9, ↓rk9, ↓rx9, ↓rg9, ↓rh9, ↓rp9, ↓rv10, ↓ro10, ↓rb10, ↓rn10, ↓rs10, ↓rl10, ↓ra10, ↓rk10, ↓rx10, ↓rg10, ↓rh10, ↓rp10, ↓rv11, ↓ro11, ↓rb11, ↓rn11, ↓rs11, ↓rl11, ↓ra11, ↓rk11, ↓rx11, ↓rg11, ↓rh11, ↓rp11, ↓rv12, ↓ro12, ↓rb12, ↓rn12, ↓rs12, ↓rl12, ↓ra12, ↓rk12, ↓rx12, ↓rg12, ↓rh12, ↓rp12, ↓rv13, ↓ro13, ↓rb13, ↓rn13, ↓rs13, ↓rl13, ↓ra13, ↓rk13, ↓rx13, ↓rg13, ↓rh13, ↓rp13, ↓rv14, ↓ro14, ↓rb14, ↓rn14, ↓rs14, ↓rl14, ↓ra14, ↓rk14, ↓rx14, ↓rg14, ↓rh14, ↓rp14, ↓rv15, ↓ro15, ↓rb15, ↓rn15, ↓rs15, ↓rl15, ↓ra15, ↓rk15, ↓rx15, ↓rg15, ↓rh15, ↓rp15, ↓rv16, ↓ro16, ↓rb16, ↓rn16, ↓rs16, ↓rl16, ↓ra16, ↓rk16, ↓rx16, ↓rg16, ↓rh16, ↓rp16, ↓rv17, ↓ro17, ↓rb17, ↓rn17, ↓rs17, ↓rl17, ↓ra17, ↓rk17, ↓rx17, ↓rg17, ↓rh17, ↓rp17, rn_some, k_andT, k_andF, k_orT, k_orF, k_B, k_int, k_seqN, k_seqR, k_seqB, k_seqC, k_loopN, k_loopR, k_enum, k_fnN, k_fnD, k_fnNew, e_addI, e_subI, e_ltI, e_leI, e_gtI, e_geI, e_eqI, e_neI, e_abs, e_intI, e_intB, e_at0, e_at1, e_at2, e_ix30, e_ix32, List.set_cons_zero, List.set_cons_succ, f1, List.length_cons, List.length_nil, List.all_cons, List.all_nil, cold, hots, hot, List.map_cons, List.map_nil, List.cons_append, List.nil_append, List.append_nil, List.replicate_succ, List.replicate_zero, List.take_succ_cons, List.take_zero, wipeS, backS, noOwn, Nat.reduceAdd, Nat.reduceSub, Nat.reduceLeDiff, Nat.reduceEqDiff, Bool.and_true, Bool.true_and, Bool.and_false, Bool.false_and, Bool.not_true, Bool.not_false, Bool.false_eq_true, Bool.true_eq_false, reduceCtorEq, true_and, and_true, if_true, if_false, decide_true, decide_false, isOk, isA, String.reduceBEq, turn_f, cut_1, k_zipLL, k_zipTT, k_zipTL, e_isN, e_isNot, isNo, beq_self_eq_true, bne_self_eq_false, e_eqB, e_neB, e_eqX, List.any_cons, List.any_nil, Bool.or_true, Bool.true_or, Bool.or_self, reduceIte, Bool.or_false, Bool.false_or, ri0, rt0, ri1, rt1, ri2, rt2, ri3, rt3, ri4, rt4, ri5, rt5, ri6, rt6, ri7, rt7, ri8, rt8, ri9, rt9, ri10, rt10, ri11, rt11, ri12, rt12, ri13, rt13, ri14, rt14, ri15, rt15, ri16, rt16, ri17, rt17, tupB, h1]
      · simp only [↓u_C, ↓u_nil, ↓u_cons, ↓u_tup, ↓u_lst, ↓u_op, ↓u_and, ↓u_or, ↓u_test, ↓u_not, ↓u_notT, ↓u_andT, ↓u_orT, ↓u_ifE, ↓u_chain, ↓k_chT, ↓k_chF, ↓u_CB, ↓u_isi, ↓u_sl, ↓u_noPart, ↓u_part, ↓u_seq, ↓u_next, ↓u_retN, ↓u_bk, ↓u_ct, ↓u_drop, ↓u_ret, ↓u_if, ↓u_asg, ↓u_par, ↓u_prepN, ↓u_prepD, ↓u_prepO, ↓u_allN, ↓u_allC, ↓u_for, ↓u_loopN, ↓u_loopC, ↓u_it, ↓u_stoD, ↓u_stoN, ↓u_stosN, ↓u_stosC, ↓u_range1, ↓u_enum, ↓u_lc, ↓u_lcN, ↓u_lcC, ↓u_yes, ↓u_call, ↓u_argN, ↓u_argD, ↓u_argM, ↓u_argO, ↓u_argT, ↓u_backN, ↓u_backC, ↓u_fn, ↓k_fnO, ↓u_gtupD, ↓u_gtupN, ↓u_gtupL, ↓u_gtupT, ↓u_gN, ↓u_gC, ↓k_subL, ↓u_meth, ↓u_append, ↓u_popAt, ↓u_ixD, ↓u_ixN, ↓u_ixT, ↓u_ixS, ↓u_ixX, ↓u_mod, ↓u_div, ↓u_pow, ↓u_mul, ↓u_lenX, ↓u_lenL, ↓u_lenT, ↓u_lenC, ↓u_lenN, ↓u_addS, ↓u_isiD, ↓u_isiN, ↓u_zip, ↓u_argL, ↓u_argV, ↓u_dc, ↓u_dcN, ↓u_dcC, ↓k_dcX, ↓u_turn, ↓u_neg, ↓u_frz, ↓u_stoT, ↓u_stoL, ↓u_mulT, ↓u_addT, ↓u_listT, ↓u_listL, ↓u_slT, ↓rn_bind, ↓rn_some, ↓rn_iteT, ↓rn_iteF, ↓rv0, ↓ro0, ↓rb0, ↓rn0, ↓rs0, ↓rl0, ↓ra0, ↓rk0, ↓rx0, ↓rg0, ↓rh0, ↓rp0, ↓rv1, ↓ro1, ↓rb1, ↓rn1, ↓rs1, ↓rl1, ↓ra1, ↓rk1, ↓rx1, ↓rg1, ↓rh1, ↓rp1, ↓rv2, ↓ro2, ↓rb2, ↓rn2, ↓rs2, ↓rl2, ↓ra2, ↓rk2, ↓rx2, ↓rg2, ↓rh2, ↓rp2, ↓rv3, ↓ro3, ↓rb3, ↓rn3, ↓rs3, ↓rl3, ↓ra3, ↓rk3, ↓rx3, ↓rg3, ↓rh3, ↓rp3, ↓rv4, ↓ro4, ↓rb4, ↓rn4, ↓rs4, ↓rl4, ↓ra4, ↓rk4, ↓rx4, ↓rg4, ↓rh4, ↓rp4, ↓rv5, ↓ro5, ↓rb5, ↓rn5, ↓rs5, ↓rl5, ↓ra5, ↓rk5, ↓rx5, ↓rg5, ↓rh5, ↓rp5, ↓rv6, ↓ro6, ↓rb6, ↓rn6, ↓rs6, ↓rl6, ↓ra6, ↓rk6, ↓rx6, ↓rg6, ↓rh6, ↓rp6, ↓rv7, ↓ro7, ↓rb7, ↓rn7, ↓rs7, ↓rl7, ↓ra7, ↓rk7, ↓rx7, ↓rg7, ↓rh7, ↓rp7, ↓rv8, ↓ro8, ↓rb8, ↓rn8, ↓rs8, ↓rl8, ↓ra8, ↓rk8, ↓rx8, ↓rg8, ↓rh8, ↓rp8, ↓rv9, ↓ro9, ↓rb9, ↓rn9, ↓rs9, ↓rl9, ↓ra9, ↓rk9, ↓rx9, ↓rg9, ↓rh9, ↓rp9, ↓rv10, ↓ro10, ↓rb10, ↓rn10, ↓rs10, ↓rl10, ↓ra10, ↓rk10, ↓rx10, ↓rg10, ↓rh10, ↓rp10, ↓rv11, ↓ro11, ↓rb11, ↓rn11, ↓rs11, ↓rl11, ↓ra11, ↓rk11, ↓rx11, ↓rg11, ↓rh11, ↓rp11, ↓rv12, ↓ro12, ↓rb12, ↓rn12, ↓rs12, ↓rl12, ↓ra12, ↓rk12, ↓rx12, ↓rg12, ↓rh12, ↓rp12, ↓rv13, ↓ro13, ↓rb13, ↓rn13, ↓rs13, ↓rl13, ↓ra13, ↓rk13, ↓rx13, ↓rg13, ↓rh13, ↓rp13, ↓rv14, ↓ro14, ↓rb14, ↓rn14, ↓rs14, ↓rl14, ↓ra14, ↓rk14, ↓rx14, ↓rg14, ↓rh14, ↓rp14, ↓rv15, ↓ro15, ↓rb15, ↓rn15, ↓rs15, ↓rl15, ↓ra15, ↓rk15, ↓rx15, ↓rg15, ↓rh15, ↓rp15, ↓rv16, ↓ro16, ↓rb16, ↓rn16, ↓rs16, ↓rl16, ↓ra16, ↓rk16, ↓rx16, ↓rg16, ↓rh16, ↓rp16, ↓rv17, ↓ro17, ↓rb17, ↓rn17, ↓rs17, ↓rl17, ↓ra17, ↓rk17, ↓rx17, ↓rg17, ↓rh17, ↓rp17, rn_some, k_andT, k_andF, k_orT, k_orF, k_B, k_int, k_seqN, k_seqR, k_seqB, k_seqC, k_loopN, k_loopR, k_enum, k_fnN, k_fnD, k_fnNew, e_addI, e_subI, e_ltI, e_leI, e_gtI, e_geI, e_eqI, e_neI, e_abs, e_intI, e_intB, e_at0, e_at1, e_at2, e_ix30, e_ix32, List.set_cons_zero, List.set_cons_succ, f1, List.length_cons, List.length_nil, List.all_cons, List.all_nil, cold, hots, hot, List.map_cons, List.map_nil, List.cons_append, List.nil_append, List.append_nil, List.replicate_succ, List.replicate_zero, List.take_succ_cons, List.take_zero, wipeS, backS, noOwn, Nat.reduceAdd, Nat.reduceSub, Nat.reduceLeDiff, Nat.reduceEqDiff, Bool.and_true, Bool.true_and, Bool.and_false, Bool.false_and, Bool.not_true, Bool.not_false, Bool.false_eq_true, Bool.true_eq_false, reduceCtorEq, true_and, and_true, if_true, if_false, decide_true, decide_false, isOk, isA, String.reduceBEq, turn_f, cut_1, k_zipLL, k_zipTT, k_zipTL, e_isN, e_isNot, isNo, beq_self_eq_true, bne_self_eq_false, e_eqB, e_neB, e_eqX, List.any_cons, List.any_nil, Bool.or_true, Bool.true_or, Bool.or_self, reduceIte, Bool.or_false, Bool.false_or, ri0, rt0, ri1, rt1, ri2, rt2, ri3, rt3, ri4, rt4, ri5, rt5, ri6, rt6, ri7, rt7, ri8, rt8, ri9, rt9, ri10, rt10, ri11, rt11, ri12, rt12, ri13, rt13, ri14, rt14, ri15, rt15, ri16, rt16, ri17, rt17, tupB, h1]
    | _ => simp only [↓u_C, ↓u_nil, ↓u_cons, ↓u_tup, ↓u_lst, ↓u_op, ↓u_and, ↓u_or, ↓u_test, ↓u_not, ↓u_notT, ↓u_andT, ↓u_orT, ↓u_ifE, ↓u_chain, ↓k_chT, ↓k_chF, ↓u_CB, ↓u_isi, ↓u_sl, ↓u_noPart, ↓u_part, ↓u_seq, ↓u_next, ↓u_retN, ↓u_bk, ↓u_ct, ↓u_drop, ↓u_ret, ↓u_if, ↓u_asg, ↓u_par, ↓u_prepN, ↓u_prepD, ↓u_prepO, ↓u_allN, ↓u_allC, ↓u_for, ↓u_loopN, ↓u_loopC, ↓u_it, ↓u_stoD, ↓u_stoN, ↓u_stosN, ↓u_stosC, ↓u_range1, ↓u_enum, ↓u_lc, ↓u_lcN, ↓u_lcC, ↓u_yes, ↓u_call, ↓u_argN, ↓u_argD, ↓u_argM, ↓u_argO, ↓u_argT, ↓u_backN, ↓u_backC, ↓u_fn, ↓k_fnO, ↓u_gtupD, ↓u_gtupN, ↓u_gtupL, ↓u_gtupT, ↓u_gN, ↓u_gC, ↓k_subL, ↓u_meth, ↓u_append, ↓u_popAt, ↓u_ixD, ↓u_ixN, ↓u_ixT, ↓u_ixS, ↓u_ixX, ↓u_mod, ↓u_div, ↓u_pow, ↓u_mul, ↓u_lenX, ↓u_lenL, ↓u_lenT, ↓u_lenC, ↓u_lenN, ↓u_addS, ↓u_isiD, ↓u_isiN, ↓u_zip, ↓u_argL, ↓u_argV, ↓u_dc, ↓u_dcN, ↓u_dcC, ↓k_dcX, ↓u_turn, ↓u_neg, ↓u_frz, ↓u_stoT, ↓u_stoL, ↓u_mulT, ↓u_addT, ↓u_listT, ↓u_listL, ↓u_slT, ↓rn_bind, ↓rn_some, ↓rn_iteT, ↓rn_iteF, ↓rv0, ↓ro0, ↓rb0, ↓rn0, ↓rs0, ↓rl0, ↓ra0, ↓rk0, ↓rx0, ↓rg0, ↓rh0, ↓rp0, ↓rv1, ↓ro1, ↓rb1, ↓rn1, ↓rs1, ↓rl1, ↓ra1, ↓rk1, ↓rx1, ↓rg1, ↓rh1, ↓rp1, ↓rv2, ↓ro2, ↓rb2, ↓rn2, ↓rs2, ↓rl2, ↓ra2, ↓rk2, ↓rx2, ↓rg2, ↓rh2, ↓rp2, ↓rv3, ↓ro3, ↓rb3, ↓rn3, ↓rs3, ↓rl3, ↓ra3, ↓rk3, ↓rx3, ↓rg3, ↓rh3, ↓rp3, ↓rv4, ↓ro4, ↓rb4, ↓rn4, ↓rs4, ↓rl4, ↓ra4, ↓rk4, ↓rx4, ↓rg4, ↓rh4, ↓rp4, ↓rv5, ↓ro5, ↓rb5, ↓rn5, ↓rs5, ↓rl5, ↓ra5, ↓rk5, ↓rx5, ↓rg5, ↓rh5, ↓rp5, ↓rv6, ↓ro6, ↓rb6, ↓rn6, ↓rs6, ↓rl6, ↓ra6, ↓rk6, ↓rx6, ↓rg6, ↓rh6, ↓rp6, ↓rv7, ↓ro7, ↓rb7, ↓rn7, ↓rs7, ↓rl7, ↓ra7, ↓rk7, ↓rx7, ↓rg7, ↓rh7, ↓rp7, ↓rv8, ↓ro8, ↓rb8, ↓rn8, ↓rs8, ↓rl8, ↓ra8, ↓rk8, ↓rx8, ↓rg8, ↓rh8, ↓rp8, ↓rv9, ↓ro9, ↓rb9, ↓rn9, ↓rs9, ↓rl9, ↓ra9, ↓rk9, ↓rx9, ↓rg9, ↓rh9, ↓rp9, ↓rv10, ↓ro10, ↓rb10, ↓rn10, ↓rs10, ↓rl10, ↓ra10, ↓rk10, ↓rx10, ↓rg10, ↓rh10, ↓rp10, ↓rv11, ↓ro11, ↓rb11, ↓rn11, ↓rs11, ↓rl11, ↓ra11, ↓rk11, ↓rx11, ↓rg11, ↓rh11, ↓rp11, ↓rv12, ↓ro12, ↓rb12, ↓rn12, ↓rs12, ↓rl12, ↓ra12, ↓rk12, ↓rx12, ↓rg12, ↓rh12, ↓rp12, ↓rv13, ↓ro13, ↓rb13, ↓rn13, ↓rs13, ↓rl13, ↓ra13, ↓rk13, ↓rx13, ↓rg13, ↓rh13, ↓rp13, ↓rv14, ↓ro14, ↓rb14, ↓rn14, ↓rs14, ↓rl14, ↓ra14, ↓rk14, ↓rx14, ↓rg14, ↓rh14, ↓rp14, ↓rv15, ↓ro15, ↓rb15, ↓rn15, ↓rs15, ↓rl15, ↓ra15, ↓rk15, ↓rx15, ↓rg15, ↓rh15, ↓rp15, ↓rv16, ↓ro16, ↓rb16, ↓rn16, ↓rs16, ↓rl16, ↓ra16, ↓rk16, ↓rx16, ↓rg16, ↓rh16, ↓rp16, ↓rv17, ↓ro17, ↓rb17, ↓rn17, ↓rs17, ↓rl17, ↓ra17, ↓rk17, ↓rx17, ↓rg17, ↓rh17, ↓rp17, rn_some, k_andT, k_andF, k_orT, k_orF, k_B, k_int, k_seqN, k_seqR, k_seqB, k_seqC, k_loopN, k_loopR, k_enum, k_fnN, k_fnD, k_fnNew, e_addI, e_subI, e_ltI, e_leI, e_gtI, e_geI, e_eqI, e_neI, e_abs, e_intI, e_intB, e_at0, e_at1, e_at2, e_ix30, e_ix32, List.set_cons_zero, List.set_cons_succ, f1, List.length_cons, List.length_nil, List.all_cons, List.all_nil, cold, hots, hot, List.map_cons, List.map_nil, List.cons_append, List.nil_append, List.append_nil, List.replicate_succ, List.replicate_zero, List.take_succ_cons, List.take_zero, wipeS, backS, noOwn, Nat.reduceAdd, Nat.reduceSub, Nat.reduceLeDiff, Nat.reduceEqDiff, Bool.and_true, Bool.true_and, Bool.and_false, Bool.false_and, Bool.not_true, Bool.not_false, Bool.false_eq_true, Bool.true_eq_false, reduceCtorEq, true_and, and_true, if_true, if_false, decide_true, decide_false, isOk, isA, String.reduceBEq, turn_f, cut_1, k_zipLL, k_zipTT, k_zipTL, e_isN, e_isNot, isNo, beq_self_eq_true, bne_self_eq_false, e_eqB, e_neB, e_eqX, List.any_cons, List.any_nil, Bool.or_true, Bool.true_or, Bool.or_self, reduceIte, Bool.or_false, Bool.false_or, ri0, rt0, ri1, rt1, ri2, rt2, ri3, rt3, ri4, rt4, ri5, rt5, ri6, rt6, ri7, rt7, ri8, rt8, ri9, rt9, ri10, rt10, ri11, rt11, ri12, rt12, ri13, rt13, ri14, rt14, ri15, rt15, ri16, rt16, ri17, rt17, tupB]
  obtain ⟨a, e, rfl⟩ := main
  exact e
theorem in_letters {c : Nat} {s : S} : fInA false (.d (.str ⟨#[c]⟩)) (.d (.str "abcdefghijklmnopqrstuvwxyz")) s = some (.d (.bl (isLt c)), s) := rfl
theorem name_loop {a : SV} : ∀ (cs : List Nat), Rn (loopC [1] (bindV 1) wYes (wOp (fInA false) (wVar 1) (wC (.str "abcdefghijklmnopqrstuvwxyz"))) (cs.map fun c => Da.str ⟨#[c]⟩) [a, .un]) fun q => q = ((cs.map isLt).map Da.bl, [a, .un])
  | [] => by
    show Rn (some _) _
    rw [rn_some]
    rfl
  | c :: cs => by
    rw [List.map_cons, u_lcC]
    simp only [↓u_C, ↓u_nil, ↓u_cons, ↓u_tup, ↓u_lst, ↓u_op, ↓u_and, ↓u_or, ↓u_test, ↓u_not, ↓u_notT, ↓u_andT, ↓u_orT, ↓u_ifE, ↓u_chain, ↓k_chT, ↓k_chF, ↓u_CB, ↓u_isi, ↓u_sl, ↓u_noPart, ↓u_part, ↓u_seq, ↓u_next, ↓u_retN, ↓u_bk, ↓u_ct, ↓u_drop, ↓u_ret, ↓u_if, ↓u_asg, ↓u_par, ↓u_prepN, ↓u_prepD, ↓u_prepO, ↓u_allN, ↓u_allC, ↓u_for, ↓u_loopN, ↓u_loopC, ↓u_it, ↓u_stoD, ↓u_stoN, ↓u_stosN, ↓u_stosC, ↓u_range1, ↓u_enum, ↓u_lc, ↓u_lcN, ↓u_lcC, ↓u_yes, ↓u_call, ↓u_argN, ↓u_argD, ↓u_argM, ↓u_argO, ↓u_argT, ↓u_backN, ↓u_backC, ↓u_fn, ↓k_fnO, ↓u_gtupD, ↓u_gtupN, ↓u_gtupL, ↓u_gtupT, ↓u_gN, ↓u_gC, ↓k_subL, ↓u_meth, ↓u_append, ↓u_popAt, ↓u_ixD, ↓u_ixN, ↓u_ixT, ↓u_ixS, ↓u_ixX, ↓u_mod, ↓u_div, ↓u_pow, ↓u_mul, ↓u_lenX, ↓u_lenL, ↓u_lenT, ↓u_lenC, ↓u_lenN, ↓u_addS, ↓u_isiD, ↓u_isiN, ↓u_zip, ↓u_argL, ↓u_argV, ↓u_dc, ↓u_dcN, ↓u_dcC, ↓k_dcX, ↓u_turn, ↓u_neg, ↓u_frz, ↓u_stoT, ↓u_stoL, ↓u_mulT, ↓u_addT, ↓u_listT, ↓u_listL, ↓u_slT, ↓rn_bind, ↓rn_some, ↓rn_iteT, ↓rn_iteF, ↓rv0, ↓ro0, ↓rb0, ↓rn0, ↓rs0, ↓rl0, ↓ra0, ↓rk0, ↓rx0, ↓rg0, ↓rh0, ↓rp0, ↓rv1, ↓ro1, ↓rb1, ↓rn1, ↓rs1, ↓rl1, ↓ra1, ↓rk1, ↓rx1, ↓rg1, ↓rh1, ↓rp1, ↓rv2, ↓ro2, ↓rb2, ↓rn2, ↓rs2, ↓rl2, ↓ra2, ↓rk2, ↓rx2, ↓rg2, ↓rh2, ↓rp2, ↓rv3, ↓ro3, ↓rb3, ↓rn3, ↓rs3, ↓rl3, ↓ra3, ↓rk3, ↓rx3, ↓rg3, ↓rh3, ↓rp3, ↓rv4, ↓ro4, ↓rb4, ↓rn4, ↓rs4, ↓rl4, ↓ra4, ↓rk4, ↓rx4, ↓rg4, ↓rh4, ↓rp4, ↓rv5, ↓ro5, ↓rb5, ↓rn5, ↓rs5, ↓rl5, ↓ra5, ↓rk5, ↓rx5, ↓rg5, ↓rh5, ↓rp5, ↓rv6, ↓ro6, ↓rb6, ↓rn6, ↓rs6, ↓rl6, ↓ra6, ↓rk6, ↓rx6, ↓rg6, ↓rh6, ↓rp6, ↓rv7, ↓ro7, ↓rb7, ↓rn7, ↓rs7, ↓rl7, ↓ra7, ↓rk7, ↓rx7, ↓rg7, ↓rh7, ↓rp7, ↓rv8, ↓ro8, ↓rb8, ↓rn8, ↓rs8, ↓rl8, ↓ra8, ↓rk8, ↓rx8, ↓rg8, ↓rh8, ↓rp8, ↓rv9, ↓ro9, ↓rb9, ↓rn9, ↓rs9, ↓rl9, ↓ra9, ↓rk9, ↓rx9, ↓rg9, ↓rh9, ↓rp9, ↓rv10, ↓ro10, ↓rb10, ↓rn10, ↓rs10, ↓rl10, ↓ra10, ↓rk10, ↓rx10, ↓rg10, ↓rh10, ↓rp10, ↓rv11, ↓ro11, ↓rb11, ↓rn11, ↓rs11, ↓rl11, ↓ra11, ↓rk11, ↓rx11, ↓rg11, ↓rh11, ↓rp11, ↓rv12, ↓ro12, ↓rb12, ↓rn12, ↓rs12, ↓rl12, ↓ra12, ↓rk12, ↓rx12, ↓rg12, ↓rh12, ↓rp12, ↓rv13, ↓ro13, ↓rb13, ↓rn13, ↓rs13, ↓rl13, ↓ra13, ↓rk13, ↓rx13, ↓rg13, ↓rh13, ↓rp13, ↓rv14, ↓ro14, ↓rb14, ↓rn14, ↓rs14, ↓rl14, ↓ra14, ↓rk14, ↓rx14, ↓rg14, ↓rh14, ↓rp14, ↓rv15, ↓ro15, ↓rb15, ↓rn15, ↓rs15, ↓rl15, ↓ra15, ↓rk15, ↓rx15, ↓rg15, ↓rh15, ↓rp15, ↓rv16, ↓ro16, ↓rb16, ↓rn16, ↓rs16, ↓rl16, ↓ra16, ↓rk16, ↓rx16, ↓rg16, ↓rh16, ↓rp16, ↓rv17, ↓ro17, ↓rb17, ↓rn17, ↓rs17, ↓rl17, ↓ra17, ↓rk17, ↓rx17, ↓rg17, ↓rh17, ↓rp17, rn_some, k_andT, k_andF, k_orT, k_orF, k_B, k_int, k_seqN, k_seqR, k_seqB, k_seqC, k_loopN, k_loopR, k_enum, k_fnN, k_fnD, k_fnNew, e_addI, e_subI, e_ltI, e_leI, e_gtI, e_geI, e_eqI, e_neI, e_abs, e_intI, e_intB, e_at0, e_at1, e_at2, e_ix30, e_ix32, List.set_cons_zero, List.set_cons_succ, f1, List.length_cons, List.length_nil, List.all_cons, List.all_nil, cold, hots, hot, List.map_cons, List.map_nil, List.cons_append, List.nil_append, List.append_nil, List.replicate_succ, List.replicate_zero, List.take_succ_cons, List.take_zero, wipeS, backS, noOwn, Nat.reduceAdd, Nat.reduceSub, Nat.reduceLeDiff, Nat.reduceEqDiff, Bool.and_true, Bool.true_and, Bool.and_false, Bool.false_and, Bool.not_true, Bool.not_false, Bool.false_eq_true, Bool.true_eq_false, reduceCtorEq, true_and, and_true, if_true, if_false, decide_true, decide_false, isOk, isA, String.reduceBEq, turn_f, cut_1, k_zipLL, k_zipTT, k_zipTL, e_isN, e_isNot, isNo, beq_self_eq_true, bne_self_eq_false, e_eqB, e_neB, e_eqX, List.any_cons, List.any_nil, Bool.or_true, Bool.true_or, Bool.or_self, reduceIte, Bool.or_false, Bool.false_or, ri0, rt0, ri1, rt1, ri2, rt2, ri3, rt3, ri4, rt4, ri5, rt5, ri6, rt6, ri7, rt7, ri8, rt8, ri9, rt9, ri10, rt10, ri11, rt11, ri12, rt12, ri13, rt13, ri14, rt14, ri15, rt15, ri16, rt16, ri17, rt17, in_letters]
    refine rn_imp (name_loop cs) fun q e => ?_
    subst e
    rfl
theorem is_name_eq (h : isOk d = true) : w_is_name [.dat d] = some (.d (.bl (nameD d)), [.dat d]) := by
  have main : Rn (w_is_name [.dat d]) fun p => p = (.d (.bl (nameD d)), [.dat d]) := by
    unfold w_is_name
    cases d with
    | dct _ => cases h
    | fn _ => cases h
    | tab _ => cases h
    | str z =>
      by_cases h1 : 1 ≤ z.length
      · by_cases h2 : z.length ≤ 8
        · have g1 : (1 : Int) ≤ (z.length : Nat) := by omega
          have g2 : ((z.length : Nat) : Int) ≤ 8 := by omega
          simp only [↓u_C, ↓u_nil, ↓u_cons, ↓u_tup, ↓u_lst, ↓u_op, ↓u_and, ↓u_or, ↓u_test, ↓u_not, ↓u_notT, ↓u_andT, ↓u_orT, ↓u_ifE, ↓u_chain, ↓k_chT, ↓k_chF, ↓u_CB, ↓u_isi, ↓u_sl, ↓u_noPart, ↓u_part, ↓u_seq, ↓u_next, ↓u_retN, ↓u_bk, ↓u_ct, ↓u_drop, ↓u_ret, ↓u_if, ↓u_asg, ↓u_par, ↓u_prepN, ↓u_prepD, ↓u_prepO, ↓u_allN, ↓u_allC, ↓u_for, ↓u_loopN, ↓u_loopC, ↓u_it, ↓u_stoD, ↓u_stoN, ↓u_stosN, ↓u_stosC, ↓u_range1, ↓u_enum, ↓u_lc, ↓u_lcN, ↓u_lcC, ↓u_yes, ↓u_call, ↓u_argN, ↓u_argD, ↓u_argM, ↓u_argO, ↓u_argT, ↓u_backN, ↓u_backC, ↓u_fn, ↓k_fnO, ↓u_gtupD, ↓u_gtupN, ↓u_gtupL, ↓u_gtupT, ↓u_gN, ↓u_gC, ↓k_subL, ↓u_meth, ↓u_append, ↓u_popAt, ↓u_ixD, ↓u_ixN, ↓u_ixT, ↓u_ixS, ↓u_ixX, ↓u_mod, ↓u_div, ↓u_pow, ↓u_mul, ↓u_lenX, ↓u_lenL, ↓u_lenT, ↓u_lenC, ↓u_lenN, ↓u_addS, ↓u_isiD, ↓u_isiN, ↓u_zip, ↓u_argL, ↓u_argV, ↓u_dc, ↓u_dcN, ↓u_dcC, ↓k_dcX, ↓u_turn, ↓u_neg, ↓u_frz, ↓u_stoT, ↓u_stoL, ↓u_mulT, ↓u_addT, ↓u_listT, ↓u_listL, ↓u_slT, ↓rn_bind, ↓rn_some, ↓rn_iteT, ↓rn_iteF, ↓rv0, ↓ro0, ↓rb0, ↓rn0, ↓rs0, ↓rl0, ↓ra0, ↓rk0, ↓rx0, ↓rg0, ↓rh0, ↓rp0, ↓rv1, ↓ro1, ↓rb1, ↓rn1, ↓rs1, ↓rl1, ↓ra1, ↓rk1, ↓rx1, ↓rg1, ↓rh1, ↓rp1, ↓rv2, ↓ro2, ↓rb2, ↓rn2, ↓rs2, ↓rl2, ↓ra2, ↓rk2, ↓rx2, ↓rg2, ↓rh2, ↓rp2, ↓rv3, ↓ro3, ↓rb3, ↓rn3, ↓rs3, ↓rl3, ↓ra3, ↓rk3, ↓rx3, ↓rg3, ↓rh3, ↓rp3, ↓rv4, ↓ro4, ↓rb4, ↓rn4, ↓rs4, ↓rl4, ↓ra4, ↓rk4, ↓rx4, ↓rg4, ↓rh4, ↓rp4, ↓rv5, ↓ro5, ↓rb5, ↓rn5, ↓rs5, ↓rl5, ↓ra5, ↓rk5, ↓rx5, ↓rg5, ↓rh5, ↓rp5, ↓rv6, ↓ro6, ↓rb6, ↓rn6, ↓rs6, ↓rl6, ↓ra6, ↓rk6, ↓rx6, ↓rg6, ↓rh6, ↓rp6, ↓rv7, ↓ro7, ↓rb7, ↓rn7, ↓rs7, ↓rl7, ↓ra7, ↓rk7, ↓rx7, ↓rg7, ↓rh7, ↓rp7, ↓rv8, ↓ro8, ↓rb8, ↓rn8, ↓rs8, ↓rl8, ↓ra8, ↓rk8, ↓rx8, ↓rg8, ↓rh8, ↓rp8, ↓rv9, ↓ro9, ↓rb9, ↓rn9, ↓rs9, ↓rl9, ↓ra9, ↓rk9, ↓rx9, ↓rg9, ↓rh9, ↓rp9, ↓rv10, ↓ro10, ↓rb10, ↓rn10, ↓rs10, ↓rl10, ↓ra10, ↓rk10, ↓rx10, ↓rg10, ↓rh10, ↓rp10, ↓rv11, ↓ro11, ↓rb11, ↓rn11, ↓rs11, ↓rl11, ↓ra11, ↓rk11, ↓rx11, ↓rg11, ↓rh11, ↓rp11, ↓rv12, ↓ro12, ↓rb12, ↓rn12, ↓rs12, ↓rl12, ↓ra12, ↓rk12, ↓rx12, ↓rg12, ↓rh12, ↓rp12, ↓rv13, ↓ro13, ↓rb13, ↓rn13, ↓rs13, ↓rl13, ↓ra13, ↓rk13, ↓rx13, ↓rg13, ↓rh13, ↓rp13, ↓rv14, ↓ro14, ↓rb14, ↓rn14, ↓rs14, ↓rl14, ↓ra14, ↓rk14, ↓rx14, ↓rg14, ↓rh14, ↓rp14, ↓rv15, ↓ro15, ↓rb15, ↓rn15, ↓rs15, ↓rl15, ↓ra15, ↓rk15, ↓rx15, ↓rg15, ↓rh15, ↓rp15, ↓rv16, ↓ro16, ↓rb16, ↓rn16, ↓rs16, ↓rl16, ↓ra16, ↓rk16, ↓rx16, ↓rg16, ↓rh16, ↓rp16, ↓rv17, ↓ro17, ↓rb17, ↓rn17, ↓rs17, ↓rl17, ↓ra17, ↓rk17, ↓rx17, ↓rg17, ↓rh17, ↓rp17, rn_some, k_andT, k_andF, k_orT, k_orF, k_B, k_int, k_seqN, k_seqR, k_seqB, k_seqC, k_loopN, k_loopR, k_enum, k_fnN, k_fnD, k_fnNew, e_addI, e_subI, e_ltI, e_leI, e_gtI, e_geI, e_eqI, e_neI, e_abs, e_intI, e_intB, e_at0, e_at1, e_at2, e_ix30, e_ix32, List.set_cons_zero, List.set_cons_succ, f1, List.length_cons, List.length_nil, List.all_cons, List.all_nil, cold, hots, hot, List.map_cons, List.map_nil, List.cons_append, List.nil_append, List.append_nil, List.replicate_succ, List.replicate_zero, List.take_succ_cons, List.take_zero, wipeS, backS, noOwn, Nat.reduceAdd, Nat.reduceSub, Nat.reduceLeDiff, Nat.reduceEqDiff, Bool.and_true, Bool.true_and, Bool.and_false, Bool.false_and, Bool.not_true, Bool.not_false, Bool.false_eq_true, Bool.true_eq_false, reduceCtorEq, true_and, and_true, if_true, if_false, decide_true, decide_false, isOk, isA, String.reduceBEq, turn_f, cut_1, k_zipLL, k_zipTT, k_zipTL, e_isN, e_isNot, isNo, beq_self_eq_true, bne_self_eq_false, e_eqB, e_neB, e_eqX, List.any_cons, List.any_nil, Bool.or_true, Bool.true_or, Bool.or_self, reduceIte, Bool.or_false, Bool.false_or, ri0, rt0, ri1, rt1, ri2, rt2, ri3, rt3, ri4, rt4, ri5, rt5, ri6, rt6, ri7, rt7, ri8, rt8, ri9, rt9, ri10, rt10, ri11, rt11, ri12, rt12, ri13, rt13, ri14, rt14, ri15, rt15, ri16, rt16, ri17, rt17, g1, g2, seqD]
          refine rn_imp (name_loop z.cps.toList) fun q e => ?_
          subst e
          simp only [↓u_C, ↓u_nil, ↓u_cons, ↓u_tup, ↓u_lst, ↓u_op, ↓u_and, ↓u_or, ↓u_test, ↓u_not, ↓u_notT, ↓u_andT, ↓u_orT, ↓u_ifE, ↓u_chain, ↓k_chT, ↓k_chF, ↓u_CB, ↓u_isi, ↓u_sl, ↓u_noPart, ↓u_part, ↓u_seq, ↓u_next, ↓u_retN, ↓u_bk, ↓u_ct, ↓u_drop, ↓u_ret, ↓u_if, ↓u_asg, ↓u_par, ↓u_prepN, ↓u_prepD, ↓u_prepO, ↓u_allN, ↓u_allC, ↓u_for, ↓u_loopN, ↓u_loopC, ↓u_it, ↓u_stoD, ↓u_stoN, ↓u_stosN, ↓u_stosC, ↓u_range1, ↓u_enum, ↓u_lc, ↓u_lcN, ↓u_lcC, ↓u_yes, ↓u_call, ↓u_argN, ↓u_argD, ↓u_argM, ↓u_argO, ↓u_argT, ↓u_backN, ↓u_backC, ↓u_fn, ↓k_fnO, ↓u_gtupD, ↓u_gtupN, ↓u_gtupL, ↓u_gtupT, ↓u_gN, ↓u_gC, ↓k_subL, ↓u_meth, ↓u_append, ↓u_popAt, ↓u_ixD, ↓u_ixN, ↓u_ixT, ↓u_ixS, ↓u_ixX, ↓u_mod, ↓u_div, ↓u_pow, ↓u_mul, ↓u_lenX, ↓u_lenL, ↓u_lenT, ↓u_lenC, ↓u_lenN, ↓u_addS, ↓u_isiD, ↓u_isiN, ↓u_zip, ↓u_argL, ↓u_argV, ↓u_dc, ↓u_dcN, ↓u_dcC, ↓k_dcX, ↓u_turn, ↓u_neg, ↓u_frz, ↓u_stoT, ↓u_stoL, ↓u_mulT, ↓u_addT, ↓u_listT, ↓u_listL, ↓u_slT, ↓rn_bind, ↓rn_some, ↓rn_iteT, ↓rn_iteF, ↓rv0, ↓ro0, ↓rb0, ↓rn0, ↓rs0, ↓rl0, ↓ra0, ↓rk0, ↓rx0, ↓rg0, ↓rh0, ↓rp0, ↓rv1, ↓ro1, ↓rb1, ↓rn1, ↓rs1, ↓rl1, ↓ra1, ↓rk1, ↓rx1, ↓rg1, ↓rh1, ↓rp1, ↓rv2, ↓ro2, ↓rb2, ↓rn2, ↓rs2, ↓rl2, ↓ra2, ↓rk2, ↓rx2, ↓rg2, ↓rh2, ↓rp2, ↓rv3, ↓ro3, ↓rb3, ↓rn3, ↓rs3, ↓rl3, ↓ra3, ↓rk3, ↓rx3, ↓rg3, ↓rh3, ↓rp3, ↓rv4, ↓ro4, ↓rb4, ↓rn4, ↓rs4, ↓rl4, ↓ra4, ↓rk4, ↓rx4, ↓rg4, ↓rh4, ↓rp4, ↓rv5, ↓ro5, ↓rb5, ↓rn5, ↓rs5, ↓rl5, ↓ra5, ↓rk5, ↓rx5, ↓rg5, ↓rh5, ↓rp5, ↓rv6, ↓ro6, ↓rb6, ↓rn6, ↓rs6, ↓rl6, ↓ra6, ↓rk6, ↓rx6, ↓rg6, ↓rh6, ↓rp6, ↓rv7, ↓ro7, ↓rb7, ↓rn7, ↓rs7, ↓rl7, ↓ra7, ↓rk7, ↓rx7, ↓rg7, ↓rh7, ↓rp7, ↓rv8, ↓ro8, ↓rb8, ↓rn8, ↓rs8, ↓rl8, ↓ra8, ↓rk8, ↓rx8, ↓rg8, ↓rh8, ↓rp8, ↓rv9, ↓ro9, ↓rb9, ↓rn9, ↓rs9, ↓rl9, ↓ra9, ↓rk9, ↓rx9, ↓rg9, ↓rh9, ↓rp9, ↓rv10, ↓ro10, ↓rb10, ↓rn10, ↓rs10, ↓rl10, ↓ra10, ↓rk10, ↓rx10, ↓rg10, ↓rh10, ↓rp10, ↓rv11, ↓ro11, ↓rb11, ↓rn11, ↓rs11, ↓rl11, ↓ra11, ↓rk11, ↓rx11, ↓rg11, ↓rh11, ↓rp11, ↓rv12, ↓ro12, ↓rb12, ↓rn12, ↓rs12, ↓rl12, ↓ra12, ↓rk12, ↓rx12, ↓rg12, ↓rh12, ↓rp12, ↓rv13, ↓ro13, ↓rb13, ↓rn13, ↓rs13, ↓rl13, ↓ra13, ↓rk13, ↓rx13, ↓rg13, ↓rh13, ↓rp13, ↓rv14, ↓ro14, ↓rb14, ↓rn14, ↓rs14, ↓rl14, ↓ra14, ↓rk14, ↓rx14, ↓rg14, ↓rh14, ↓rp14, ↓rv15, ↓ro15, ↓rb15, ↓rn15, ↓rs15, ↓rl15, ↓ra15, ↓rk15, ↓rx15, ↓rg15, ↓rh15, ↓rp15, ↓rv16, ↓ro16, ↓rb16, ↓rn16, ↓rs16, ↓rl16, ↓ra16, ↓rk16, ↓rx16, ↓rg16, ↓rh16, ↓rp16, ↓rv17, ↓ro17, ↓rb17, ↓rn17, ↓rs17, ↓rl17, ↓ra17, ↓rk17, ↓rx17, ↓rg17, ↓rh17, ↓rp17, rn_some, k_andT, k_andF, k_orT, k_orF, k_B, k_int, k_seqN, k_seqR, k_seqB, k_seqC, k_loopN, k_loopR, k_enum, k_fnN, k_fnD, k_fnNew, e_addI, e_subI, e_ltI, e_leI, e_gtI, e_geI, e_eqI, e_neI, e_abs, e_intI, e_intB, e_at0, e_at1, e_at2, e_ix30, e_ix32, List.set_cons_zero, List.set_cons_succ, f1, List.length_cons, List.length_nil, List.all_cons, List.all_nil, cold, hots, hot, List.map_cons, List.map_nil, List.cons_append, List.nil_append, List.append_nil, List.replicate_succ, List.replicate_zero, List.take_succ_cons, List.take_zero, wipeS, backS, noOwn, Nat.reduceAdd, Nat.reduceSub, Nat.reduceLeDiff, Nat.reduceEqDiff, Bool.and_true, Bool.true_and, Bool.and_false, Bool.false_and, Bool.not_true, Bool.not_false, Bool.false_eq_true, Bool.true_eq_false, reduceCtorEq, true_and, and_true, if_true, if_false, decide_true, decide_false, isOk, isA, String.reduceBEq, turn_f, cut_1, k_zipLL, k_zipTT, k_zipTL, e_isN, e_isNot, isNo, beq_self_eq_true, bne_self_eq_false, e_eqB, e_neB, e_eqX, List.any_cons, List.any_nil, Bool.or_true, Bool.true_or, Bool.or_self, reduceIte, Bool.or_false, Bool.false_or, ri0, rt0, ri1, rt1, ri2, rt2, ri3, rt3, ri4, rt4, ri5, rt5, ri6, rt6, ri7, rt7, ri8, rt8, ri9, rt9, ri10, rt10, ri11, rt11, ri12, rt12, ri13, rt13, ri14, rt14, ri15, rt15, ri16, rt16, ri17, rt17, ↓u_all, bls_map, nameD, h1, h2, List.all_map, List.length_map]
          refine ⟨?_, rfl⟩
          rw [Array.length_toList]
          show z.length ≤ 100000
          omega
        · have g1 : (1 : Int) ≤ (z.length : Nat) := by omega
          have g2 : ¬ ((z.length : Nat) : Int) ≤ 8 := by omega
          simp only [↓u_C, ↓u_nil, ↓u_cons, ↓u_tup, ↓u_lst, ↓u_op, ↓u_and, ↓u_or, ↓u_test, ↓u_not, ↓u_notT, ↓u_andT, ↓u_orT, ↓u_ifE, ↓u_chain, ↓k_chT, ↓k_chF, ↓u_CB, ↓u_isi, ↓u_sl, ↓u_noPart, ↓u_part, ↓u_seq, ↓u_next, ↓u_retN, ↓u_bk, ↓u_ct, ↓u_drop, ↓u_ret, ↓u_if, ↓u_asg, ↓u_par, ↓u_prepN, ↓u_prepD, ↓u_prepO, ↓u_allN, ↓u_allC, ↓u_for, ↓u_loopN, ↓u_loopC, ↓u_it, ↓u_stoD, ↓u_stoN, ↓u_stosN, ↓u_stosC, ↓u_range1, ↓u_enum, ↓u_lc, ↓u_lcN, ↓u_lcC, ↓u_yes, ↓u_call, ↓u_argN, ↓u_argD, ↓u_argM, ↓u_argO, ↓u_argT, ↓u_backN, ↓u_backC, ↓u_fn, ↓k_fnO, ↓u_gtupD, ↓u_gtupN, ↓u_gtupL, ↓u_gtupT, ↓u_gN, ↓u_gC, ↓k_subL, ↓u_meth, ↓u_append, ↓u_popAt, ↓u_ixD, ↓u_ixN, ↓u_ixT, ↓u_ixS, ↓u_ixX, ↓u_mod, ↓u_div, ↓u_pow, ↓u_mul, ↓u_lenX, ↓u_lenL, ↓u_lenT, ↓u_lenC, ↓u_lenN, ↓u_addS, ↓u_isiD, ↓u_isiN, ↓u_zip, ↓u_argL, ↓u_argV, ↓u_dc, ↓u_dcN, ↓u_dcC, ↓k_dcX, ↓u_turn, ↓u_neg, ↓u_frz, ↓u_stoT, ↓u_stoL, ↓u_mulT, ↓u_addT, ↓u_listT, ↓u_listL, ↓u_slT, ↓rn_bind, ↓rn_some, ↓rn_iteT, ↓rn_iteF, ↓rv0, ↓ro0, ↓rb0, ↓rn0, ↓rs0, ↓rl0, ↓ra0, ↓rk0, ↓rx0, ↓rg0, ↓rh0, ↓rp0, ↓rv1, ↓ro1, ↓rb1, ↓rn1, ↓rs1, ↓rl1, ↓ra1, ↓rk1, ↓rx1, ↓rg1, ↓rh1, ↓rp1, ↓rv2, ↓ro2, ↓rb2, ↓rn2, ↓rs2, ↓rl2, ↓ra2, ↓rk2, ↓rx2, ↓rg2, ↓rh2, ↓rp2, ↓rv3, ↓ro3, ↓rb3, ↓rn3, ↓rs3, ↓rl3, ↓ra3, ↓rk3, ↓rx3, ↓rg3, ↓rh3, ↓rp3, ↓rv4, ↓ro4, ↓rb4, ↓rn4, ↓rs4, ↓rl4, ↓ra4, ↓rk4, ↓rx4, ↓rg4, ↓rh4, ↓rp4, ↓rv5, ↓ro5, ↓rb5, ↓rn5, ↓rs5, ↓rl5, ↓ra5, ↓rk5, ↓rx5, ↓rg5, ↓rh5, ↓rp5, ↓rv6, ↓ro6, ↓rb6, ↓rn6, ↓rs6, ↓rl6, ↓ra6, ↓rk6, ↓rx6, ↓rg6, ↓rh6, ↓rp6, ↓rv7, ↓ro7, ↓rb7, ↓rn7, ↓rs7, ↓rl7, ↓ra7, ↓rk7, ↓rx7, ↓rg7, ↓rh7, ↓rp7, ↓rv8, ↓ro8, ↓rb8, ↓rn8, ↓rs8, ↓rl8, ↓ra8, ↓rk8, ↓rx8, ↓rg8, ↓rh8, ↓rp8, ↓rv9, ↓ro9, ↓rb9, ↓rn9, ↓rs9, ↓rl9, ↓ra9, ↓rk9, ↓rx9, ↓rg9, ↓rh9, ↓rp9, ↓rv10, ↓ro10, ↓rb10, ↓rn10, ↓rs10, ↓rl10, ↓ra10, ↓rk10, ↓rx10, ↓rg10, ↓rh10, ↓rp10, ↓rv11, ↓ro11, ↓rb11, ↓rn11, ↓rs11, ↓rl11, ↓ra11, ↓rk11, ↓rx11, ↓rg11, ↓rh11, ↓rp11, ↓rv12, ↓ro12, ↓rb12, ↓rn12, ↓rs12, ↓rl12, ↓ra12, ↓rk12, ↓rx12, ↓rg12, ↓rh12, ↓rp12, ↓rv13, ↓ro13, ↓rb13, ↓rn13, ↓rs13, ↓rl13, ↓ra13, ↓rk13, ↓rx13, ↓rg13, ↓rh13, ↓rp13, ↓rv14, ↓ro14, ↓rb14, ↓rn14, ↓rs14, ↓rl14, ↓ra14, ↓rk14, ↓rx14, ↓rg14, ↓rh14, ↓rp14, ↓rv15, ↓ro15, ↓rb15, ↓rn15, ↓rs15, ↓rl15, ↓ra15, ↓rk15, ↓rx15, ↓rg15, ↓rh15, ↓rp15, ↓rv16, ↓ro16, ↓rb16, ↓rn16, ↓rs16, ↓rl16, ↓ra16, ↓rk16, ↓rx16, ↓rg16, ↓rh16, ↓rp16, ↓rv17, ↓ro17, ↓rb17, ↓rn17, ↓rs17, ↓rl17, ↓ra17, ↓rk17, ↓rx17, ↓rg17, ↓rh17, ↓rp17, rn_some, k_andT, k_andF, k_orT, k_orF, k_B, k_int, k_seqN, k_seqR, k_seqB, k_seqC, k_loopN, k_loopR, k_enum, k_fnN, k_fnD, k_fnNew, e_addI, e_subI, e_ltI, e_leI, e_gtI, e_geI, e_eqI, e_neI, e_abs, e_intI, e_intB, e_at0, e_at1, e_at2, e_ix30, e_ix32, List.set_cons_zero, List.set_cons_succ, f1, List.length_cons, List.length_nil, List.all_cons, List.all_nil, cold, hots, hot, List.map_cons, List.map_nil, List.cons_append, List.nil_append, List.append_nil, List.replicate_succ, List.replicate_zero, List.take_succ_cons, List.take_zero, wipeS, backS, noOwn, Nat.reduceAdd, Nat.reduceSub, Nat.reduceLeDiff, Nat.reduceEqDiff, Bool.and_true, Bool.true_and, Bool.and_false, Bool.false_and, Bool.not_true, Bool.not_false, Bool.false_eq_true, Bool.true_eq_false, reduceCtorEq, true_and, and_true, if_true, if_false, decide_true, decide_false, isOk, isA, String.reduceBEq, turn_f, cut_1, k_zipLL, k_zipTT, k_zipTL, e_isN, e_isNot, isNo, beq_self_eq_true, bne_self_eq_false, e_eqB, e_neB, e_eqX, List.any_cons, List.any_nil, Bool.or_true, Bool.true_or, Bool.or_self, reduceIte, Bool.or_false, Bool.false_or, ri0, rt0, ri1, rt1, ri2, rt2, ri3, rt3, ri4, rt4, ri5, rt5, ri6, rt6, ri7, rt7, ri8, rt8, ri9, rt9, ri10, rt10, ri11, rt11, ri12, rt12, ri13, rt13, ri14, rt14, ri15, rt15, ri16, rt16, ri17, rt17, g1, g2, nameD, h1, h2]
      · have g1 : ¬ (1 : Int) ≤ (z.length : Nat) := by omega
        simp only [↓u_C, ↓u_nil, ↓u_cons, ↓u_tup, ↓u_lst, ↓u_op, ↓u_and, ↓u_or, ↓u_test, ↓u_not, ↓u_notT, ↓u_andT, ↓u_orT, ↓u_ifE, ↓u_chain, ↓k_chT, ↓k_chF, ↓u_CB, ↓u_isi, ↓u_sl, ↓u_noPart, ↓u_part, ↓u_seq, ↓u_next, ↓u_retN, ↓u_bk, ↓u_ct, ↓u_drop, ↓u_ret, ↓u_if, ↓u_asg, ↓u_par, ↓u_prepN, ↓u_prepD, ↓u_prepO, ↓u_allN, ↓u_allC, ↓u_for, ↓u_loopN, ↓u_loopC, ↓u_it, ↓u_stoD, ↓u_stoN, ↓u_stosN, ↓u_stosC, ↓u_range1, ↓u_enum, ↓u_lc, ↓u_lcN, ↓u_lcC, ↓u_yes, ↓u_call, ↓u_argN, ↓u_argD, ↓u_argM, ↓u_argO, ↓u_argT, ↓u_backN, ↓u_backC, ↓u_fn, ↓k_fnO, ↓u_gtupD, ↓u_gtupN, ↓u_gtupL, ↓u_gtupT, ↓u_gN, ↓u_gC, ↓k_subL, ↓u_meth, ↓u_append, ↓u_popAt, ↓u_ixD, ↓u_ixN, ↓u_ixT, ↓u_ixS, ↓u_ixX, ↓u_mod, ↓u_div, ↓u_pow, ↓u_mul, ↓u_lenX, ↓u_lenL, ↓u_lenT, ↓u_lenC, ↓u_lenN, ↓u_addS, ↓u_isiD, ↓u_isiN, ↓u_zip, ↓u_argL, ↓u_argV, ↓u_dc, ↓u_dcN, ↓u_dcC, ↓k_dcX, ↓u_turn, ↓u_neg, ↓u_frz, ↓u_stoT, ↓u_stoL, ↓u_mulT, ↓u_addT, ↓u_listT, ↓u_listL, ↓u_slT, ↓rn_bind, ↓rn_some, ↓rn_iteT, ↓rn_iteF, ↓rv0, ↓ro0, ↓rb0, ↓rn0, ↓rs0, ↓rl0, ↓ra0, ↓rk0, ↓rx0, ↓rg0, ↓rh0, ↓rp0, ↓rv1, ↓ro1, ↓rb1, ↓rn1, ↓rs1, ↓rl1, ↓ra1, ↓rk1, ↓rx1, ↓rg1, ↓rh1, ↓rp1, ↓rv2, ↓ro2, ↓rb2, ↓rn2, ↓rs2, ↓rl2, ↓ra2, ↓rk2, ↓rx2, ↓rg2, ↓rh2, ↓rp2, ↓rv3, ↓ro3, ↓rb3, ↓rn3, ↓rs3, ↓rl3, ↓ra3, ↓rk3, ↓rx3, ↓rg3, ↓rh3, ↓rp3, ↓rv4, ↓ro4, ↓rb4, ↓rn4, ↓rs4, ↓rl4, ↓ra4, ↓rk4, ↓rx4, ↓rg4, ↓rh4, ↓rp4, ↓rv5, ↓ro5, ↓rb5, ↓rn5, ↓rs5, ↓rl5, ↓ra5, ↓rk5, ↓rx5, ↓rg5, ↓rh5, ↓rp5, ↓rv6, ↓ro6, ↓rb6, ↓rn6, ↓rs6, ↓rl6, ↓ra6, ↓rk6, ↓rx6, ↓rg6, ↓rh6, ↓rp6, ↓rv7, ↓ro7, ↓rb7, ↓rn7, ↓rs7, ↓rl7, ↓ra7, ↓rk7, ↓rx7, ↓rg7, ↓rh7, ↓rp7, ↓rv8, ↓ro8, ↓rb8, ↓rn8, ↓rs8, ↓rl8, ↓ra8, ↓rk8, ↓rx8, ↓rg8, ↓rh8, ↓rp8, ↓rv9, ↓ro9, ↓rb9, ↓rn9, ↓rs9, ↓rl9, ↓ra9, ↓rk9, ↓rx9, ↓rg9, ↓rh9, ↓rp9, ↓rv10, ↓ro10, ↓rb10, ↓rn10, ↓rs10, ↓rl10, ↓ra10, ↓rk10, ↓rx10, ↓rg10, ↓rh10, ↓rp10, ↓rv11, ↓ro11, ↓rb11, ↓rn11, ↓rs11, ↓rl11, ↓ra11, ↓rk11, ↓rx11, ↓rg11, ↓rh11, ↓rp11, ↓rv12, ↓ro12, ↓rb12, ↓rn12, ↓rs12, ↓rl12, ↓ra12, ↓rk12, ↓rx12, ↓rg12, ↓rh12, ↓rp12, ↓rv13, ↓ro13, ↓rb13, ↓rn13, ↓rs13, ↓rl13, ↓ra13, ↓rk13, ↓rx13, ↓rg13, ↓rh13, ↓rp13, ↓rv14, ↓ro14, ↓rb14, ↓rn14, ↓rs14, ↓rl14, ↓ra14, ↓rk14, ↓rx14, ↓rg14, ↓rh14, ↓rp14, ↓rv15, ↓ro15, ↓rb15, ↓rn15, ↓rs15, ↓rl15, ↓ra15, ↓rk15, ↓rx15, ↓rg15, ↓rh15, ↓rp15, ↓rv16, ↓ro16, ↓rb16, ↓rn16, ↓rs16, ↓rl16, ↓ra16, ↓rk16, ↓rx16, ↓rg16, ↓rh16, ↓rp16, ↓rv17, ↓ro17, ↓rb17, ↓rn17, ↓rs17, ↓rl17, ↓ra17, ↓rk17, ↓rx17, ↓rg17, ↓rh17, ↓rp17, rn_some, k_andT, k_andF, k_orT, k_orF, k_B, k_int, k_seqN, k_seqR, k_seqB, k_seqC, k_loopN, k_loopR, k_enum, k_fnN, k_fnD, k_fnNew, e_addI, e_subI, e_ltI, e_leI, e_gtI, e_geI, e_eqI, e_neI, e_abs, e_intI, e_intB, e_at0, e_at1, e_at2, e_ix30, e_ix32, List.set_cons_zero, List.set_cons_succ, f1, List.length_cons, List.length_nil, List.all_cons, List.all_nil, cold, hots, hot, List.map_cons, List.map_nil, List.cons_append, List.nil_append, List.append_nil, List.replicate_succ, List.replicate_zero, List.take_succ_cons, List.take_zero, wipeS, backS, noOwn, Nat.reduceAdd, Nat.reduceSub, Nat.reduceLeDiff, Nat.reduceEqDiff, Bool.and_true, Bool.true_and, Bool.and_false, Bool.false_and, Bool.not_true, Bool.not_false, Bool.false_eq_true, Bool.true_eq_false, reduceCtorEq, true_and, and_true, if_true, if_false, decide_true, decide_false, isOk, isA, String.reduceBEq, turn_f, cut_1, k_zipLL, k_zipTT, k_zipTL, e_isN, e_isNot, isNo, beq_self_eq_true, bne_self_eq_false, e_eqB, e_neB, e_eqX, List.any_cons, List.any_nil, Bool.or_true, Bool.true_or, Bool.or_self, reduceIte, Bool.or_false, Bool.false_or, ri0, rt0, ri1, rt1, ri2, rt2, ri3, rt3, ri4, rt4, ri5, rt5, ri6, rt6, ri7, rt7, ri8, rt8, ri9, rt9, ri10, rt10, ri11, rt11, ri12, rt12, ri13, rt13, ri14, rt14, ri15, rt15, ri16, rt16, ri17, rt17, g1, nameD, h1]
    | _ => simp only [↓u_C, ↓u_nil, ↓u_cons, ↓u_tup, ↓u_lst, ↓u_op, ↓u_and, ↓u_or, ↓u_test, ↓u_not, ↓u_notT, ↓u_andT, ↓u_orT, ↓u_ifE, ↓u_chain, ↓k_chT, ↓k_chF, ↓u_CB, ↓u_isi, ↓u_sl, ↓u_noPart, ↓u_part, ↓u_seq, ↓u_next, ↓u_retN, ↓u_bk, ↓u_ct, ↓u_drop, ↓u_ret, ↓u_if, ↓u_asg, ↓u_par, ↓u_prepN, ↓u_prepD, ↓u_prepO, ↓u_allN, ↓u_allC, ↓u_for, ↓u_loopN, ↓u_loopC, ↓u_it, ↓u_stoD, ↓u_stoN, ↓u_stosN, ↓u_stosC, ↓u_range1, ↓u_enum, ↓u_lc, ↓u_lcN, ↓u_lcC, ↓u_yes, ↓u_call, ↓u_argN, ↓u_argD, ↓u_argM, ↓u_argO, ↓u_argT, ↓u_backN, ↓u_backC, ↓u_fn, ↓k_fnO, ↓u_gtupD, ↓u_gtupN, ↓u_gtupL, ↓u_gtupT, ↓u_gN, ↓u_gC, ↓k_subL, ↓u_meth, ↓u_append, ↓u_popAt, ↓u_ixD, ↓u_ixN, ↓u_ixT, ↓u_ixS, ↓u_ixX, ↓u_mod, ↓u_div, ↓u_pow, ↓u_mul, ↓u_lenX, ↓u_lenL, ↓u_lenT, ↓u_lenC, ↓u_lenN, ↓u_addS, ↓u_isiD, ↓u_isiN, ↓u_zip, ↓u_argL, ↓u_argV, ↓u_dc, ↓u_dcN, ↓u_dcC, ↓k_dcX, ↓u_turn, ↓u_neg, ↓u_frz, ↓u_stoT, ↓u_stoL, ↓u_mulT, ↓u_addT, ↓u_listT, ↓u_listL, ↓u_slT, ↓rn_bind, ↓rn_some, ↓rn_iteT, ↓rn_iteF, ↓rv0, ↓ro0, ↓rb0, ↓rn0, ↓rs0, ↓rl0, ↓ra0, ↓rk0, ↓rx0, ↓rg0, ↓rh0, ↓rp0, ↓rv1, ↓ro1, ↓rb1, ↓rn1, ↓rs1, ↓rl1, ↓ra1, ↓rk1, ↓rx1, ↓rg1, ↓rh1, ↓rp1, ↓rv2, ↓ro2, ↓rb2, ↓rn2, ↓rs2, ↓rl2, ↓ra2, ↓rk2, ↓rx2, ↓rg2, ↓rh2, ↓rp2, ↓rv3, ↓ro3, ↓rb3, ↓rn3, ↓rs3, ↓rl3, ↓ra3, ↓rk3, ↓rx3, ↓rg3, ↓rh3, ↓rp3, ↓rv4, ↓ro4, ↓rb4, ↓rn4, ↓rs4, ↓rl4, ↓ra4, ↓rk4, ↓rx4, ↓rg4, ↓rh4, ↓rp4, ↓rv5, ↓ro5, ↓rb5, ↓rn5, ↓rs5, ↓rl5, ↓ra5, ↓rk5, ↓rx5, ↓rg5, ↓rh5, ↓rp5, ↓rv6, ↓ro6, ↓rb6, ↓rn6, ↓rs6, ↓rl6, ↓ra6, ↓rk6, ↓rx6, ↓rg6, ↓rh6, ↓rp6, ↓rv7, ↓ro7, ↓rb7, ↓rn7, ↓rs7, ↓rl7, ↓ra7, ↓rk7, ↓rx7, ↓rg7, ↓rh7, ↓rp7, ↓rv8, ↓ro8, ↓rb8, ↓rn8, ↓rs8, ↓rl8, ↓ra8, ↓rk8, ↓rx8, ↓rg8, ↓rh8, ↓rp8, ↓rv9, ↓ro9, ↓rb9, ↓rn9, ↓rs9, ↓rl9, ↓ra9, ↓rk9, ↓rx9, ↓rg9, ↓rh9, ↓rp9, ↓rv10, ↓ro10, ↓rb10, ↓rn10, ↓rs10, ↓rl10, ↓ra10, ↓rk10, ↓rx10, ↓rg10, ↓rh10, ↓rp10, ↓rv11, ↓ro11, ↓rb11, ↓rn11, ↓rs11, ↓rl11, ↓ra11, ↓rk11, ↓rx11, ↓rg11, ↓rh11, ↓rp11, ↓rv12, ↓ro12, ↓rb12, ↓rn12, ↓rs12, ↓rl12, ↓ra12, ↓rk12, ↓rx12, ↓rg12, ↓rh12, ↓rp12, ↓rv13, ↓ro13, ↓rb13, ↓rn13, ↓rs13, ↓rl13, ↓ra13, ↓rk13, ↓rx13, ↓rg13, ↓rh13, ↓rp13, ↓rv14, ↓ro14, ↓rb14, ↓rn14, ↓rs14, ↓rl14, ↓ra14, ↓rk14, ↓rx14, ↓rg14, ↓rh14, ↓rp14, ↓rv15, ↓ro15, ↓rb15, ↓rn15, ↓rs15, ↓rl15, ↓ra15, ↓rk15, ↓rx15, ↓rg15, ↓rh15, ↓rp15, ↓rv16, ↓ro16, ↓rb16, ↓rn16, ↓rs16, ↓rl16, ↓ra16, ↓rk16, ↓rx16, ↓rg16, ↓rh16, ↓rp16, ↓rv17, ↓ro17, ↓rb17, ↓rn17, ↓rs17, ↓rl17, ↓ra17, ↓rk17, ↓rx17, ↓rg17, ↓rh17, ↓rp17, rn_some, k_andT, k_andF, k_orT, k_orF, k_B, k_int, k_seqN, k_seqR, k_seqB, k_seqC, k_loopN, k_loopR, k_enum, k_fnN, k_fnD, k_fnNew, e_addI, e_subI, e_ltI, e_leI, e_gtI, e_geI, e_eqI, e_neI, e_abs, e_intI, e_intB, e_at0, e_at1, e_at2, e_ix30, e_ix32, List.set_cons_zero, List.set_cons_succ, f1, List.length_cons, List.length_nil, List.all_cons, List.all_nil, cold, hots, hot, List.map_cons, List.map_nil, List.cons_append, List.nil_append, List.append_nil, List.replicate_succ, List.replicate_zero, List.take_succ_cons, List.take_zero, wipeS, backS, noOwn, Nat.reduceAdd, Nat.reduceSub, Nat.reduceLeDiff, Nat.reduceEqDiff, Bool.and_true, Bool.true_and, Bool.and_false, Bool.false_and, Bool.not_true, Bool.not_false, Bool.false_eq_true, Bool.true_eq_false, reduceCtorEq, true_and, and_true, if_true, if_false, decide_true, decide_false, isOk, isA, String.reduceBEq, turn_f, cut_1, k_zipLL, k_zipTT, k_zipTL, e_isN, e_isNot, isNo, beq_self_eq_true, bne_self_eq_false, e_eqB, e_neB, e_eqX, List.any_cons, List.any_nil, Bool.or_true, Bool.true_or, Bool.or_self, reduceIte, Bool.or_false, Bool.false_or, ri0, rt0, ri1, rt1, ri2, rt2, ri3, rt3, ri4, rt4, ri5, rt5, ri6, rt6, ri7, rt7, ri8, rt8, ri9, rt9, ri10, rt10, ri11, rt11, ri12, rt12, ri13, rt13, ri14, rt14, ri15, rt15, ri16, rt16, ri17, rt17, nameD]
  obtain ⟨a, e, rfl⟩ := main
  exact e
end
end Tw

/-! is_act, is_code -/
namespace Tw
open PySem PySem.Spec PyProof.Rows L2
def tabOf : Da → List (Str × Da)
  | .tab kvs => kvs
  | _ => []
abbrev LK := tabOf d_LOOKS
section
variable {w x : Str} {s : S} {n : Bool} {P : RV × S → Prop} {PG : S → Prop} {PS : Fl × S → Prop} {d : Da} {ds : List Da} {i j m : Nat}
theorem in_looks : fInA true (.d (.str w)) (.d d_LOOKS) s = some (.d (.bl (!(LK.lookup w).isSome)), s) := rfl
theorem ix_tab {kvs : List (Str × Da)} : Rn (fIxA (.d (.tab kvs)) (.d (.str w)) s) P = Rn (kvs.lookup w) fun d => P (.d d, s) := by
  show Rn ((kvs.lookup w).bind fun d => some (RV.d d, s)) P = _
  rw [rn_bind]
  simp only [rn_some]
theorem ix_looks : Rn (fIxA (.d d_LOOKS) (.d (.str w)) s) P = Rn (LK.lookup w) fun d => P (.d d, s) := ix_tab
theorem ix_lacks : Rn (fIxA (.d d_LACKS_BELOW) (.d (.str w)) s) P = Rn ((tabOf d_LACKS_BELOW).lookup w) fun d => P (.d d, s) := ix_tab
theorem ix_leaves : Rn (fIxA (.d d_LEAVES_MORE) (.d (.str w)) s) P = Rn ((tabOf d_LEAVES_MORE).lookup w) fun d => P (.d d, s) := ix_tab
theorem u_star : Rn (wgStar i j (.d (.tup (d :: ds))) s) PG = PG ((s.set i (.dat d)).set j (.own (.lst ds))) := rn_some
theorem u_callH4 {ms : List Bool} {tab : List (Str × WF)} {u : WA} {a0 a1 a2 a3 : SV} : Rn (wCallH m 4 ms tab u (a0 :: a1 :: a2 :: a3 :: .dat (.fn x) :: s)) P = Rn (tab.lookup x) fun F => Rn (wCall m ms F u (a0 :: a1 :: a2 :: a3 :: .dat (.fn x) :: s)) P := by
  show Rn ((tab.lookup x).bind fun F => wCall m ms F u (a0 :: a1 :: a2 :: a3 :: .dat (.fn x) :: s)) P = _
  rw [rn_bind]
variable {F G I : WF}
theorem l_name : List.lookup ("is_name" : Str) [("is_name", F), ("is_item", G), ("is_place", I)] = some F := rfl
theorem l_item : List.lookup ("is_item" : Str) [("is_name", F), ("is_item", G), ("is_place", I)] = some G := rfl
theorem l_place : List.lookup ("is_place" : Str) [("is_name", F), ("is_item", G), ("is_place", I)] = some I := rfl
theorem lookup_mem {α : Type} {v : α} : ∀ {l : List (Str × α)}, l.lookup w = some v → ∃ k, k = w ∧ (k, v) ∈ l
  | [], h => by cases h
  | (k, u) :: l, h => by
    rw [List.lookup_cons] at h
    split at h
    · rename_i e
      cases h
      exact ⟨k, by simpa using (beq_iff_eq.mp e).symm, by simp⟩
    · obtain ⟨k', e, hm⟩ := lookup_mem h
      exact ⟨k', e, List.mem_cons_of_mem _ hm⟩
theorem looks_are {v : Da} (h : LK.lookup w = some v) : v = .tup [] ∨ v = .tup [.fn "is_name"] ∨ v = .tup [.fn "is_item"] ∨ v = .tup [.fn "is_place"] := by
  obtain ⟨k, _, hm⟩ := lookup_mem h
  simp only [LK, tabOf, d_LOOKS, List.mem_cons, Prod.mk.injEq, List.not_mem_nil, or_false] at hm
  rcases hm with ⟨_, rfl⟩ | ⟨_, rfl⟩ | ⟨_, rfl⟩ | ⟨_, rfl⟩ | ⟨_, rfl⟩ | ⟨_, rfl⟩ | ⟨_, rfl⟩ | ⟨_, rfl⟩ | ⟨_, rfl⟩ | ⟨_, rfl⟩ | ⟨_, rfl⟩ | ⟨_, rfl⟩ | ⟨_, rfl⟩ <;> simp
end
def runF : Da → Da → Bool
  | .fn x, d => if x = "is_name" then nameD d else if x = "is_item" then withinB d 0 999999 else withinB d 0 3
  | _, _ => false
theorem rf_name {y : Da} : runF (.fn "is_name") y = nameD y := rfl
theorem rf_item {y : Da} : runF (.fn "is_item") y = withinB y 0 999999 := rfl
theorem rf_place {y : Da} : runF (.fn "is_place") y = withinB y 0 3 := rfl
def actB : Da → Bool
  | .tup (.str w :: rest) => match LK.lookup w, rest with
    | some (.tup []), [] => true
    | some (.tup [f]), [x] => runF f x
    | _, _ => false
  | _ => false
theorem plains_mem : ∀ {ds : List Da}, plains ds = true → ∀ x ∈ ds, plain x = true
  | [], _, x, h => by simp at h
  | d :: ds, q, x, h => by
    simp only [plains, Bool.and_eq_true] at q
    rcases List.mem_cons.mp h with rfl | h
    · exact q.1
    · exact plains_mem q.2 x h
theorem okOf {d : Da} (h : plain d = true) : isOk d = true := by
  cases d <;> first | rfl | cases h
theorem is_act_eq {d : Da} (h : plain d = true) : w_is_act [.dat d] = some (.d (.bl (actB d)), [.dat d]) := by
  have main : Rn (w_is_act [.dat d]) fun p => p = (.d (.bl (actB d)), [.dat d]) := by
    unfold w_is_act
    cases d with
    | dct _ => cases h
    | fn _ => cases h
    | tab _ => cases h
    | tup ds =>
      cases ds with
      | nil => simp (maxSteps := 20000000) only [↓u_C, ↓u_nil, ↓u_cons, ↓u_tup, ↓u_lst, ↓u_op, ↓u_and, ↓u_or, ↓u_test, ↓u_not, ↓u_notT, ↓u_andT, ↓u_orT, ↓u_ifE, ↓u_chain, ↓k_chT, ↓k_chF, ↓u_CB, ↓u_isi, ↓u_sl, ↓u_noPart, ↓u_part, ↓u_seq, ↓u_next, ↓u_retN, ↓u_bk, ↓u_ct, ↓u_drop, ↓u_ret, ↓u_if, ↓u_asg, ↓u_par, ↓u_prepN, ↓u_prepD, ↓u_prepO, ↓u_allN, ↓u_allC, ↓u_for, ↓u_loopN, ↓u_loopC, ↓u_it, ↓u_stoD, ↓u_stoN, ↓u_stosN, ↓u_stosC, ↓u_range1, ↓u_enum, ↓u_lc, ↓u_lcN, ↓u_lcC, ↓u_yes, ↓u_call, ↓u_argN, ↓u_argD, ↓u_argM, ↓u_argO, ↓u_argT, ↓u_backN, ↓u_backC, ↓u_fn, ↓k_fnO, ↓u_gtupD, ↓u_gtupN, ↓u_gtupL, ↓u_gtupT, ↓u_gN, ↓u_gC, ↓k_subL, ↓u_meth, ↓u_append, ↓u_popAt, ↓u_ixD, ↓u_ixN, ↓u_ixT, ↓u_ixS, ↓u_ixX, ↓u_mod, ↓u_div, ↓u_pow, ↓u_mul, ↓u_lenX, ↓u_lenL, ↓u_lenT, ↓u_lenC, ↓u_lenN, ↓u_addS, ↓u_isiD, ↓u_isiN, ↓u_zip, ↓u_argL, ↓u_argV, ↓u_dc, ↓u_dcN, ↓u_dcC, ↓k_dcX, ↓u_turn, ↓u_neg, ↓u_frz, ↓u_stoT, ↓u_stoL, ↓u_mulT, ↓u_addT, ↓u_listT, ↓u_listL, ↓u_slT, ↓rn_bind, ↓rn_some, ↓rn_iteT, ↓rn_iteF, ↓rv0, ↓ro0, ↓rb0, ↓rn0, ↓rs0, ↓rl0, ↓ra0, ↓rk0, ↓rx0, ↓rg0, ↓rh0, ↓rp0, ↓rv1, ↓ro1, ↓rb1, ↓rn1, ↓rs1, ↓rl1, ↓ra1, ↓rk1, ↓rx1, ↓rg1, ↓rh1, ↓rp1, ↓rv2, ↓ro2, ↓rb2, ↓rn2, ↓rs2, ↓rl2, ↓ra2, ↓rk2, ↓rx2, ↓rg2, ↓rh2, ↓rp2, ↓rv3, ↓ro3, ↓rb3, ↓rn3, ↓rs3, ↓rl3, ↓ra3, ↓rk3, ↓rx3, ↓rg3, ↓rh3, ↓rp3, ↓rv4, ↓ro4, ↓rb4, ↓rn4, ↓rs4, ↓rl4, ↓ra4, ↓rk4, ↓rx4, ↓rg4, ↓rh4, ↓rp4, ↓rv5, ↓ro5, ↓rb5, ↓rn5, ↓rs5, ↓rl5, ↓ra5, ↓rk5, ↓rx5, ↓rg5, ↓rh5, ↓rp5, ↓rv6, ↓ro6, ↓rb6, ↓rn6, ↓rs6, ↓rl6, ↓ra6, ↓rk6, ↓rx6, ↓rg6, ↓rh6, ↓rp6, ↓rv7, ↓ro7, ↓rb7, ↓rn7, ↓rs7, ↓rl7, ↓ra7, ↓rk7, ↓rx7, ↓rg7, ↓rh7, ↓rp7, ↓rv8, ↓ro8, ↓rb8, ↓rn8, ↓rs8, ↓rl8, ↓ra8, ↓rk8, ↓rx8, ↓rg8, ↓rh8, ↓rp8, ↓rv9, ↓ro9, ↓rb9, ↓rn9, ↓rs9, ↓rl9, ↓ra9, ↓rk9, ↓rx9, ↓rg9, ↓rh9, ↓rp9, ↓rv10, ↓ro10, ↓rb10, ↓rn10, ↓rs10, ↓rl10, ↓ra10, ↓rk10, ↓rx10, ↓rg10, ↓rh10, ↓rp10, ↓rv11, ↓ro11, ↓rb11, ↓rn11, ↓rs11, ↓rl11, ↓ra11, ↓rk11, ↓rx11, ↓rg11, ↓rh11, ↓rp11, ↓rv12, ↓ro12, ↓rb12, ↓rn12, ↓rs12, ↓rl12, ↓ra12, ↓rk12, ↓rx12, ↓rg12, ↓rh12, ↓rp12, ↓rv13, ↓ro13, ↓rb13, ↓rn13, ↓rs13, ↓rl13, ↓ra13, ↓rk13, ↓rx13, ↓rg13, ↓rh13, ↓rp13, ↓rv14, ↓ro14, ↓rb14, ↓rn14, ↓rs14, ↓rl14, ↓ra14, ↓rk14, ↓rx14, ↓rg14, ↓rh14, ↓rp14, ↓rv15, ↓ro15, ↓rb15, ↓rn15, ↓rs15, ↓rl15, ↓ra15, ↓rk15, ↓rx15, ↓rg15, ↓rh15, ↓rp15, ↓rv16, ↓ro16, ↓rb16, ↓rn16, ↓rs16, ↓rl16, ↓ra16, ↓rk16, ↓rx16, ↓rg16, ↓rh16, ↓rp16, ↓rv17, ↓ro17, ↓rb17, ↓rn17, ↓rs17, ↓rl17, ↓ra17, ↓rk17, ↓rx17, ↓rg17, ↓rh17, ↓rp17, rn_some, k_andT, k_andF, k_orT, k_orF, k_B, k_int, k_seqN, k_seqR, k_seqB, k_seqC, k_loopN, k_loopR, k_enum, k_fnN, k_fnD, k_fnNew, e_addI, e_subI, e_ltI, e_leI, e_gtI, e_geI, e_eqI, e_neI, e_abs, e_intI, e_intB, e_at0, e_at1, e_at2, e_ix30, e_ix32, List.set_cons_zero, List.set_cons_succ, f1, List.length_cons, List.length_nil, List.all_cons, List.all_nil, cold, hots, hot, List.map_cons, List.map_nil, List.cons_append, List.nil_append, List.append_nil, List.replicate_succ, List.replicate_zero, List.take_succ_cons, List.take_zero, wipeS, backS, noOwn, Nat.reduceAdd, Nat.reduceSub, Nat.reduceLeDiff, Nat.reduceEqDiff, Bool.and_true, Bool.true_and, Bool.and_false, Bool.false_and, Bool.not_true, Bool.not_false, Bool.false_eq_true, Bool.true_eq_false, reduceCtorEq, true_and, and_true, if_true, if_false, decide_true, decide_false, isOk, isA, String.reduceBEq, turn_f, cut_1, k_zipLL, k_zipTT, k_zipTL, e_isN, e_isNot, isNo, beq_self_eq_true, bne_self_eq_false, e_eqB, e_neB, e_eqX, List.any_cons, List.any_nil, Bool.or_true, Bool.true_or, Bool.or_self, reduceIte, Bool.or_false, Bool.false_or, ri0, rt0, ri1, rt1, ri2, rt2, ri3, rt3, ri4, rt4, ri5, rt5, ri6, rt6, ri7, rt7, ri8, rt8, ri9, rt9, ri10, rt10, ri11, rt11, ri12, rt12, ri13, rt13, ri14, rt14, ri15, rt15, ri16, rt16, ri17, rt17, cast0, cast1, Int.cast_ofNat_Int, Int.reduceEq, Int.reduceLT, Int.reduceLE, Int.reduceAdd, Int.reduceSub, Int.reduceMul, Nat.reduceLT, Int.reduceToNat, Int.reducePow, Int.reduceNeg, Int.reduceNegSucc, cp6, seqD, List.flatten_cons, List.flatten_nil, List.reduceReplicate, actB]
      | cons x rest =>
        have hx : plain x = true := by
          have : plains (x :: rest) = true := h
          simp only [plains, Bool.and_eq_true] at this
          exact this.1
        have ne : ¬ ((rest.length + 1 : Nat) : Int) = 0 := by omega
        cases x with
        | dct _ => cases hx
        | fn _ => cases hx
        | tab _ => cases hx
        | str w =>
          simp (maxSteps := 20000000) only [↓u_C, ↓u_nil, ↓u_cons, ↓u_tup, ↓u_lst, ↓u_op, ↓u_and, ↓u_or, ↓u_test, ↓u_not, ↓u_notT, ↓u_andT, ↓u_orT, ↓u_ifE, ↓u_chain, ↓k_chT, ↓k_chF, ↓u_CB, ↓u_isi, ↓u_sl, ↓u_noPart, ↓u_part, ↓u_seq, ↓u_next, ↓u_retN, ↓u_bk, ↓u_ct, ↓u_drop, ↓u_ret, ↓u_if, ↓u_asg, ↓u_par, ↓u_prepN, ↓u_prepD, ↓u_prepO, ↓u_allN, ↓u_allC, ↓u_for, ↓u_loopN, ↓u_loopC, ↓u_it, ↓u_stoD, ↓u_stoN, ↓u_stosN, ↓u_stosC, ↓u_range1, ↓u_enum, ↓u_lc, ↓u_lcN, ↓u_lcC, ↓u_yes, ↓u_call, ↓u_argN, ↓u_argD, ↓u_argM, ↓u_argO, ↓u_argT, ↓u_backN, ↓u_backC, ↓u_fn, ↓k_fnO, ↓u_gtupD, ↓u_gtupN, ↓u_gtupL, ↓u_gtupT, ↓u_gN, ↓u_gC, ↓k_subL, ↓u_meth, ↓u_append, ↓u_popAt, ↓u_ixD, ↓u_ixN, ↓u_ixT, ↓u_ixS, ↓u_ixX, ↓u_mod, ↓u_div, ↓u_pow, ↓u_mul, ↓u_lenX, ↓u_lenL, ↓u_lenT, ↓u_lenC, ↓u_lenN, ↓u_addS, ↓u_isiD, ↓u_isiN, ↓u_zip, ↓u_argL, ↓u_argV, ↓u_dc, ↓u_dcN, ↓u_dcC, ↓k_dcX, ↓u_turn, ↓u_neg, ↓u_frz, ↓u_stoT, ↓u_stoL, ↓u_mulT, ↓u_addT, ↓u_listT, ↓u_listL, ↓u_slT, ↓rn_bind, ↓rn_some, ↓rn_iteT, ↓rn_iteF, ↓rv0, ↓ro0, ↓rb0, ↓rn0, ↓rs0, ↓rl0, ↓ra0, ↓rk0, ↓rx0, ↓rg0, ↓rh0, ↓rp0, ↓rv1, ↓ro1, ↓rb1, ↓rn1, ↓rs1, ↓rl1, ↓ra1, ↓rk1, ↓rx1, ↓rg1, ↓rh1, ↓rp1, ↓rv2, ↓ro2, ↓rb2, ↓rn2, ↓rs2, ↓rl2, ↓ra2, ↓rk2, ↓rx2, ↓rg2, ↓rh2, ↓rp2, ↓rv3, ↓ro3, ↓rb3, ↓rn3, ↓rs3, ↓rl3, ↓ra3, ↓rk3, ↓rx3, ↓rg3, ↓rh3, ↓rp3, ↓rv4, ↓ro4, ↓rb4, ↓rn4, ↓rs4, ↓rl4, ↓ra4, ↓rk4, ↓rx4, ↓rg4, ↓rh4, ↓rp4, ↓rv5, ↓ro5, ↓rb5, ↓rn5, ↓rs5, ↓rl5, ↓ra5, ↓rk5, ↓rx5, ↓rg5, ↓rh5, ↓rp5, ↓rv6, ↓ro6, ↓rb6, ↓rn6, ↓rs6, ↓rl6, ↓ra6, ↓rk6, ↓rx6, ↓rg6, ↓rh6, ↓rp6, ↓rv7, ↓ro7, ↓rb7, ↓rn7, ↓rs7, ↓rl7, ↓ra7, ↓rk7, ↓rx7, ↓rg7, ↓rh7, ↓rp7, ↓rv8, ↓ro8, ↓rb8, ↓rn8, ↓rs8, ↓rl8, ↓ra8, ↓rk8, ↓rx8, ↓rg8, ↓rh8, ↓rp8, ↓rv9, ↓ro9, ↓rb9, ↓rn9, ↓rs9, ↓rl9, ↓ra9, ↓rk9, ↓rx9, ↓rg9, ↓rh9, ↓rp9, ↓rv10, ↓ro10, ↓rb10, ↓rn10, ↓rs10, ↓rl10, ↓ra10, ↓rk10, ↓rx10, ↓rg10, ↓rh10, ↓rp10, ↓rv11, ↓ro11, ↓rb11, ↓rn11, ↓rs11, ↓rl11, ↓ra11, ↓rk11, ↓rx11, ↓rg11, ↓rh11, ↓rp11, ↓rv12, ↓ro12, ↓rb12, ↓rn12, ↓rs12, ↓rl12, ↓ra12, ↓rk12, ↓rx12, ↓rg12, ↓rh12, ↓rp12, ↓rv13, ↓ro13, ↓rb13, ↓rn13, ↓rs13, ↓rl13, ↓ra13, ↓rk13, ↓rx13, ↓rg13, ↓rh13, ↓rp13, ↓rv14, ↓ro14, ↓rb14, ↓rn14, ↓rs14, ↓rl14, ↓ra14, ↓rk14, ↓rx14, ↓rg14, ↓rh14, ↓rp14, ↓rv15, ↓ro15, ↓rb15, ↓rn15, ↓rs15, ↓rl15, ↓ra15, ↓rk15, ↓rx15, ↓rg15, ↓rh15, ↓rp15, ↓rv16, ↓ro16, ↓rb16, ↓rn16, ↓rs16, ↓rl16, ↓ra16, ↓rk16, ↓rx16, ↓rg16, ↓rh16, ↓rp16, ↓rv17, ↓ro17, ↓rb17, ↓rn17, ↓rs17, ↓rl17, ↓ra17, ↓rk17, ↓rx17, ↓rg17, ↓rh17, ↓rp17, rn_some, k_andT, k_andF, k_orT, k_orF, k_B, k_int, k_seqN, k_seqR, k_seqB, k_seqC, k_loopN, k_loopR, k_enum, k_fnN, k_fnD, k_fnNew, e_addI, e_subI, e_ltI, e_leI, e_gtI, e_geI, e_eqI, e_neI, e_abs, e_intI, e_intB, e_at0, e_at1, e_at2, e_ix30, e_ix32, List.set_cons_zero, List.set_cons_succ, f1, List.length_cons, List.length_nil, List.all_cons, List.all_nil, cold, hots, hot, List.map_cons, List.map_nil, List.cons_append, List.nil_append, List.append_nil, List.replicate_succ, List.replicate_zero, List.take_succ_cons, List.take_zero, wipeS, backS, noOwn, Nat.reduceAdd, Nat.reduceSub, Nat.reduceLeDiff, Nat.reduceEqDiff, Bool.and_true, Bool.true_and, Bool.and_false, Bool.false_and, Bool.not_true, Bool.not_false, Bool.false_eq_true, Bool.true_eq_false, reduceCtorEq, true_and, and_true, if_true, if_false, decide_true, decide_false, isOk, isA, String.reduceBEq, turn_f, cut_1, k_zipLL, k_zipTT, k_zipTL, e_isN, e_isNot, isNo, beq_self_eq_true, bne_self_eq_false, e_eqB, e_neB, e_eqX, List.any_cons, List.any_nil, Bool.or_true, Bool.true_or, Bool.or_self, reduceIte, Bool.or_false, Bool.false_or, ri0, rt0, ri1, rt1, ri2, rt2, ri3, rt3, ri4, rt4, ri5, rt5, ri6, rt6, ri7, rt7, ri8, rt8, ri9, rt9, ri10, rt10, ri11, rt11, ri12, rt12, ri13, rt13, ri14, rt14, ri15, rt15, ri16, rt16, ri17, rt17, cast0, cast1, Int.cast_ofNat_Int, Int.reduceEq, Int.reduceLT, Int.reduceLE, Int.reduceAdd, Int.reduceSub, Int.reduceMul, Nat.reduceLT, Int.reduceToNat, Int.reducePow, Int.reduceNeg, Int.reduceNegSucc, cp6, seqD, List.flatten_cons, List.flatten_nil, List.reduceReplicate, ne, in_looks]
          cases hl : LK.lookup w with
          | none =>
            simp (maxSteps := 20000000) only [↓u_C, ↓u_nil, ↓u_cons, ↓u_tup, ↓u_lst, ↓u_op, ↓u_and, ↓u_or, ↓u_test, ↓u_not, ↓u_notT, ↓u_andT, ↓u_orT, ↓u_ifE, ↓u_chain, ↓k_chT, ↓k_chF, ↓u_CB, ↓u_isi, ↓u_sl, ↓u_noPart, ↓u_part, ↓u_seq, ↓u_next, ↓u_retN, ↓u_bk, ↓u_ct, ↓u_drop, ↓u_ret, ↓u_if, ↓u_asg, ↓u_par, ↓u_prepN, ↓u_prepD, ↓u_prepO, ↓u_allN, ↓u_allC, ↓u_for, ↓u_loopN, ↓u_loopC, ↓u_it, ↓u_stoD, ↓u_stoN, ↓u_stosN, ↓u_stosC, ↓u_range1, ↓u_enum, ↓u_lc, ↓u_lcN, ↓u_lcC, ↓u_yes, ↓u_call, ↓u_argN, ↓u_argD, ↓u_argM, ↓u_argO, ↓u_argT, ↓u_backN, ↓u_backC, ↓u_fn, ↓k_fnO, ↓u_gtupD, ↓u_gtupN, ↓u_gtupL, ↓u_gtupT, ↓u_gN, ↓u_gC, ↓k_subL, ↓u_meth, ↓u_append, ↓u_popAt, ↓u_ixD, ↓u_ixN, ↓u_ixT, ↓u_ixS, ↓u_ixX, ↓u_mod, ↓u_div, ↓u_pow, ↓u_mul, ↓u_lenX, ↓u_lenL, ↓u_lenT, ↓u_lenC, ↓u_lenN, ↓u_addS, ↓u_isiD, ↓u_isiN, ↓u_zip, ↓u_argL, ↓u_argV, ↓u_dc, ↓u_dcN, ↓u_dcC, ↓k_dcX, ↓u_turn, ↓u_neg, ↓u_frz, ↓u_stoT, ↓u_stoL, ↓u_mulT, ↓u_addT, ↓u_listT, ↓u_listL, ↓u_slT, ↓rn_bind, ↓rn_some, ↓rn_iteT, ↓rn_iteF, ↓rv0, ↓ro0, ↓rb0, ↓rn0, ↓rs0, ↓rl0, ↓ra0, ↓rk0, ↓rx0, ↓rg0, ↓rh0, ↓rp0, ↓rv1, ↓ro1, ↓rb1, ↓rn1, ↓rs1, ↓rl1, ↓ra1, ↓rk1, ↓rx1, ↓rg1, ↓rh1, ↓rp1, ↓rv2, ↓ro2, ↓rb2, ↓rn2, ↓rs2, ↓rl2, ↓ra2, ↓rk2, ↓rx2, ↓rg2, ↓rh2, ↓rp2, ↓rv3, ↓ro3, ↓rb3, ↓rn3, ↓rs3, ↓rl3, ↓ra3, ↓rk3, ↓rx3, ↓rg3, ↓rh3, ↓rp3, ↓rv4, ↓ro4, ↓rb4, ↓rn4, ↓rs4, ↓rl4, ↓ra4, ↓rk4, ↓rx4, ↓rg4, ↓rh4, ↓rp4, ↓rv5, ↓ro5, ↓rb5, ↓rn5, ↓rs5, ↓rl5, ↓ra5, ↓rk5, ↓rx5, ↓rg5, ↓rh5, ↓rp5, ↓rv6, ↓ro6, ↓rb6, ↓rn6, ↓rs6, ↓rl6, ↓ra6, ↓rk6, ↓rx6, ↓rg6, ↓rh6, ↓rp6, ↓rv7, ↓ro7, ↓rb7, ↓rn7, ↓rs7, ↓rl7, ↓ra7, ↓rk7, ↓rx7, ↓rg7, ↓rh7, ↓rp7, ↓rv8, ↓ro8, ↓rb8, ↓rn8, ↓rs8, ↓rl8, ↓ra8, ↓rk8, ↓rx8, ↓rg8, ↓rh8, ↓rp8, ↓rv9, ↓ro9, ↓rb9, ↓rn9, ↓rs9, ↓rl9, ↓ra9, ↓rk9, ↓rx9, ↓rg9, ↓rh9, ↓rp9, ↓rv10, ↓ro10, ↓rb10, ↓rn10, ↓rs10, ↓rl10, ↓ra10, ↓rk10, ↓rx10, ↓rg10, ↓rh10, ↓rp10, ↓rv11, ↓ro11, ↓rb11, ↓rn11, ↓rs11, ↓rl11, ↓ra11, ↓rk11, ↓rx11, ↓rg11, ↓rh11, ↓rp11, ↓rv12, ↓ro12, ↓rb12, ↓rn12, ↓rs12, ↓rl12, ↓ra12, ↓rk12, ↓rx12, ↓rg12, ↓rh12, ↓rp12, ↓rv13, ↓ro13, ↓rb13, ↓rn13, ↓rs13, ↓rl13, ↓ra13, ↓rk13, ↓rx13, ↓rg13, ↓rh13, ↓rp13, ↓rv14, ↓ro14, ↓rb14, ↓rn14, ↓rs14, ↓rl14, ↓ra14, ↓rk14, ↓rx14, ↓rg14, ↓rh14, ↓rp14, ↓rv15, ↓ro15, ↓rb15, ↓rn15, ↓rs15, ↓rl15, ↓ra15, ↓rk15, ↓rx15, ↓rg15, ↓rh15, ↓rp15, ↓rv16, ↓ro16, ↓rb16, ↓rn16, ↓rs16, ↓rl16, ↓ra16, ↓rk16, ↓rx16, ↓rg16, ↓rh16, ↓rp16, ↓rv17, ↓ro17, ↓rb17, ↓rn17, ↓rs17, ↓rl17, ↓ra17, ↓rk17, ↓rx17, ↓rg17, ↓rh17, ↓rp17, rn_some, k_andT, k_andF, k_orT, k_orF, k_B, k_int, k_seqN, k_seqR, k_seqB, k_seqC, k_loopN, k_loopR, k_enum, k_fnN, k_fnD, k_fnNew, e_addI, e_subI, e_ltI, e_leI, e_gtI, e_geI, e_eqI, e_neI, e_abs, e_intI, e_intB, e_at0, e_at1, e_at2, e_ix30, e_ix32, List.set_cons_zero, List.set_cons_succ, f1, List.length_cons, List.length_nil, List.all_cons, List.all_nil, cold, hots, hot, List.map_cons, List.map_nil, List.cons_append, List.nil_append, List.append_nil, List.replicate_succ, List.replicate_zero, List.take_succ_cons, List.take_zero, wipeS, backS, noOwn, Nat.reduceAdd, Nat.reduceSub, Nat.reduceLeDiff, Nat.reduceEqDiff, Bool.and_true, Bool.true_and, Bool.and_false, Bool.false_and, Bool.not_true, Bool.not_false, Bool.false_eq_true, Bool.true_eq_false, reduceCtorEq, true_and, and_true, if_true, if_false, decide_true, decide_false, isOk, isA, String.reduceBEq, turn_f, cut_1, k_zipLL, k_zipTT, k_zipTL, e_isN, e_isNot, isNo, beq_self_eq_true, bne_self_eq_false, e_eqB, e_neB, e_eqX, List.any_cons, List.any_nil, Bool.or_true, Bool.true_or, Bool.or_self, reduceIte, Bool.or_false, Bool.false_or, ri0, rt0, ri1, rt1, ri2, rt2, ri3, rt3, ri4, rt4, ri5, rt5, ri6, rt6, ri7, rt7, ri8, rt8, ri9, rt9, ri10, rt10, ri11, rt11, ri12, rt12, ri13, rt13, ri14, rt14, ri15, rt15, ri16, rt16, ri17, rt17, cast0, cast1, Int.cast_ofNat_Int, Int.reduceEq, Int.reduceLT, Int.reduceLE, Int.reduceAdd, Int.reduceSub, Int.reduceMul, Nat.reduceLT, Int.reduceToNat, Int.reducePow, Int.reduceNeg, Int.reduceNegSucc, cp6, seqD, List.flatten_cons, List.flatten_nil, List.reduceReplicate, actB, hl, Option.isSome_none]
          | some v =>
            simp (maxSteps := 20000000) only [↓u_C, ↓u_nil, ↓u_cons, ↓u_tup, ↓u_lst, ↓u_op, ↓u_and, ↓u_or, ↓u_test, ↓u_not, ↓u_notT, ↓u_andT, ↓u_orT, ↓u_ifE, ↓u_chain, ↓k_chT, ↓k_chF, ↓u_CB, ↓u_isi, ↓u_sl, ↓u_noPart, ↓u_part, ↓u_seq, ↓u_next, ↓u_retN, ↓u_bk, ↓u_ct, ↓u_drop, ↓u_ret, ↓u_if, ↓u_asg, ↓u_par, ↓u_prepN, ↓u_prepD, ↓u_prepO, ↓u_allN, ↓u_allC, ↓u_for, ↓u_loopN, ↓u_loopC, ↓u_it, ↓u_stoD, ↓u_stoN, ↓u_stosN, ↓u_stosC, ↓u_range1, ↓u_enum, ↓u_lc, ↓u_lcN, ↓u_lcC, ↓u_yes, ↓u_call, ↓u_argN, ↓u_argD, ↓u_argM, ↓u_argO, ↓u_argT, ↓u_backN, ↓u_backC, ↓u_fn, ↓k_fnO, ↓u_gtupD, ↓u_gtupN, ↓u_gtupL, ↓u_gtupT, ↓u_gN, ↓u_gC, ↓k_subL, ↓u_meth, ↓u_append, ↓u_popAt, ↓u_ixD, ↓u_ixN, ↓u_ixT, ↓u_ixS, ↓u_ixX, ↓u_mod, ↓u_div, ↓u_pow, ↓u_mul, ↓u_lenX, ↓u_lenL, ↓u_lenT, ↓u_lenC, ↓u_lenN, ↓u_addS, ↓u_isiD, ↓u_isiN, ↓u_zip, ↓u_argL, ↓u_argV, ↓u_dc, ↓u_dcN, ↓u_dcC, ↓k_dcX, ↓u_turn, ↓u_neg, ↓u_frz, ↓u_stoT, ↓u_stoL, ↓u_mulT, ↓u_addT, ↓u_listT, ↓u_listL, ↓u_slT, ↓rn_bind, ↓rn_some, ↓rn_iteT, ↓rn_iteF, ↓rv0, ↓ro0, ↓rb0, ↓rn0, ↓rs0, ↓rl0, ↓ra0, ↓rk0, ↓rx0, ↓rg0, ↓rh0, ↓rp0, ↓rv1, ↓ro1, ↓rb1, ↓rn1, ↓rs1, ↓rl1, ↓ra1, ↓rk1, ↓rx1, ↓rg1, ↓rh1, ↓rp1, ↓rv2, ↓ro2, ↓rb2, ↓rn2, ↓rs2, ↓rl2, ↓ra2, ↓rk2, ↓rx2, ↓rg2, ↓rh2, ↓rp2, ↓rv3, ↓ro3, ↓rb3, ↓rn3, ↓rs3, ↓rl3, ↓ra3, ↓rk3, ↓rx3, ↓rg3, ↓rh3, ↓rp3, ↓rv4, ↓ro4, ↓rb4, ↓rn4, ↓rs4, ↓rl4, ↓ra4, ↓rk4, ↓rx4, ↓rg4, ↓rh4, ↓rp4, ↓rv5, ↓ro5, ↓rb5, ↓rn5, ↓rs5, ↓rl5, ↓ra5, ↓rk5, ↓rx5, ↓rg5, ↓rh5, ↓rp5, ↓rv6, ↓ro6, ↓rb6, ↓rn6, ↓rs6, ↓rl6, ↓ra6, ↓rk6, ↓rx6, ↓rg6, ↓rh6, ↓rp6, ↓rv7, ↓ro7, ↓rb7, ↓rn7, ↓rs7, ↓rl7, ↓ra7, ↓rk7, ↓rx7, ↓rg7, ↓rh7, ↓rp7, ↓rv8, ↓ro8, ↓rb8, ↓rn8, ↓rs8, ↓rl8, ↓ra8, ↓rk8, ↓rx8, ↓rg8, ↓rh8, ↓rp8, ↓rv9, ↓ro9, ↓rb9, ↓rn9, ↓rs9, ↓rl9, ↓ra9, ↓rk9, ↓rx9, ↓rg9, ↓rh9, ↓rp9, ↓rv10, ↓ro10, ↓rb10, ↓rn10, ↓rs10, ↓rl10, ↓ra10, ↓rk10, ↓rx10, ↓rg10, ↓rh10, ↓rp10, ↓rv11, ↓ro11, ↓rb11, ↓rn11, ↓rs11, ↓rl11, ↓ra11, ↓rk11, ↓rx11, ↓rg11, ↓rh11, ↓rp11, ↓rv12, ↓ro12, ↓rb12, ↓rn12, ↓rs12, ↓rl12, ↓ra12, ↓rk12, ↓rx12, ↓rg12, ↓rh12, ↓rp12, ↓rv13, ↓ro13, ↓rb13, ↓rn13, ↓rs13, ↓rl13, ↓ra13, ↓rk13, ↓rx13, ↓rg13, ↓rh13, ↓rp13, ↓rv14, ↓ro14, ↓rb14, ↓rn14, ↓rs14, ↓rl14, ↓ra14, ↓rk14, ↓rx14, ↓rg14, ↓rh14, ↓rp14, ↓rv15, ↓ro15, ↓rb15, ↓rn15, ↓rs15, ↓rl15, ↓ra15, ↓rk15, ↓rx15, ↓rg15, ↓rh15, ↓rp15, ↓rv16, ↓ro16, ↓rb16, ↓rn16, ↓rs16, ↓rl16, ↓ra16, ↓rk16, ↓rx16, ↓rg16, ↓rh16, ↓rp16, ↓rv17, ↓ro17, ↓rb17, ↓rn17, ↓rs17, ↓rl17, ↓ra17, ↓rk17, ↓rx17, ↓rg17, ↓rh17, ↓rp17, rn_some, k_andT, k_andF, k_orT, k_orF, k_B, k_int, k_seqN, k_seqR, k_seqB, k_seqC, k_loopN, k_loopR, k_enum, k_fnN, k_fnD, k_fnNew, e_addI, e_subI, e_ltI, e_leI, e_gtI, e_geI, e_eqI, e_neI, e_abs, e_intI, e_intB, e_at0, e_at1, e_at2, e_ix30, e_ix32, List.set_cons_zero, List.set_cons_succ, f1, List.length_cons, List.length_nil, List.all_cons, List.all_nil, cold, hots, hot, List.map_cons, List.map_nil, List.cons_append, List.nil_append, List.append_nil, List.replicate_succ, List.replicate_zero, List.take_succ_cons, List.take_zero, wipeS, backS, noOwn, Nat.reduceAdd, Nat.reduceSub, Nat.reduceLeDiff, Nat.reduceEqDiff, Bool.and_true, Bool.true_and, Bool.and_false, Bool.false_and, Bool.not_true, Bool.not_false, Bool.false_eq_true, Bool.true_eq_false, reduceCtorEq, true_and, and_true, if_true, if_false, decide_true, decide_false, isOk, isA, String.reduceBEq, turn_f, cut_1, k_zipLL, k_zipTT, k_zipTL, e_isN, e_isNot, isNo, beq_self_eq_true, bne_self_eq_false, e_eqB, e_neB, e_eqX, List.any_cons, List.any_nil, Bool.or_true, Bool.true_or, Bool.or_self, reduceIte, Bool.or_false, Bool.false_or, ri0, rt0, ri1, rt1, ri2, rt2, ri3, rt3, ri4, rt4, ri5, rt5, ri6, rt6, ri7, rt7, ri8, rt8, ri9, rt9, ri10, rt10, ri11, rt11, ri12, rt12, ri13, rt13, ri14, rt14, ri15, rt15, ri16, rt16, ri17, rt17, cast0, cast1, Int.cast_ofNat_Int, Int.reduceEq, Int.reduceLT, Int.reduceLE, Int.reduceAdd, Int.reduceSub, Int.reduceMul, Nat.reduceLT, Int.reduceToNat, Int.reducePow, Int.reduceNeg, Int.reduceNegSucc, cp6, seqD, List.flatten_cons, List.flatten_nil, List.reduceReplicate, Option.isSome_some, ↓u_star, ↓ix_looks, hl]
            rcases looks_are hl with rfl | rfl | rfl | rfl
            · cases rest with
              | nil => simp (maxSteps := 20000000) only [↓u_C, ↓u_nil, ↓u_cons, ↓u_tup, ↓u_lst, ↓u_op, ↓u_and, ↓u_or, ↓u_test, ↓u_not, ↓u_notT, ↓u_andT, ↓u_orT, ↓u_ifE, ↓u_chain, ↓k_chT, ↓k_chF, ↓u_CB, ↓u_isi, ↓u_sl, ↓u_noPart, ↓u_part, ↓u_seq, ↓u_next, ↓u_retN, ↓u_bk, ↓u_ct, ↓u_drop, ↓u_ret, ↓u_if, ↓u_asg, ↓u_par, ↓u_prepN, ↓u_prepD, ↓u_prepO, ↓u_allN, ↓u_allC, ↓u_for, ↓u_loopN, ↓u_loopC, ↓u_it, ↓u_stoD, ↓u_stoN, ↓u_stosN, ↓u_stosC, ↓u_range1, ↓u_enum, ↓u_lc, ↓u_lcN, ↓u_lcC, ↓u_yes, ↓u_call, ↓u_argN, ↓u_argD, ↓u_argM, ↓u_argO, ↓u_argT, ↓u_backN, ↓u_backC, ↓u_fn, ↓k_fnO, ↓u_gtupD, ↓u_gtupN, ↓u_gtupL, ↓u_gtupT, ↓u_gN, ↓u_gC, ↓k_subL, ↓u_meth, ↓u_append, ↓u_popAt, ↓u_ixD, ↓u_ixN, ↓u_ixT, ↓u_ixS, ↓u_ixX, ↓u_mod, ↓u_div, ↓u_pow, ↓u_mul, ↓u_lenX, ↓u_lenL, ↓u_lenT, ↓u_lenC, ↓u_lenN, ↓u_addS, ↓u_isiD, ↓u_isiN, ↓u_zip, ↓u_argL, ↓u_argV, ↓u_dc, ↓u_dcN, ↓u_dcC, ↓k_dcX, ↓u_turn, ↓u_neg, ↓u_frz, ↓u_stoT, ↓u_stoL, ↓u_mulT, ↓u_addT, ↓u_listT, ↓u_listL, ↓u_slT, ↓rn_bind, ↓rn_some, ↓rn_iteT, ↓rn_iteF, ↓rv0, ↓ro0, ↓rb0, ↓rn0, ↓rs0, ↓rl0, ↓ra0, ↓rk0, ↓rx0, ↓rg0, ↓rh0, ↓rp0, ↓rv1, ↓ro1, ↓rb1, ↓rn1, ↓rs1, ↓rl1, ↓ra1, ↓rk1, ↓rx1, ↓rg1, ↓rh1, ↓rp1, ↓rv2, ↓ro2, ↓rb2, ↓rn2, ↓rs2, ↓rl2, ↓ra2, ↓rk2, ↓rx2, ↓rg2, ↓rh2, ↓rp2, ↓rv3, ↓ro3, ↓rb3, ↓rn3, ↓rs3, ↓rl3, ↓ra3, ↓rk3, ↓rx3, ↓rg3, ↓rh3, ↓rp3, ↓rv4, ↓ro4, ↓rb4, ↓rn4, ↓rs4, ↓rl4, ↓ra4, ↓rk4, ↓rx4, ↓rg4, ↓rh4, ↓rp4, ↓rv5, ↓ro5, ↓rb5, ↓rn5, ↓rs5, ↓rl5, ↓ra5, ↓rk5, ↓rx5, ↓rg5, ↓rh5, ↓rp5, ↓rv6, ↓ro6, ↓rb6, ↓rn6, ↓rs6, ↓rl6, ↓ra6, ↓rk6, ↓rx6, ↓rg6, ↓rh6, ↓rp6, ↓rv7, ↓ro7, ↓rb7, ↓rn7, ↓rs7, ↓rl7, ↓ra7, ↓rk7, ↓rx7, ↓rg7, ↓rh7, ↓rp7, ↓rv8, ↓ro8, ↓rb8, ↓rn8, ↓rs8, ↓rl8, ↓ra8, ↓rk8, ↓rx8, ↓rg8, ↓rh8, ↓rp8, ↓rv9, ↓ro9, ↓rb9, ↓rn9, ↓rs9, ↓rl9, ↓ra9, ↓rk9, ↓rx9, ↓rg9, ↓rh9, ↓rp9, ↓rv10, ↓ro10, ↓rb10, ↓rn10, ↓rs10, ↓rl10, ↓ra10, ↓rk10, ↓rx10, ↓rg10, ↓rh10, ↓rp10, ↓rv11, ↓ro11, ↓rb11, ↓rn11, ↓rs11, ↓rl11, ↓ra11, ↓rk11, ↓rx11, ↓rg11, ↓rh11, ↓rp11, ↓rv12, ↓ro12, ↓rb12, ↓rn12, ↓rs12, ↓rl12, ↓ra12, ↓rk12, ↓rx12, ↓rg12, ↓rh12, ↓rp12, ↓rv13, ↓ro13, ↓rb13, ↓rn13, ↓rs13, ↓rl13, ↓ra13, ↓rk13, ↓rx13, ↓rg13, ↓rh13, ↓rp13, ↓rv14, ↓ro14, ↓rb14, ↓rn14, ↓rs14, ↓rl14, ↓ra14, ↓rk14, ↓rx14, ↓rg14, ↓rh14, ↓rp14, ↓rv15, ↓ro15, ↓rb15, ↓rn15, ↓rs15, ↓rl15, ↓ra15, ↓rk15, ↓rx15, ↓rg15, ↓rh15, ↓rp15, ↓rv16, ↓ro16, ↓rb16, ↓rn16, ↓rs16, ↓rl16, ↓ra16, ↓rk16, ↓rx16, ↓rg16, ↓rh16, ↓rp16, ↓rv17, ↓ro17, ↓rb17, ↓rn17, ↓rs17, ↓rl17, ↓ra17, ↓rk17, ↓rx17, ↓rg17, ↓rh17, ↓rp17, rn_some, k_andT, k_andF, k_orT, k_orF, k_B, k_int, k_seqN, k_seqR, k_seqB, k_seqC, k_loopN, k_loopR, k_enum, k_fnN, k_fnD, k_fnNew, e_addI, e_subI, e_ltI, e_leI, e_gtI, e_geI, e_eqI, e_neI, e_abs, e_intI, e_intB, e_at0, e_at1, e_at2, e_ix30, e_ix32, List.set_cons_zero, List.set_cons_succ, f1, List.length_cons, List.length_nil, List.all_cons, List.all_nil, cold, hots, hot, List.map_cons, List.map_nil, List.cons_append, List.nil_append, List.append_nil, List.replicate_succ, List.replicate_zero, List.take_succ_cons, List.take_zero, wipeS, backS, noOwn, Nat.reduceAdd, Nat.reduceSub, Nat.reduceLeDiff, Nat.reduceEqDiff, Bool.and_true, Bool.true_and, Bool.and_false, Bool.false_and, Bool.not_true, Bool.not_false, Bool.false_eq_true, Bool.true_eq_false, reduceCtorEq, true_and, and_true, if_true, if_false, decide_true, decide_false, isOk, isA, String.reduceBEq, turn_f, cut_1, k_zipLL, k_zipTT, k_zipTL, e_isN, e_isNot, isNo, beq_self_eq_true, bne_self_eq_false, e_eqB, e_neB, e_eqX, List.any_cons, List.any_nil, Bool.or_true, Bool.true_or, Bool.or_self, reduceIte, Bool.or_false, Bool.false_or, ri0, rt0, ri1, rt1, ri2, rt2, ri3, rt3, ri4, rt4, ri5, rt5, ri6, rt6, ri7, rt7, ri8, rt8, ri9, rt9, ri10, rt10, ri11, rt11, ri12, rt12, ri13, rt13, ri14, rt14, ri15, rt15, ri16, rt16, ri17, rt17, cast0, cast1, Int.cast_ofNat_Int, Int.reduceEq, Int.reduceLT, Int.reduceLE, Int.reduceAdd, Int.reduceSub, Int.reduceMul, Nat.reduceLT, Int.reduceToNat, Int.reducePow, Int.reduceNeg, Int.reduceNegSucc, cp6, seqD, List.flatten_cons, List.flatten_nil, List.reduceReplicate, actB, hl, zipD, ↓u_all, blsD]
              | cons y r =>
                have n2 : ¬ ((r.length + 1 : Nat) : Int) = 0 := by omega
                simp (maxSteps := 20000000) only [↓u_C, ↓u_nil, ↓u_cons, ↓u_tup, ↓u_lst, ↓u_op, ↓u_and, ↓u_or, ↓u_test, ↓u_not, ↓u_notT, ↓u_andT, ↓u_orT, ↓u_ifE, ↓u_chain, ↓k_chT, ↓k_chF, ↓u_CB, ↓u_isi, ↓u_sl, ↓u_noPart, ↓u_part, ↓u_seq, ↓u_next, ↓u_retN, ↓u_bk, ↓u_ct, ↓u_drop, ↓u_ret, ↓u_if, ↓u_asg, ↓u_par, ↓u_prepN, ↓u_prepD, ↓u_prepO, ↓u_allN, ↓u_allC, ↓u_for, ↓u_loopN, ↓u_loopC, ↓u_it, ↓u_stoD, ↓u_stoN, ↓u_stosN, ↓u_stosC, ↓u_range1, ↓u_enum, ↓u_lc, ↓u_lcN, ↓u_lcC, ↓u_yes, ↓u_call, ↓u_argN, ↓u_argD, ↓u_argM, ↓u_argO, ↓u_argT, ↓u_backN, ↓u_backC, ↓u_fn, ↓k_fnO, ↓u_gtupD, ↓u_gtupN, ↓u_gtupL, ↓u_gtupT, ↓u_gN, ↓u_gC, ↓k_subL, ↓u_meth, ↓u_append, ↓u_popAt, ↓u_ixD, ↓u_ixN, ↓u_ixT, ↓u_ixS, ↓u_ixX, ↓u_mod, ↓u_div, ↓u_pow, ↓u_mul, ↓u_lenX, ↓u_lenL, ↓u_lenT, ↓u_lenC, ↓u_lenN, ↓u_addS, ↓u_isiD, ↓u_isiN, ↓u_zip, ↓u_argL, ↓u_argV, ↓u_dc, ↓u_dcN, ↓u_dcC, ↓k_dcX, ↓u_turn, ↓u_neg, ↓u_frz, ↓u_stoT, ↓u_stoL, ↓u_mulT, ↓u_addT, ↓u_listT, ↓u_listL, ↓u_slT, ↓rn_bind, ↓rn_some, ↓rn_iteT, ↓rn_iteF, ↓rv0, ↓ro0, ↓rb0, ↓rn0, ↓rs0, ↓rl0, ↓ra0, ↓rk0, ↓rx0, ↓rg0, ↓rh0, ↓rp0, ↓rv1, ↓ro1, ↓rb1, ↓rn1, ↓rs1, ↓rl1, ↓ra1, ↓rk1, ↓rx1, ↓rg1, ↓rh1, ↓rp1, ↓rv2, ↓ro2, ↓rb2, ↓rn2, ↓rs2, ↓rl2, ↓ra2, ↓rk2, ↓rx2, ↓rg2, ↓rh2, ↓rp2, ↓rv3, ↓ro3, ↓rb3, ↓rn3, ↓rs3, ↓rl3, ↓ra3, ↓rk3, ↓rx3, ↓rg3, ↓rh3, ↓rp3, ↓rv4, ↓ro4, ↓rb4, ↓rn4, ↓rs4, ↓rl4, ↓ra4, ↓rk4, ↓rx4, ↓rg4, ↓rh4, ↓rp4, ↓rv5, ↓ro5, ↓rb5, ↓rn5, ↓rs5, ↓rl5, ↓ra5, ↓rk5, ↓rx5, ↓rg5, ↓rh5, ↓rp5, ↓rv6, ↓ro6, ↓rb6, ↓rn6, ↓rs6, ↓rl6, ↓ra6, ↓rk6, ↓rx6, ↓rg6, ↓rh6, ↓rp6, ↓rv7, ↓ro7, ↓rb7, ↓rn7, ↓rs7, ↓rl7, ↓ra7, ↓rk7, ↓rx7, ↓rg7, ↓rh7, ↓rp7, ↓rv8, ↓ro8, ↓rb8, ↓rn8, ↓rs8, ↓rl8, ↓ra8, ↓rk8, ↓rx8, ↓rg8, ↓rh8, ↓rp8, ↓rv9, ↓ro9, ↓rb9, ↓rn9, ↓rs9, ↓rl9, ↓ra9, ↓rk9, ↓rx9, ↓rg9, ↓rh9, ↓rp9, ↓rv10, ↓ro10, ↓rb10, ↓rn10, ↓rs10, ↓rl10, ↓ra10, ↓rk10, ↓rx10, ↓rg10, ↓rh10, ↓rp10, ↓rv11, ↓ro11, ↓rb11, ↓rn11, ↓rs11, ↓rl11, ↓ra11, ↓rk11, ↓rx11, ↓rg11, ↓rh11, ↓rp11, ↓rv12, ↓ro12, ↓rb12, ↓rn12, ↓rs12, ↓rl12, ↓ra12, ↓rk12, ↓rx12, ↓rg12, ↓rh12, ↓rp12, ↓rv13, ↓ro13, ↓rb13, ↓rn13, ↓rs13, ↓rl13, ↓ra13, ↓rk13, ↓rx13, ↓rg13, ↓rh13, ↓rp13, ↓rv14, ↓ro14, ↓rb14, ↓rn14, ↓rs14, ↓rl14, ↓ra14, ↓rk14, ↓rx14, ↓rg14, ↓rh14, ↓rp14, ↓rv15, ↓ro15, ↓rb15, ↓rn15, ↓rs15, ↓rl15, ↓ra15, ↓rk15, ↓rx15, ↓rg15, ↓rh15, ↓rp15, ↓rv16, ↓ro16, ↓rb16, ↓rn16, ↓rs16, ↓rl16, ↓ra16, ↓rk16, ↓rx16, ↓rg16, ↓rh16, ↓rp16, ↓rv17, ↓ro17, ↓rb17, ↓rn17, ↓rs17, ↓rl17, ↓ra17, ↓rk17, ↓rx17, ↓rg17, ↓rh17, ↓rp17, rn_some, k_andT, k_andF, k_orT, k_orF, k_B, k_int, k_seqN, k_seqR, k_seqB, k_seqC, k_loopN, k_loopR, k_enum, k_fnN, k_fnD, k_fnNew, e_addI, e_subI, e_ltI, e_leI, e_gtI, e_geI, e_eqI, e_neI, e_abs, e_intI, e_intB, e_at0, e_at1, e_at2, e_ix30, e_ix32, List.set_cons_zero, List.set_cons_succ, f1, List.length_cons, List.length_nil, List.all_cons, List.all_nil, cold, hots, hot, List.map_cons, List.map_nil, List.cons_append, List.nil_append, List.append_nil, List.replicate_succ, List.replicate_zero, List.take_succ_cons, List.take_zero, wipeS, backS, noOwn, Nat.reduceAdd, Nat.reduceSub, Nat.reduceLeDiff, Nat.reduceEqDiff, Bool.and_true, Bool.true_and, Bool.and_false, Bool.false_and, Bool.not_true, Bool.not_false, Bool.false_eq_true, Bool.true_eq_false, reduceCtorEq, true_and, and_true, if_true, if_false, decide_true, decide_false, isOk, isA, String.reduceBEq, turn_f, cut_1, k_zipLL, k_zipTT, k_zipTL, e_isN, e_isNot, isNo, beq_self_eq_true, bne_self_eq_false, e_eqB, e_neB, e_eqX, List.any_cons, List.any_nil, Bool.or_true, Bool.true_or, Bool.or_self, reduceIte, Bool.or_false, Bool.false_or, ri0, rt0, ri1, rt1, ri2, rt2, ri3, rt3, ri4, rt4, ri5, rt5, ri6, rt6, ri7, rt7, ri8, rt8, ri9, rt9, ri10, rt10, ri11, rt11, ri12, rt12, ri13, rt13, ri14, rt14, ri15, rt15, ri16, rt16, ri17, rt17, cast0, cast1, Int.cast_ofNat_Int, Int.reduceEq, Int.reduceLT, Int.reduceLE, Int.reduceAdd, Int.reduceSub, Int.reduceMul, Nat.reduceLT, Int.reduceToNat, Int.reducePow, Int.reduceNeg, Int.reduceNegSucc, cp6, seqD, List.flatten_cons, List.flatten_nil, List.reduceReplicate, actB, hl, n2]
            · cases rest with
              | nil => simp (maxSteps := 20000000) only [↓u_C, ↓u_nil, ↓u_cons, ↓u_tup, ↓u_lst, ↓u_op, ↓u_and, ↓u_or, ↓u_test, ↓u_not, ↓u_notT, ↓u_andT, ↓u_orT, ↓u_ifE, ↓u_chain, ↓k_chT, ↓k_chF, ↓u_CB, ↓u_isi, ↓u_sl, ↓u_noPart, ↓u_part, ↓u_seq, ↓u_next, ↓u_retN, ↓u_bk, ↓u_ct, ↓u_drop, ↓u_ret, ↓u_if, ↓u_asg, ↓u_par, ↓u_prepN, ↓u_prepD, ↓u_prepO, ↓u_allN, ↓u_allC, ↓u_for, ↓u_loopN, ↓u_loopC, ↓u_it, ↓u_stoD, ↓u_stoN, ↓u_stosN, ↓u_stosC, ↓u_range1, ↓u_enum, ↓u_lc, ↓u_lcN, ↓u_lcC, ↓u_yes, ↓u_call, ↓u_argN, ↓u_argD, ↓u_argM, ↓u_argO, ↓u_argT, ↓u_backN, ↓u_backC, ↓u_fn, ↓k_fnO, ↓u_gtupD, ↓u_gtupN, ↓u_gtupL, ↓u_gtupT, ↓u_gN, ↓u_gC, ↓k_subL, ↓u_meth, ↓u_append, ↓u_popAt, ↓u_ixD, ↓u_ixN, ↓u_ixT, ↓u_ixS, ↓u_ixX, ↓u_mod, ↓u_div, ↓u_pow, ↓u_mul, ↓u_lenX, ↓u_lenL, ↓u_lenT, ↓u_lenC, ↓u_lenN, ↓u_addS, ↓u_isiD, ↓u_isiN, ↓u_zip, ↓u_argL, ↓u_argV, ↓u_dc, ↓u_dcN, ↓u_dcC, ↓k_dcX, ↓u_turn, ↓u_neg, ↓u_frz, ↓u_stoT, ↓u_stoL, ↓u_mulT, ↓u_addT, ↓u_listT, ↓u_listL, ↓u_slT, ↓rn_bind, ↓rn_some, ↓rn_iteT, ↓rn_iteF, ↓rv0, ↓ro0, ↓rb0, ↓rn0, ↓rs0, ↓rl0, ↓ra0, ↓rk0, ↓rx0, ↓rg0, ↓rh0, ↓rp0, ↓rv1, ↓ro1, ↓rb1, ↓rn1, ↓rs1, ↓rl1, ↓ra1, ↓rk1, ↓rx1, ↓rg1, ↓rh1, ↓rp1, ↓rv2, ↓ro2, ↓rb2, ↓rn2, ↓rs2, ↓rl2, ↓ra2, ↓rk2, ↓rx2, ↓rg2, ↓rh2, ↓rp2, ↓rv3, ↓ro3, ↓rb3, ↓rn3, ↓rs3, ↓rl3, ↓ra3, ↓rk3, ↓rx3, ↓rg3, ↓rh3, ↓rp3, ↓rv4, ↓ro4, ↓rb4, ↓rn4, ↓rs4, ↓rl4, ↓ra4, ↓rk4, ↓rx4, ↓rg4, ↓rh4, ↓rp4, ↓rv5, ↓ro5, ↓rb5, ↓rn5, ↓rs5, ↓rl5, ↓ra5, ↓rk5, ↓rx5, ↓rg5, ↓rh5, ↓rp5, ↓rv6, ↓ro6, ↓rb6, ↓rn6, ↓rs6, ↓rl6, ↓ra6, ↓rk6, ↓rx6, ↓rg6, ↓rh6, ↓rp6, ↓rv7, ↓ro7, ↓rb7, ↓rn7, ↓rs7, ↓rl7, ↓ra7, ↓rk7, ↓rx7, ↓rg7, ↓rh7, ↓rp7, ↓rv8, ↓ro8, ↓rb8, ↓rn8, ↓rs8, ↓rl8, ↓ra8, ↓rk8, ↓rx8, ↓rg8, ↓rh8, ↓rp8, ↓rv9, ↓ro9, ↓rb9, ↓rn9, ↓rs9, ↓rl9, ↓ra9, ↓rk9, ↓rx9, ↓rg9, ↓rh9, ↓rp9, ↓rv10, ↓ro10, ↓rb10, ↓rn10, ↓rs10, ↓rl10, ↓ra10, ↓rk10, ↓rx10, ↓rg10, ↓rh10, ↓rp10, ↓rv11, ↓ro11, ↓rb11, ↓rn11, ↓rs11, ↓rl11, ↓ra11, ↓rk11, ↓rx11, ↓rg11, ↓rh11, ↓rp11, ↓rv12, ↓ro12, ↓rb12, ↓rn12, ↓rs12, ↓rl12, ↓ra12, ↓rk12, ↓rx12, ↓rg12, ↓rh12, ↓rp12, ↓rv13, ↓ro13, ↓rb13, ↓rn13, ↓rs13, ↓rl13, ↓ra13, ↓rk13, ↓rx13, ↓rg13, ↓rh13, ↓rp13, ↓rv14, ↓ro14, ↓rb14, ↓rn14, ↓rs14, ↓rl14, ↓ra14, ↓rk14, ↓rx14, ↓rg14, ↓rh14, ↓rp14, ↓rv15, ↓ro15, ↓rb15, ↓rn15, ↓rs15, ↓rl15, ↓ra15, ↓rk15, ↓rx15, ↓rg15, ↓rh15, ↓rp15, ↓rv16, ↓ro16, ↓rb16, ↓rn16, ↓rs16, ↓rl16, ↓ra16, ↓rk16, ↓rx16, ↓rg16, ↓rh16, ↓rp16, ↓rv17, ↓ro17, ↓rb17, ↓rn17, ↓rs17, ↓rl17, ↓ra17, ↓rk17, ↓rx17, ↓rg17, ↓rh17, ↓rp17, rn_some, k_andT, k_andF, k_orT, k_orF, k_B, k_int, k_seqN, k_seqR, k_seqB, k_seqC, k_loopN, k_loopR, k_enum, k_fnN, k_fnD, k_fnNew, e_addI, e_subI, e_ltI, e_leI, e_gtI, e_geI, e_eqI, e_neI, e_abs, e_intI, e_intB, e_at0, e_at1, e_at2, e_ix30, e_ix32, List.set_cons_zero, List.set_cons_succ, f1, List.length_cons, List.length_nil, List.all_cons, List.all_nil, cold, hots, hot, List.map_cons, List.map_nil, List.cons_append, List.nil_append, List.append_nil, List.replicate_succ, List.replicate_zero, List.take_succ_cons, List.take_zero, wipeS, backS, noOwn, Nat.reduceAdd, Nat.reduceSub, Nat.reduceLeDiff, Nat.reduceEqDiff, Bool.and_true, Bool.true_and, Bool.and_false, Bool.false_and, Bool.not_true, Bool.not_false, Bool.false_eq_true, Bool.true_eq_false, reduceCtorEq, true_and, and_true, if_true, if_false, decide_true, decide_false, isOk, isA, String.reduceBEq, turn_f, cut_1, k_zipLL, k_zipTT, k_zipTL, e_isN, e_isNot, isNo, beq_self_eq_true, bne_self_eq_false, e_eqB, e_neB, e_eqX, List.any_cons, List.any_nil, Bool.or_true, Bool.true_or, Bool.or_self, reduceIte, Bool.or_false, Bool.false_or, ri0, rt0, ri1, rt1, ri2, rt2, ri3, rt3, ri4, rt4, ri5, rt5, ri6, rt6, ri7, rt7, ri8, rt8, ri9, rt9, ri10, rt10, ri11, rt11, ri12, rt12, ri13, rt13, ri14, rt14, ri15, rt15, ri16, rt16, ri17, rt17, cast0, cast1, Int.cast_ofNat_Int, Int.reduceEq, Int.reduceLT, Int.reduceLE, Int.reduceAdd, Int.reduceSub, Int.reduceMul, Nat.reduceLT, Int.reduceToNat, Int.reducePow, Int.reduceNeg, Int.reduceNegSucc, cp6, seqD, List.flatten_cons, List.flatten_nil, List.reduceReplicate, actB, hl]
              | cons y r =>
                cases r with
                | nil =>
                  have hy : isOk y = true := by
                    have : plains [.str w, y] = true := h
                    simp only [plains, Bool.and_eq_true] at this
                    exact okOf this.2.1
                  have e := is_name_eq hy
                  simp (maxSteps := 20000000) only [↓u_C, ↓u_nil, ↓u_cons, ↓u_tup, ↓u_lst, ↓u_op, ↓u_and, ↓u_or, ↓u_test, ↓u_not, ↓u_notT, ↓u_andT, ↓u_orT, ↓u_ifE, ↓u_chain, ↓k_chT, ↓k_chF, ↓u_CB, ↓u_isi, ↓u_sl, ↓u_noPart, ↓u_part, ↓u_seq, ↓u_next, ↓u_retN, ↓u_bk, ↓u_ct, ↓u_drop, ↓u_ret, ↓u_if, ↓u_asg, ↓u_par, ↓u_prepN, ↓u_prepD, ↓u_prepO, ↓u_allN, ↓u_allC, ↓u_for, ↓u_loopN, ↓u_loopC, ↓u_it, ↓u_stoD, ↓u_stoN, ↓u_stosN, ↓u_stosC, ↓u_range1, ↓u_enum, ↓u_lc, ↓u_lcN, ↓u_lcC, ↓u_yes, ↓u_call, ↓u_argN, ↓u_argD, ↓u_argM, ↓u_argO, ↓u_argT, ↓u_backN, ↓u_backC, ↓u_fn, ↓k_fnO, ↓u_gtupD, ↓u_gtupN, ↓u_gtupL, ↓u_gtupT, ↓u_gN, ↓u_gC, ↓k_subL, ↓u_meth, ↓u_append, ↓u_popAt, ↓u_ixD, ↓u_ixN, ↓u_ixT, ↓u_ixS, ↓u_ixX, ↓u_mod, ↓u_div, ↓u_pow, ↓u_mul, ↓u_lenX, ↓u_lenL, ↓u_lenT, ↓u_lenC, ↓u_lenN, ↓u_addS, ↓u_isiD, ↓u_isiN, ↓u_zip, ↓u_argL, ↓u_argV, ↓u_dc, ↓u_dcN, ↓u_dcC, ↓k_dcX, ↓u_turn, ↓u_neg, ↓u_frz, ↓u_stoT, ↓u_stoL, ↓u_mulT, ↓u_addT, ↓u_listT, ↓u_listL, ↓u_slT, ↓rn_bind, ↓rn_some, ↓rn_iteT, ↓rn_iteF, ↓rv0, ↓ro0, ↓rb0, ↓rn0, ↓rs0, ↓rl0, ↓ra0, ↓rk0, ↓rx0, ↓rg0, ↓rh0, ↓rp0, ↓rv1, ↓ro1, ↓rb1, ↓rn1, ↓rs1, ↓rl1, ↓ra1, ↓rk1, ↓rx1, ↓rg1, ↓rh1, ↓rp1, ↓rv2, ↓ro2, ↓rb2, ↓rn2, ↓rs2, ↓rl2, ↓ra2, ↓rk2, ↓rx2, ↓rg2, ↓rh2, ↓rp2, ↓rv3, ↓ro3, ↓rb3, ↓rn3, ↓rs3, ↓rl3, ↓ra3, ↓rk3, ↓rx3, ↓rg3, ↓rh3, ↓rp3, ↓rv4, ↓ro4, ↓rb4, ↓rn4, ↓rs4, ↓rl4, ↓ra4, ↓rk4, ↓rx4, ↓rg4, ↓rh4, ↓rp4, ↓rv5, ↓ro5, ↓rb5, ↓rn5, ↓rs5, ↓rl5, ↓ra5, ↓rk5, ↓rx5, ↓rg5, ↓rh5, ↓rp5, ↓rv6, ↓ro6, ↓rb6, ↓rn6, ↓rs6, ↓rl6, ↓ra6, ↓rk6, ↓rx6, ↓rg6, ↓rh6, ↓rp6, ↓rv7, ↓ro7, ↓rb7, ↓rn7, ↓rs7, ↓rl7, ↓ra7, ↓rk7, ↓rx7, ↓rg7, ↓rh7, ↓rp7, ↓rv8, ↓ro8, ↓rb8, ↓rn8, ↓rs8, ↓rl8, ↓ra8, ↓rk8, ↓rx8, ↓rg8, ↓rh8, ↓rp8, ↓rv9, ↓ro9, ↓rb9, ↓rn9, ↓rs9, ↓rl9, ↓ra9, ↓rk9, ↓rx9, ↓rg9, ↓rh9, ↓rp9, ↓rv10, ↓ro10, ↓rb10, ↓rn10, ↓rs10, ↓rl10, ↓ra10, ↓rk10, ↓rx10, ↓rg10, ↓rh10, ↓rp10, ↓rv11, ↓ro11, ↓rb11, ↓rn11, ↓rs11, ↓rl11, ↓ra11, ↓rk11, ↓rx11, ↓rg11, ↓rh11, ↓rp11, ↓rv12, ↓ro12, ↓rb12, ↓rn12, ↓rs12, ↓rl12, ↓ra12, ↓rk12, ↓rx12, ↓rg12, ↓rh12, ↓rp12, ↓rv13, ↓ro13, ↓rb13, ↓rn13, ↓rs13, ↓rl13, ↓ra13, ↓rk13, ↓rx13, ↓rg13, ↓rh13, ↓rp13, ↓rv14, ↓ro14, ↓rb14, ↓rn14, ↓rs14, ↓rl14, ↓ra14, ↓rk14, ↓rx14, ↓rg14, ↓rh14, ↓rp14, ↓rv15, ↓ro15, ↓rb15, ↓rn15, ↓rs15, ↓rl15, ↓ra15, ↓rk15, ↓rx15, ↓rg15, ↓rh15, ↓rp15, ↓rv16, ↓ro16, ↓rb16, ↓rn16, ↓rs16, ↓rl16, ↓ra16, ↓rk16, ↓rx16, ↓rg16, ↓rh16, ↓rp16, ↓rv17, ↓ro17, ↓rb17, ↓rn17, ↓rs17, ↓rl17, ↓ra17, ↓rk17, ↓rx17, ↓rg17, ↓rh17, ↓rp17, rn_some, k_andT, k_andF, k_orT, k_orF, k_B, k_int, k_seqN, k_seqR, k_seqB, k_seqC, k_loopN, k_loopR, k_enum, k_fnN, k_fnD, k_fnNew, e_addI, e_subI, e_ltI, e_leI, e_gtI, e_geI, e_eqI, e_neI, e_abs, e_intI, e_intB, e_at0, e_at1, e_at2, e_ix30, e_ix32, List.set_cons_zero, List.set_cons_succ, f1, List.length_cons, List.length_nil, List.all_cons, List.all_nil, cold, hots, hot, List.map_cons, List.map_nil, List.cons_append, List.nil_append, List.append_nil, List.replicate_succ, List.replicate_zero, List.take_succ_cons, List.take_zero, wipeS, backS, noOwn, Nat.reduceAdd, Nat.reduceSub, Nat.reduceLeDiff, Nat.reduceEqDiff, Bool.and_true, Bool.true_and, Bool.and_false, Bool.false_and, Bool.not_true, Bool.not_false, Bool.false_eq_true, Bool.true_eq_false, reduceCtorEq, true_and, and_true, if_true, if_false, decide_true, decide_false, isOk, isA, String.reduceBEq, turn_f, cut_1, k_zipLL, k_zipTT, k_zipTL, e_isN, e_isNot, isNo, beq_self_eq_true, bne_self_eq_false, e_eqB, e_neB, e_eqX, List.any_cons, List.any_nil, Bool.or_true, Bool.true_or, Bool.or_self, reduceIte, Bool.or_false, Bool.false_or, ri0, rt0, ri1, rt1, ri2, rt2, ri3, rt3, ri4, rt4, ri5, rt5, ri6, rt6, ri7, rt7, ri8, rt8, ri9, rt9, ri10, rt10, ri11, rt11, ri12, rt12, ri13, rt13, ri14, rt14, ri15, rt15, ri16, rt16, ri17, rt17, cast0, cast1, Int.cast_ofNat_Int, Int.reduceEq, Int.reduceLT, Int.reduceLE, Int.reduceAdd, Int.reduceSub, Int.reduceMul, Nat.reduceLT, Int.reduceToNat, Int.reducePow, Int.reduceNeg, Int.reduceNegSucc, cp6, seqD, List.flatten_cons, List.flatten_nil, List.reduceReplicate, actB, hl, zipD, ↓u_all, blsD, ↓u_callH4, l_name, ↓rn_of e, rf_name, rf_item, rf_place, List.all_cons, List.all_nil, id, List.foldl, noOwn, wipeS, Option.bind_some]
                | cons z r =>
                  have n2 : ¬ ((r.length + 1 + 1 : Nat) : Int) = 1 := by omega
                  simp (maxSteps := 20000000) only [↓u_C, ↓u_nil, ↓u_cons, ↓u_tup, ↓u_lst, ↓u_op, ↓u_and, ↓u_or, ↓u_test, ↓u_not, ↓u_notT, ↓u_andT, ↓u_orT, ↓u_ifE, ↓u_chain, ↓k_chT, ↓k_chF, ↓u_CB, ↓u_isi, ↓u_sl, ↓u_noPart, ↓u_part, ↓u_seq, ↓u_next, ↓u_retN, ↓u_bk, ↓u_ct, ↓u_drop, ↓u_ret, ↓u_if, ↓u_asg, ↓u_par, ↓u_prepN, ↓u_prepD, ↓u_prepO, ↓u_allN, ↓u_allC, ↓u_for, ↓u_loopN, ↓u_loopC, ↓u_it, ↓u_stoD, ↓u_stoN, ↓u_stosN, ↓u_stosC, ↓u_range1, ↓u_enum, ↓u_lc, ↓u_lcN, ↓u_lcC, ↓u_yes, ↓u_call, ↓u_argN, ↓u_argD, ↓u_argM, ↓u_argO, ↓u_argT, ↓u_backN, ↓u_backC, ↓u_fn, ↓k_fnO, ↓u_gtupD, ↓u_gtupN, ↓u_gtupL, ↓u_gtupT, ↓u_gN, ↓u_gC, ↓k_subL, ↓u_meth, ↓u_append, ↓u_popAt, ↓u_ixD, ↓u_ixN, ↓u_ixT, ↓u_ixS, ↓u_ixX, ↓u_mod, ↓u_div, ↓u_pow, ↓u_mul, ↓u_lenX, ↓u_lenL, ↓u_lenT, ↓u_lenC, ↓u_lenN, ↓u_addS, ↓u_isiD, ↓u_isiN, ↓u_zip, ↓u_argL, ↓u_argV, ↓u_dc, ↓u_dcN, ↓u_dcC, ↓k_dcX, ↓u_turn, ↓u_neg, ↓u_frz, ↓u_stoT, ↓u_stoL, ↓u_mulT, ↓u_addT, ↓u_listT, ↓u_listL, ↓u_slT, ↓rn_bind, ↓rn_some, ↓rn_iteT, ↓rn_iteF, ↓rv0, ↓ro0, ↓rb0, ↓rn0, ↓rs0, ↓rl0, ↓ra0, ↓rk0, ↓rx0, ↓rg0, ↓rh0, ↓rp0, ↓rv1, ↓ro1, ↓rb1, ↓rn1, ↓rs1, ↓rl1, ↓ra1, ↓rk1, ↓rx1, ↓rg1, ↓rh1, ↓rp1, ↓rv2, ↓ro2, ↓rb2, ↓rn2, ↓rs2, ↓rl2, ↓ra2, ↓rk2, ↓rx2, ↓rg2, ↓rh2, ↓rp2, ↓rv3, ↓ro3, ↓rb3, ↓rn3, ↓rs3, ↓rl3, ↓ra3, ↓rk3, ↓rx3, ↓rg3, ↓rh3, ↓rp3, ↓rv4, ↓ro4, ↓rb4, ↓rn4, ↓rs4, ↓rl4, ↓ra4, ↓rk4, ↓rx4, ↓rg4, ↓rh4, ↓rp4, ↓rv5, ↓ro5, ↓rb5, ↓rn5, ↓rs5, ↓rl5, ↓ra5, ↓rk5, ↓rx5, ↓rg5, ↓rh5, ↓rp5, ↓rv6, ↓ro6, ↓rb6, ↓rn6, ↓rs6, ↓rl6, ↓ra6, ↓rk6, ↓rx6, ↓rg6, ↓rh6, ↓rp6, ↓rv7, ↓ro7, ↓rb7, ↓rn7, ↓rs7, ↓rl7, ↓ra7, ↓rk7, ↓rx7, ↓rg7, ↓rh7, ↓rp7, ↓rv8, ↓ro8, ↓rb8, ↓rn8, ↓rs8, ↓rl8, ↓ra8, ↓rk8, ↓rx8, ↓rg8, ↓rh8, ↓rp8, ↓rv9, ↓ro9, ↓rb9, ↓rn9, ↓rs9, ↓rl9, ↓ra9, ↓rk9, ↓rx9, ↓rg9, ↓rh9, ↓rp9, ↓rv10, ↓ro10, ↓rb10, ↓rn10, ↓rs10, ↓rl10, ↓ra10, ↓rk10, ↓rx10, ↓rg10, ↓rh10, ↓rp10, ↓rv11, ↓ro11, ↓rb11, ↓rn11, ↓rs11, ↓rl11, ↓ra11, ↓rk11, ↓rx11, ↓rg11, ↓rh11, ↓rp11, ↓rv12, ↓ro12, ↓rb12, ↓rn12, ↓rs12, ↓rl12, ↓ra12, ↓rk12, ↓rx12, ↓rg12, ↓rh12, ↓rp12, ↓rv13, ↓ro13, ↓rb13, ↓rn13, ↓rs13, ↓rl13, ↓ra13, ↓rk13, ↓rx13, ↓rg13, ↓rh13, ↓rp13, ↓rv14, ↓ro14, ↓rb14, ↓rn14, ↓rs14, ↓rl14, ↓ra14, ↓rk14, ↓rx14, ↓rg14, ↓rh14, ↓rp14, ↓rv15, ↓ro15, ↓rb15, ↓rn15, ↓rs15, ↓rl15, ↓ra15, ↓rk15, ↓rx15, ↓rg15, ↓rh15, ↓rp15, ↓rv16, ↓ro16, ↓rb16, ↓rn16, ↓rs16, ↓rl16, ↓ra16, ↓rk16, ↓rx16, ↓rg16, ↓rh16, ↓rp16, ↓rv17, ↓ro17, ↓rb17, ↓rn17, ↓rs17, ↓rl17, ↓ra17, ↓rk17, ↓rx17, ↓rg17, ↓rh17, ↓rp17, rn_some, k_andT, k_andF, k_orT, k_orF, k_B, k_int, k_seqN, k_seqR, k_seqB, k_seqC, k_loopN, k_loopR, k_enum, k_fnN, k_fnD, k_fnNew, e_addI, e_subI, e_ltI, e_leI, e_gtI, e_geI, e_eqI, e_neI, e_abs, e_intI, e_intB, e_at0, e_at1, e_at2, e_ix30, e_ix32, List.set_cons_zero, List.set_cons_succ, f1, List.length_cons, List.length_nil, List.all_cons, List.all_nil, cold, hots, hot, List.map_cons, List.map_nil, List.cons_append, List.nil_append, List.append_nil, List.replicate_succ, List.replicate_zero, List.take_succ_cons, List.take_zero, wipeS, backS, noOwn, Nat.reduceAdd, Nat.reduceSub, Nat.reduceLeDiff, Nat.reduceEqDiff, Bool.and_true, Bool.true_and, Bool.and_false, Bool.false_and, Bool.not_true, Bool.not_false, Bool.false_eq_true, Bool.true_eq_false, reduceCtorEq, true_and, and_true, if_true, if_false, decide_true, decide_false, isOk, isA, String.reduceBEq, turn_f, cut_1, k_zipLL, k_zipTT, k_zipTL, e_isN, e_isNot, isNo, beq_self_eq_true, bne_self_eq_false, e_eqB, e_neB, e_eqX, List.any_cons, List.any_nil, Bool.or_true, Bool.true_or, Bool.or_self, reduceIte, Bool.or_false, Bool.false_or, ri0, rt0, ri1, rt1, ri2, rt2, ri3, rt3, ri4, rt4, ri5, rt5, ri6, rt6, ri7, rt7, ri8, rt8, ri9, rt9, ri10, rt10, ri11, rt11, ri12, rt12, ri13, rt13, ri14, rt14, ri15, rt15, ri16, rt16, ri17, rt17, cast0, cast1, Int.cast_ofNat_Int, Int.reduceEq, Int.reduceLT, Int.reduceLE, Int.reduceAdd, Int.reduceSub, Int.reduceMul, Nat.reduceLT, Int.reduceToNat, Int.reducePow, Int.reduceNeg, Int.reduceNegSucc, cp6, seqD, List.flatten_cons, List.flatten_nil, List.reduceReplicate, actB, hl, n2]
            · cases rest with
              | nil => simp (maxSteps := 20000000) only [↓u_C, ↓u_nil, ↓u_cons, ↓u_tup, ↓u_lst, ↓u_op, ↓u_and, ↓u_or, ↓u_test, ↓u_not, ↓u_notT, ↓u_andT, ↓u_orT, ↓u_ifE, ↓u_chain, ↓k_chT, ↓k_chF, ↓u_CB, ↓u_isi, ↓u_sl, ↓u_noPart, ↓u_part, ↓u_seq, ↓u_next, ↓u_retN, ↓u_bk, ↓u_ct, ↓u_drop, ↓u_ret, ↓u_if, ↓u_asg, ↓u_par, ↓u_prepN, ↓u_prepD, ↓u_prepO, ↓u_allN, ↓u_allC, ↓u_for, ↓u_loopN, ↓u_loopC, ↓u_it, ↓u_stoD, ↓u_stoN, ↓u_stosN, ↓u_stosC, ↓u_range1, ↓u_enum, ↓u_lc, ↓u_lcN, ↓u_lcC, ↓u_yes, ↓u_call, ↓u_argN, ↓u_argD, ↓u_argM, ↓u_argO, ↓u_argT, ↓u_backN, ↓u_backC, ↓u_fn, ↓k_fnO, ↓u_gtupD, ↓u_gtupN, ↓u_gtupL, ↓u_gtupT, ↓u_gN, ↓u_gC, ↓k_subL, ↓u_meth, ↓u_append, ↓u_popAt, ↓u_ixD, ↓u_ixN, ↓u_ixT, ↓u_ixS, ↓u_ixX, ↓u_mod, ↓u_div, ↓u_pow, ↓u_mul, ↓u_lenX, ↓u_lenL, ↓u_lenT, ↓u_lenC, ↓u_lenN, ↓u_addS, ↓u_isiD, ↓u_isiN, ↓u_zip, ↓u_argL, ↓u_argV, ↓u_dc, ↓u_dcN, ↓u_dcC, ↓k_dcX, ↓u_turn, ↓u_neg, ↓u_frz, ↓u_stoT, ↓u_stoL, ↓u_mulT, ↓u_addT, ↓u_listT, ↓u_listL, ↓u_slT, ↓rn_bind, ↓rn_some, ↓rn_iteT, ↓rn_iteF, ↓rv0, ↓ro0, ↓rb0, ↓rn0, ↓rs0, ↓rl0, ↓ra0, ↓rk0, ↓rx0, ↓rg0, ↓rh0, ↓rp0, ↓rv1, ↓ro1, ↓rb1, ↓rn1, ↓rs1, ↓rl1, ↓ra1, ↓rk1, ↓rx1, ↓rg1, ↓rh1, ↓rp1, ↓rv2, ↓ro2, ↓rb2, ↓rn2, ↓rs2, ↓rl2, ↓ra2, ↓rk2, ↓rx2, ↓rg2, ↓rh2, ↓rp2, ↓rv3, ↓ro3, ↓rb3, ↓rn3, ↓rs3, ↓rl3, ↓ra3, ↓rk3, ↓rx3, ↓rg3, ↓rh3, ↓rp3, ↓rv4, ↓ro4, ↓rb4, ↓rn4, ↓rs4, ↓rl4, ↓ra4, ↓rk4, ↓rx4, ↓rg4, ↓rh4, ↓rp4, ↓rv5, ↓ro5, ↓rb5, ↓rn5, ↓rs5, ↓rl5, ↓ra5, ↓rk5, ↓rx5, ↓rg5, ↓rh5, ↓rp5, ↓rv6, ↓ro6, ↓rb6, ↓rn6, ↓rs6, ↓rl6, ↓ra6, ↓rk6, ↓rx6, ↓rg6, ↓rh6, ↓rp6, ↓rv7, ↓ro7, ↓rb7, ↓rn7, ↓rs7, ↓rl7, ↓ra7, ↓rk7, ↓rx7, ↓rg7, ↓rh7, ↓rp7, ↓rv8, ↓ro8, ↓rb8, ↓rn8, ↓rs8, ↓rl8, ↓ra8, ↓rk8, ↓rx8, ↓rg8, ↓rh8, ↓rp8, ↓rv9, ↓ro9, ↓rb9, ↓rn9, ↓rs9, ↓rl9, ↓ra9, ↓rk9, ↓rx9, ↓rg9, ↓rh9, ↓rp9, ↓rv10, ↓ro10, ↓rb10, ↓rn10, ↓rs10, ↓rl10, ↓ra10, ↓rk10, ↓rx10, ↓rg10, ↓rh10, ↓rp10, ↓rv11, ↓ro11, ↓rb11, ↓rn11, ↓rs11, ↓rl11, ↓ra11, ↓rk11, ↓rx11, ↓rg11, ↓rh11, ↓rp11, ↓rv12, ↓ro12, ↓rb12, ↓rn12, ↓rs12, ↓rl12, ↓ra12, ↓rk12, ↓rx12, ↓rg12, ↓rh12, ↓rp12, ↓rv13, ↓ro13, ↓rb13, ↓rn13, ↓rs13, ↓rl13, ↓ra13, ↓rk13, ↓rx13, ↓rg13, ↓rh13, ↓rp13, ↓rv14, ↓ro14, ↓rb14, ↓rn14, ↓rs14, ↓rl14, ↓ra14, ↓rk14, ↓rx14, ↓rg14, ↓rh14, ↓rp14, ↓rv15, ↓ro15, ↓rb15, ↓rn15, ↓rs15, ↓rl15, ↓ra15, ↓rk15, ↓rx15, ↓rg15, ↓rh15, ↓rp15, ↓rv16, ↓ro16, ↓rb16, ↓rn16, ↓rs16, ↓rl16, ↓ra16, ↓rk16, ↓rx16, ↓rg16, ↓rh16, ↓rp16, ↓rv17, ↓ro17, ↓rb17, ↓rn17, ↓rs17, ↓rl17, ↓ra17, ↓rk17, ↓rx17, ↓rg17, ↓rh17, ↓rp17, rn_some, k_andT, k_andF, k_orT, k_orF, k_B, k_int, k_seqN, k_seqR, k_seqB, k_seqC, k_loopN, k_loopR, k_enum, k_fnN, k_fnD, k_fnNew, e_addI, e_subI, e_ltI, e_leI, e_gtI, e_geI, e_eqI, e_neI, e_abs, e_intI, e_intB, e_at0, e_at1, e_at2, e_ix30, e_ix32, List.set_cons_zero, List.set_cons_succ, f1, List.length_cons, List.length_nil, List.all_cons, List.all_nil, cold, hots, hot, List.map_cons, List.map_nil, List.cons_append, List.nil_append, List.append_nil, List.replicate_succ, List.replicate_zero, List.take_succ_cons, List.take_zero, wipeS, backS, noOwn, Nat.reduceAdd, Nat.reduceSub, Nat.reduceLeDiff, Nat.reduceEqDiff, Bool.and_true, Bool.true_and, Bool.and_false, Bool.false_and, Bool.not_true, Bool.not_false, Bool.false_eq_true, Bool.true_eq_false, reduceCtorEq, true_and, and_true, if_true, if_false, decide_true, decide_false, isOk, isA, String.reduceBEq, turn_f, cut_1, k_zipLL, k_zipTT, k_zipTL, e_isN, e_isNot, isNo, beq_self_eq_true, bne_self_eq_false, e_eqB, e_neB, e_eqX, List.any_cons, List.any_nil, Bool.or_true, Bool.true_or, Bool.or_self, reduceIte, Bool.or_false, Bool.false_or, ri0, rt0, ri1, rt1, ri2, rt2, ri3, rt3, ri4, rt4, ri5, rt5, ri6, rt6, ri7, rt7, ri8, rt8, ri9, rt9, ri10, rt10, ri11, rt11, ri12, rt12, ri13, rt13, ri14, rt14, ri15, rt15, ri16, rt16, ri17, rt17, cast0, cast1, Int.cast_ofNat_Int, Int.reduceEq, Int.reduceLT, Int.reduceLE, Int.reduceAdd, Int.reduceSub, Int.reduceMul, Nat.reduceLT, Int.reduceToNat, Int.reducePow, Int.reduceNeg, Int.reduceNegSucc, cp6, seqD, List.flatten_cons, List.flatten_nil, List.reduceReplicate, actB, hl]
              | cons y r =>
                cases r with
                | nil =>
                  have hy : isOk y = true := by
                    have : plains [.str w, y] = true := h
                    simp only [plains, Bool.and_eq_true] at this
                    exact okOf this.2.1
                  have e := is_item_eq hy
                  simp (maxSteps := 20000000) only [↓u_C, ↓u_nil, ↓u_cons, ↓u_tup, ↓u_lst, ↓u_op, ↓u_and, ↓u_or, ↓u_test, ↓u_not, ↓u_notT, ↓u_andT, ↓u_orT, ↓u_ifE, ↓u_chain, ↓k_chT, ↓k_chF, ↓u_CB, ↓u_isi, ↓u_sl, ↓u_noPart, ↓u_part, ↓u_seq, ↓u_next, ↓u_retN, ↓u_bk, ↓u_ct, ↓u_drop, ↓u_ret, ↓u_if, ↓u_asg, ↓u_par, ↓u_prepN, ↓u_prepD, ↓u_prepO, ↓u_allN, ↓u_allC, ↓u_for, ↓u_loopN, ↓u_loopC, ↓u_it, ↓u_stoD, ↓u_stoN, ↓u_stosN, ↓u_stosC, ↓u_range1, ↓u_enum, ↓u_lc, ↓u_lcN, ↓u_lcC, ↓u_yes, ↓u_call, ↓u_argN, ↓u_argD, ↓u_argM, ↓u_argO, ↓u_argT, ↓u_backN, ↓u_backC, ↓u_fn, ↓k_fnO, ↓u_gtupD, ↓u_gtupN, ↓u_gtupL, ↓u_gtupT, ↓u_gN, ↓u_gC, ↓k_subL, ↓u_meth, ↓u_append, ↓u_popAt, ↓u_ixD, ↓u_ixN, ↓u_ixT, ↓u_ixS, ↓u_ixX, ↓u_mod, ↓u_div, ↓u_pow, ↓u_mul, ↓u_lenX, ↓u_lenL, ↓u_lenT, ↓u_lenC, ↓u_lenN, ↓u_addS, ↓u_isiD, ↓u_isiN, ↓u_zip, ↓u_argL, ↓u_argV, ↓u_dc, ↓u_dcN, ↓u_dcC, ↓k_dcX, ↓u_turn, ↓u_neg, ↓u_frz, ↓u_stoT, ↓u_stoL, ↓u_mulT, ↓u_addT, ↓u_listT, ↓u_listL, ↓u_slT, ↓rn_bind, ↓rn_some, ↓rn_iteT, ↓rn_iteF, ↓rv0, ↓ro0, ↓rb0, ↓rn0, ↓rs0, ↓rl0, ↓ra0, ↓rk0, ↓rx0, ↓rg0, ↓rh0, ↓rp0, ↓rv1, ↓ro1, ↓rb1, ↓rn1, ↓rs1, ↓rl1, ↓ra1, ↓rk1, ↓rx1, ↓rg1, ↓rh1, ↓rp1, ↓rv2, ↓ro2, ↓rb2, ↓rn2, ↓rs2, ↓rl2, ↓ra2, ↓rk2, ↓rx2, ↓rg2, ↓rh2, ↓rp2, ↓rv3, ↓ro3, ↓rb3, ↓rn3, ↓rs3, ↓rl3, ↓ra3, ↓rk3, ↓rx3, ↓rg3, ↓rh3, ↓rp3, ↓rv4, ↓ro4, ↓rb4, ↓rn4, ↓rs4, ↓rl4, ↓ra4, ↓rk4, ↓rx4, ↓rg4, ↓rh4, ↓rp4, ↓rv5, ↓ro5, ↓rb5, ↓rn5, ↓rs5, ↓rl5, ↓ra5, ↓rk5, ↓rx5, ↓rg5, ↓rh5, ↓rp5, ↓rv6, ↓ro6, ↓rb6, ↓rn6, ↓rs6, ↓rl6, ↓ra6, ↓rk6, ↓rx6, ↓rg6, ↓rh6, ↓rp6, ↓rv7, ↓ro7, ↓rb7, ↓rn7, ↓rs7, ↓rl7, ↓ra7, ↓rk7, ↓rx7, ↓rg7, ↓rh7, ↓rp7, ↓rv8, ↓ro8, ↓rb8, ↓rn8, ↓rs8, ↓rl8, ↓ra8, ↓rk8, ↓rx8, ↓rg8, ↓rh8, ↓rp8, ↓rv9, ↓ro9, ↓rb9, ↓rn9, ↓rs9, ↓rl9, ↓ra9, ↓rk9, ↓rx9, ↓rg9, ↓rh9, ↓rp9, ↓rv10, ↓ro10, ↓rb10, ↓rn10, ↓rs10, ↓rl10, ↓ra10, ↓rk10, ↓rx10, ↓rg10, ↓rh10, ↓rp10, ↓rv11, ↓ro11, ↓rb11, ↓rn11, ↓rs11, ↓rl11, ↓ra11, ↓rk11, ↓rx11, ↓rg11, ↓rh11, ↓rp11, ↓rv12, ↓ro12, ↓rb12, ↓rn12, ↓rs12, ↓rl12, ↓ra12, ↓rk12, ↓rx12, ↓rg12, ↓rh12, ↓rp12, ↓rv13, ↓ro13, ↓rb13, ↓rn13, ↓rs13, ↓rl13, ↓ra13, ↓rk13, ↓rx13, ↓rg13, ↓rh13, ↓rp13, ↓rv14, ↓ro14, ↓rb14, ↓rn14, ↓rs14, ↓rl14, ↓ra14, ↓rk14, ↓rx14, ↓rg14, ↓rh14, ↓rp14, ↓rv15, ↓ro15, ↓rb15, ↓rn15, ↓rs15, ↓rl15, ↓ra15, ↓rk15, ↓rx15, ↓rg15, ↓rh15, ↓rp15, ↓rv16, ↓ro16, ↓rb16, ↓rn16, ↓rs16, ↓rl16, ↓ra16, ↓rk16, ↓rx16, ↓rg16, ↓rh16, ↓rp16, ↓rv17, ↓ro17, ↓rb17, ↓rn17, ↓rs17, ↓rl17, ↓ra17, ↓rk17, ↓rx17, ↓rg17, ↓rh17, ↓rp17, rn_some, k_andT, k_andF, k_orT, k_orF, k_B, k_int, k_seqN, k_seqR, k_seqB, k_seqC, k_loopN, k_loopR, k_enum, k_fnN, k_fnD, k_fnNew, e_addI, e_subI, e_ltI, e_leI, e_gtI, e_geI, e_eqI, e_neI, e_abs, e_intI, e_intB, e_at0, e_at1, e_at2, e_ix30, e_ix32, List.set_cons_zero, List.set_cons_succ, f1, List.length_cons, List.length_nil, List.all_cons, List.all_nil, cold, hots, hot, List.map_cons, List.map_nil, List.cons_append, List.nil_append, List.append_nil, List.replicate_succ, List.replicate_zero, List.take_succ_cons, List.take_zero, wipeS, backS, noOwn, Nat.reduceAdd, Nat.reduceSub, Nat.reduceLeDiff, Nat.reduceEqDiff, Bool.and_true, Bool.true_and, Bool.and_false, Bool.false_and, Bool.not_true, Bool.not_false, Bool.false_eq_true, Bool.true_eq_false, reduceCtorEq, true_and, and_true, if_true, if_false, decide_true, decide_false, isOk, isA, String.reduceBEq, turn_f, cut_1, k_zipLL, k_zipTT, k_zipTL, e_isN, e_isNot, isNo, beq_self_eq_true, bne_self_eq_false, e_eqB, e_neB, e_eqX, List.any_cons, List.any_nil, Bool.or_true, Bool.true_or, Bool.or_self, reduceIte, Bool.or_false, Bool.false_or, ri0, rt0, ri1, rt1, ri2, rt2, ri3, rt3, ri4, rt4, ri5, rt5, ri6, rt6, ri7, rt7, ri8, rt8, ri9, rt9, ri10, rt10, ri11, rt11, ri12, rt12, ri13, rt13, ri14, rt14, ri15, rt15, ri16, rt16, ri17, rt17, cast0, cast1, Int.cast_ofNat_Int, Int.reduceEq, Int.reduceLT, Int.reduceLE, Int.reduceAdd, Int.reduceSub, Int.reduceMul, Nat.reduceLT, Int.reduceToNat, Int.reducePow, Int.reduceNeg, Int.reduceNegSucc, cp6, seqD, List.flatten_cons, List.flatten_nil, List.reduceReplicate, actB, hl, zipD, ↓u_all, blsD, ↓u_callH4, l_item, ↓rn_of e, rf_name, rf_item, rf_place, List.all_cons, List.all_nil, id, List.foldl, noOwn, wipeS, Option.bind_some]
                | cons z r =>
                  have n2 : ¬ ((r.length + 1 + 1 : Nat) : Int) = 1 := by omega
                  simp (maxSteps := 20000000) only [↓u_C, ↓u_nil, ↓u_cons, ↓u_tup, ↓u_lst, ↓u_op, ↓u_and, ↓u_or, ↓u_test, ↓u_not, ↓u_notT, ↓u_andT, ↓u_orT, ↓u_ifE, ↓u_chain, ↓k_chT, ↓k_chF, ↓u_CB, ↓u_isi, ↓u_sl, ↓u_noPart, ↓u_part, ↓u_seq, ↓u_next, ↓u_retN, ↓u_bk, ↓u_ct, ↓u_drop, ↓u_ret, ↓u_if, ↓u_asg, ↓u_par, ↓u_prepN, ↓u_prepD, ↓u_prepO, ↓u_allN, ↓u_allC, ↓u_for, ↓u_loopN, ↓u_loopC, ↓u_it, ↓u_stoD, ↓u_stoN, ↓u_stosN, ↓u_stosC, ↓u_range1, ↓u_enum, ↓u_lc, ↓u_lcN, ↓u_lcC, ↓u_yes, ↓u_call, ↓u_argN, ↓u_argD, ↓u_argM, ↓u_argO, ↓u_argT, ↓u_backN, ↓u_backC, ↓u_fn, ↓k_fnO, ↓u_gtupD, ↓u_gtupN, ↓u_gtupL, ↓u_gtupT, ↓u_gN, ↓u_gC, ↓k_subL, ↓u_meth, ↓u_append, ↓u_popAt, ↓u_ixD, ↓u_ixN, ↓u_ixT, ↓u_ixS, ↓u_ixX, ↓u_mod, ↓u_div, ↓u_pow, ↓u_mul, ↓u_lenX, ↓u_lenL, ↓u_lenT, ↓u_lenC, ↓u_lenN, ↓u_addS, ↓u_isiD, ↓u_isiN, ↓u_zip, ↓u_argL, ↓u_argV, ↓u_dc, ↓u_dcN, ↓u_dcC, ↓k_dcX, ↓u_turn, ↓u_neg, ↓u_frz, ↓u_stoT, ↓u_stoL, ↓u_mulT, ↓u_addT, ↓u_listT, ↓u_listL, ↓u_slT, ↓rn_bind, ↓rn_some, ↓rn_iteT, ↓rn_iteF, ↓rv0, ↓ro0, ↓rb0, ↓rn0, ↓rs0, ↓rl0, ↓ra0, ↓rk0, ↓rx0, ↓rg0, ↓rh0, ↓rp0, ↓rv1, ↓ro1, ↓rb1, ↓rn1, ↓rs1, ↓rl1, ↓ra1, ↓rk1, ↓rx1, ↓rg1, ↓rh1, ↓rp1, ↓rv2, ↓ro2, ↓rb2, ↓rn2, ↓rs2, ↓rl2, ↓ra2, ↓rk2, ↓rx2, ↓rg2, ↓rh2, ↓rp2, ↓rv3, ↓ro3, ↓rb3, ↓rn3, ↓rs3, ↓rl3, ↓ra3, ↓rk3, ↓rx3, ↓rg3, ↓rh3, ↓rp3, ↓rv4, ↓ro4, ↓rb4, ↓rn4, ↓rs4, ↓rl4, ↓ra4, ↓rk4, ↓rx4, ↓rg4, ↓rh4, ↓rp4, ↓rv5, ↓ro5, ↓rb5, ↓rn5, ↓rs5, ↓rl5, ↓ra5, ↓rk5, ↓rx5, ↓rg5, ↓rh5, ↓rp5, ↓rv6, ↓ro6, ↓rb6, ↓rn6, ↓rs6, ↓rl6, ↓ra6, ↓rk6, ↓rx6, ↓rg6, ↓rh6, ↓rp6, ↓rv7, ↓ro7, ↓rb7, ↓rn7, ↓rs7, ↓rl7, ↓ra7, ↓rk7, ↓rx7, ↓rg7, ↓rh7, ↓rp7, ↓rv8, ↓ro8, ↓rb8, ↓rn8, ↓rs8, ↓rl8, ↓ra8, ↓rk8, ↓rx8, ↓rg8, ↓rh8, ↓rp8, ↓rv9, ↓ro9, ↓rb9, ↓rn9, ↓rs9, ↓rl9, ↓ra9, ↓rk9, ↓rx9, ↓rg9, ↓rh9, ↓rp9, ↓rv10, ↓ro10, ↓rb10, ↓rn10, ↓rs10, ↓rl10, ↓ra10, ↓rk10, ↓rx10, ↓rg10, ↓rh10, ↓rp10, ↓rv11, ↓ro11, ↓rb11, ↓rn11, ↓rs11, ↓rl11, ↓ra11, ↓rk11, ↓rx11, ↓rg11, ↓rh11, ↓rp11, ↓rv12, ↓ro12, ↓rb12, ↓rn12, ↓rs12, ↓rl12, ↓ra12, ↓rk12, ↓rx12, ↓rg12, ↓rh12, ↓rp12, ↓rv13, ↓ro13, ↓rb13, ↓rn13, ↓rs13, ↓rl13, ↓ra13, ↓rk13, ↓rx13, ↓rg13, ↓rh13, ↓rp13, ↓rv14, ↓ro14, ↓rb14, ↓rn14, ↓rs14, ↓rl14, ↓ra14, ↓rk14, ↓rx14, ↓rg14, ↓rh14, ↓rp14, ↓rv15, ↓ro15, ↓rb15, ↓rn15, ↓rs15, ↓rl15, ↓ra15, ↓rk15, ↓rx15, ↓rg15, ↓rh15, ↓rp15, ↓rv16, ↓ro16, ↓rb16, ↓rn16, ↓rs16, ↓rl16, ↓ra16, ↓rk16, ↓rx16, ↓rg16, ↓rh16, ↓rp16, ↓rv17, ↓ro17, ↓rb17, ↓rn17, ↓rs17, ↓rl17, ↓ra17, ↓rk17, ↓rx17, ↓rg17, ↓rh17, ↓rp17, rn_some, k_andT, k_andF, k_orT, k_orF, k_B, k_int, k_seqN, k_seqR, k_seqB, k_seqC, k_loopN, k_loopR, k_enum, k_fnN, k_fnD, k_fnNew, e_addI, e_subI, e_ltI, e_leI, e_gtI, e_geI, e_eqI, e_neI, e_abs, e_intI, e_intB, e_at0, e_at1, e_at2, e_ix30, e_ix32, List.set_cons_zero, List.set_cons_succ, f1, List.length_cons, List.length_nil, List.all_cons, List.all_nil, cold, hots, hot, List.map_cons, List.map_nil, List.cons_append, List.nil_append, List.append_nil, List.replicate_succ, List.replicate_zero, List.take_succ_cons, List.take_zero, wipeS, backS, noOwn, Nat.reduceAdd, Nat.reduceSub, Nat.reduceLeDiff, Nat.reduceEqDiff, Bool.and_true, Bool.true_and, Bool.and_false, Bool.false_and, Bool.not_true, Bool.not_false, Bool.false_eq_true, Bool.true_eq_false, reduceCtorEq, true_and, and_true, if_true, if_false, decide_true, decide_false, isOk, isA, String.reduceBEq, turn_f, cut_1, k_zipLL, k_zipTT, k_zipTL, e_isN, e_isNot, isNo, beq_self_eq_true, bne_self_eq_false, e_eqB, e_neB, e_eqX, List.any_cons, List.any_nil, Bool.or_true, Bool.true_or, Bool.or_self, reduceIte, Bool.or_false, Bool.false_or, ri0, rt0, ri1, rt1, ri2, rt2, ri3, rt3, ri4, rt4, ri5, rt5, ri6, rt6, ri7, rt7, ri8, rt8, ri9, rt9, ri10, rt10, ri11, rt11, ri12, rt12, ri13, rt13, ri14, rt14, ri15, rt15, ri16, rt16, ri17, rt17, cast0, cast1, Int.cast_ofNat_Int, Int.reduceEq, Int.reduceLT, Int.reduceLE, Int.reduceAdd, Int.reduceSub, Int.reduceMul, Nat.reduceLT, Int.reduceToNat, Int.reducePow, Int.reduceNeg, Int.reduceNegSucc, cp6, seqD, List.flatten_cons, List.flatten_nil, List.reduceReplicate, actB, hl, n2]
            · cases rest with
              | nil => simp (maxSteps := 20000000) only [↓u_C, ↓u_nil, ↓u_cons, ↓u_tup, ↓u_lst, ↓u_op, ↓u_and, ↓u_or, ↓u_test, ↓u_not, ↓u_notT, ↓u_andT, ↓u_orT, ↓u_ifE, ↓u_chain, ↓k_chT, ↓k_chF, ↓u_CB, ↓u_isi, ↓u_sl, ↓u_noPart, ↓u_part, ↓u_seq, ↓u_next, ↓u_retN, ↓u_bk, ↓u_ct, ↓u_drop, ↓u_ret, ↓u_if, ↓u_asg, ↓u_par, ↓u_prepN, ↓u_prepD, ↓u_prepO, ↓u_allN, ↓u_allC, ↓u_for, ↓u_loopN, ↓u_loopC, ↓u_it, ↓u_stoD, ↓u_stoN, ↓u_stosN, ↓u_stosC, ↓u_range1, ↓u_enum, ↓u_lc, ↓u_lcN, ↓u_lcC, ↓u_yes, ↓u_call, ↓u_argN, ↓u_argD, ↓u_argM, ↓u_argO, ↓u_argT, ↓u_backN, ↓u_backC, ↓u_fn, ↓k_fnO, ↓u_gtupD, ↓u_gtupN, ↓u_gtupL, ↓u_gtupT, ↓u_gN, ↓u_gC, ↓k_subL, ↓u_meth, ↓u_append, ↓u_popAt, ↓u_ixD, ↓u_ixN, ↓u_ixT, ↓u_ixS, ↓u_ixX, ↓u_mod, ↓u_div, ↓u_pow, ↓u_mul, ↓u_lenX, ↓u_lenL, ↓u_lenT, ↓u_lenC, ↓u_lenN, ↓u_addS, ↓u_isiD, ↓u_isiN, ↓u_zip, ↓u_argL, ↓u_argV, ↓u_dc, ↓u_dcN, ↓u_dcC, ↓k_dcX, ↓u_turn, ↓u_neg, ↓u_frz, ↓u_stoT, ↓u_stoL, ↓u_mulT, ↓u_addT, ↓u_listT, ↓u_listL, ↓u_slT, ↓rn_bind, ↓rn_some, ↓rn_iteT, ↓rn_iteF, ↓rv0, ↓ro0, ↓rb0, ↓rn0, ↓rs0, ↓rl0, ↓ra0, ↓rk0, ↓rx0, ↓rg0, ↓rh0, ↓rp0, ↓rv1, ↓ro1, ↓rb1, ↓rn1, ↓rs1, ↓rl1, ↓ra1, ↓rk1, ↓rx1, ↓rg1, ↓rh1, ↓rp1, ↓rv2, ↓ro2, ↓rb2, ↓rn2, ↓rs2, ↓rl2, ↓ra2, ↓rk2, ↓rx2, ↓rg2, ↓rh2, ↓rp2, ↓rv3, ↓ro3, ↓rb3, ↓rn3, ↓rs3, ↓rl3, ↓ra3, ↓rk3, ↓rx3, ↓rg3, ↓rh3, ↓rp3, ↓rv4, ↓ro4, ↓rb4, ↓rn4, ↓rs4, ↓rl4, ↓ra4, ↓rk4, ↓rx4, ↓rg4, ↓rh4, ↓rp4, ↓rv5, ↓ro5, ↓rb5, ↓rn5, ↓rs5, ↓rl5, ↓ra5, ↓rk5, ↓rx5, ↓rg5, ↓rh5, ↓rp5, ↓rv6, ↓ro6, ↓rb6, ↓rn6, ↓rs6, ↓rl6, ↓ra6, ↓rk6, ↓rx6, ↓rg6, ↓rh6, ↓rp6, ↓rv7, ↓ro7, ↓rb7, ↓rn7, ↓rs7, ↓rl7, ↓ra7, ↓rk7, ↓rx7, ↓rg7, ↓rh7, ↓rp7, ↓rv8, ↓ro8, ↓rb8, ↓rn8, ↓rs8, ↓rl8, ↓ra8, ↓rk8, ↓rx8, ↓rg8, ↓rh8, ↓rp8, ↓rv9, ↓ro9, ↓rb9, ↓rn9, ↓rs9, ↓rl9, ↓ra9, ↓rk9, ↓rx9, ↓rg9, ↓rh9, ↓rp9, ↓rv10, ↓ro10, ↓rb10, ↓rn10, ↓rs10, ↓rl10, ↓ra10, ↓rk10, ↓rx10, ↓rg10, ↓rh10, ↓rp10, ↓rv11, ↓ro11, ↓rb11, ↓rn11, ↓rs11, ↓rl11, ↓ra11, ↓rk11, ↓rx11, ↓rg11, ↓rh11, ↓rp11, ↓rv12, ↓ro12, ↓rb12, ↓rn12, ↓rs12, ↓rl12, ↓ra12, ↓rk12, ↓rx12, ↓rg12, ↓rh12, ↓rp12, ↓rv13, ↓ro13, ↓rb13, ↓rn13, ↓rs13, ↓rl13, ↓ra13, ↓rk13, ↓rx13, ↓rg13, ↓rh13, ↓rp13, ↓rv14, ↓ro14, ↓rb14, ↓rn14, ↓rs14, ↓rl14, ↓ra14, ↓rk14, ↓rx14, ↓rg14, ↓rh14, ↓rp14, ↓rv15, ↓ro15, ↓rb15, ↓rn15, ↓rs15, ↓rl15, ↓ra15, ↓rk15, ↓rx15, ↓rg15, ↓rh15, ↓rp15, ↓rv16, ↓ro16, ↓rb16, ↓rn16, ↓rs16, ↓rl16, ↓ra16, ↓rk16, ↓rx16, ↓rg16, ↓rh16, ↓rp16, ↓rv17, ↓ro17, ↓rb17, ↓rn17, ↓rs17, ↓rl17, ↓ra17, ↓rk17, ↓rx17, ↓rg17, ↓rh17, ↓rp17, rn_some, k_andT, k_andF, k_orT, k_orF, k_B, k_int, k_seqN, k_seqR, k_seqB, k_seqC, k_loopN, k_loopR, k_enum, k_fnN, k_fnD, k_fnNew, e_addI, e_subI, e_ltI, e_leI, e_gtI, e_geI, e_eqI, e_neI, e_abs, e_intI, e_intB, e_at0, e_at1, e_at2, e_ix30, e_ix32, List.set_cons_zero, List.set_cons_succ, f1, List.length_cons, List.length_nil, List.all_cons, List.all_nil, cold, hots, hot, List.map_cons, List.map_nil, List.cons_append, List.nil_append, List.append_nil, List.replicate_succ, List.replicate_zero, List.take_succ_cons, List.take_zero, wipeS, backS, noOwn, Nat.reduceAdd, Nat.reduceSub, Nat.reduceLeDiff, Nat.reduceEqDiff, Bool.and_true, Bool.true_and, Bool.and_false, Bool.false_and, Bool.not_true, Bool.not_false, Bool.false_eq_true, Bool.true_eq_false, reduceCtorEq, true_and, and_true, if_true, if_false, decide_true, decide_false, isOk, isA, String.reduceBEq, turn_f, cut_1, k_zipLL, k_zipTT, k_zipTL, e_isN, e_isNot, isNo, beq_self_eq_true, bne_self_eq_false, e_eqB, e_neB, e_eqX, List.any_cons, List.any_nil, Bool.or_true, Bool.true_or, Bool.or_self, reduceIte, Bool.or_false, Bool.false_or, ri0, rt0, ri1, rt1, ri2, rt2, ri3, rt3, ri4, rt4, ri5, rt5, ri6, rt6, ri7, rt7, ri8, rt8, ri9, rt9, ri10, rt10, ri11, rt11, ri12, rt12, ri13, rt13, ri14, rt14, ri15, rt15, ri16, rt16, ri17, rt17, cast0, cast1, Int.cast_ofNat_Int, Int.reduceEq, Int.reduceLT, Int.reduceLE, Int.reduceAdd, Int.reduceSub, Int.reduceMul, Nat.reduceLT, Int.reduceToNat, Int.reducePow, Int.reduceNeg, Int.reduceNegSucc, cp6, seqD, List.flatten_cons, List.flatten_nil, List.reduceReplicate, actB, hl]
              | cons y r =>
                cases r with
                | nil =>
                  have hy : isOk y = true := by
                    have : plains [.str w, y] = true := h
                    simp only [plains, Bool.and_eq_true] at this
                    exact okOf this.2.1
                  have e := is_place_eq hy
                  simp (maxSteps := 20000000) only [↓u_C, ↓u_nil, ↓u_cons, ↓u_tup, ↓u_lst, ↓u_op, ↓u_and, ↓u_or, ↓u_test, ↓u_not, ↓u_notT, ↓u_andT, ↓u_orT, ↓u_ifE, ↓u_chain, ↓k_chT, ↓k_chF, ↓u_CB, ↓u_isi, ↓u_sl, ↓u_noPart, ↓u_part, ↓u_seq, ↓u_next, ↓u_retN, ↓u_bk, ↓u_ct, ↓u_drop, ↓u_ret, ↓u_if, ↓u_asg, ↓u_par, ↓u_prepN, ↓u_prepD, ↓u_prepO, ↓u_allN, ↓u_allC, ↓u_for, ↓u_loopN, ↓u_loopC, ↓u_it, ↓u_stoD, ↓u_stoN, ↓u_stosN, ↓u_stosC, ↓u_range1, ↓u_enum, ↓u_lc, ↓u_lcN, ↓u_lcC, ↓u_yes, ↓u_call, ↓u_argN, ↓u_argD, ↓u_argM, ↓u_argO, ↓u_argT, ↓u_backN, ↓u_backC, ↓u_fn, ↓k_fnO, ↓u_gtupD, ↓u_gtupN, ↓u_gtupL, ↓u_gtupT, ↓u_gN, ↓u_gC, ↓k_subL, ↓u_meth, ↓u_append, ↓u_popAt, ↓u_ixD, ↓u_ixN, ↓u_ixT, ↓u_ixS, ↓u_ixX, ↓u_mod, ↓u_div, ↓u_pow, ↓u_mul, ↓u_lenX, ↓u_lenL, ↓u_lenT, ↓u_lenC, ↓u_lenN, ↓u_addS, ↓u_isiD, ↓u_isiN, ↓u_zip, ↓u_argL, ↓u_argV, ↓u_dc, ↓u_dcN, ↓u_dcC, ↓k_dcX, ↓u_turn, ↓u_neg, ↓u_frz, ↓u_stoT, ↓u_stoL, ↓u_mulT, ↓u_addT, ↓u_listT, ↓u_listL, ↓u_slT, ↓rn_bind, ↓rn_some, ↓rn_iteT, ↓rn_iteF, ↓rv0, ↓ro0, ↓rb0, ↓rn0, ↓rs0, ↓rl0, ↓ra0, ↓rk0, ↓rx0, ↓rg0, ↓rh0, ↓rp0, ↓rv1, ↓ro1, ↓rb1, ↓rn1, ↓rs1, ↓rl1, ↓ra1, ↓rk1, ↓rx1, ↓rg1, ↓rh1, ↓rp1, ↓rv2, ↓ro2, ↓rb2, ↓rn2, ↓rs2, ↓rl2, ↓ra2, ↓rk2, ↓rx2, ↓rg2, ↓rh2, ↓rp2, ↓rv3, ↓ro3, ↓rb3, ↓rn3, ↓rs3, ↓rl3, ↓ra3, ↓rk3, ↓rx3, ↓rg3, ↓rh3, ↓rp3, ↓rv4, ↓ro4, ↓rb4, ↓rn4, ↓rs4, ↓rl4, ↓ra4, ↓rk4, ↓rx4, ↓rg4, ↓rh4, ↓rp4, ↓rv5, ↓ro5, ↓rb5, ↓rn5, ↓rs5, ↓rl5, ↓ra5, ↓rk5, ↓rx5, ↓rg5, ↓rh5, ↓rp5, ↓rv6, ↓ro6, ↓rb6, ↓rn6, ↓rs6, ↓rl6, ↓ra6, ↓rk6, ↓rx6, ↓rg6, ↓rh6, ↓rp6, ↓rv7, ↓ro7, ↓rb7, ↓rn7, ↓rs7, ↓rl7, ↓ra7, ↓rk7, ↓rx7, ↓rg7, ↓rh7, ↓rp7, ↓rv8, ↓ro8, ↓rb8, ↓rn8, ↓rs8, ↓rl8, ↓ra8, ↓rk8, ↓rx8, ↓rg8, ↓rh8, ↓rp8, ↓rv9, ↓ro9, ↓rb9, ↓rn9, ↓rs9, ↓rl9, ↓ra9, ↓rk9, ↓rx9, ↓rg9, ↓rh9, ↓rp9, ↓rv10, ↓ro10, ↓rb10, ↓rn10, ↓rs10, ↓rl10, ↓ra10, ↓rk10, ↓rx10, ↓rg10, ↓rh10, ↓rp10, ↓rv11, ↓ro11, ↓rb11, ↓rn11, ↓rs11, ↓rl11, ↓ra11, ↓rk11, ↓rx11, ↓rg11, ↓rh11, ↓rp11, ↓rv12, ↓ro12, ↓rb12, ↓rn12, ↓rs12, ↓rl12, ↓ra12, ↓rk12, ↓rx12, ↓rg12, ↓rh12, ↓rp12, ↓rv13, ↓ro13, ↓rb13, ↓rn13, ↓rs13, ↓rl13, ↓ra13, ↓rk13, ↓rx13, ↓rg13, ↓rh13, ↓rp13, ↓rv14, ↓ro14, ↓rb14, ↓rn14, ↓rs14, ↓rl14, ↓ra14, ↓rk14, ↓rx14, ↓rg14, ↓rh14, ↓rp14, ↓rv15, ↓ro15, ↓rb15, ↓rn15, ↓rs15, ↓rl15, ↓ra15, ↓rk15, ↓rx15, ↓rg15, ↓rh15, ↓rp15, ↓rv16, ↓ro16, ↓rb16, ↓rn16, ↓rs16, ↓rl16, ↓ra16, ↓rk16, ↓rx16, ↓rg16, ↓rh16, ↓rp16, ↓rv17, ↓ro17, ↓rb17, ↓rn17, ↓rs17, ↓rl17, ↓ra17, ↓rk17, ↓rx17, ↓rg17, ↓rh17, ↓rp17, rn_some, k_andT, k_andF, k_orT, k_orF, k_B, k_int, k_seqN, k_seqR, k_seqB, k_seqC, k_loopN, k_loopR, k_enum, k_fnN, k_fnD, k_fnNew, e_addI, e_subI, e_ltI, e_leI, e_gtI, e_geI, e_eqI, e_neI, e_abs, e_intI, e_intB, e_at0, e_at1, e_at2, e_ix30, e_ix32, List.set_cons_zero, List.set_cons_succ, f1, List.length_cons, List.length_nil, List.all_cons, List.all_nil, cold, hots, hot, List.map_cons, List.map_nil, List.cons_append, List.nil_append, List.append_nil, List.replicate_succ, List.replicate_zero, List.take_succ_cons, List.take_zero, wipeS, backS, noOwn, Nat.reduceAdd, Nat.reduceSub, Nat.reduceLeDiff, Nat.reduceEqDiff, Bool.and_true, Bool.true_and, Bool.and_false, Bool.false_and, Bool.not_true, Bool.not_false, Bool.false_eq_true, Bool.true_eq_false, reduceCtorEq, true_and, and_true, if_true, if_false, decide_true, decide_false, isOk, isA, String.reduceBEq, turn_f, cut_1, k_zipLL, k_zipTT, k_zipTL, e_isN, e_isNot, isNo, beq_self_eq_true, bne_self_eq_false, e_eqB, e_neB, e_eqX, List.any_cons, List.any_nil, Bool.or_true, Bool.true_or, Bool.or_self, reduceIte, Bool.or_false, Bool.false_or, ri0, rt0, ri1, rt1, ri2, rt2, ri3, rt3, ri4, rt4, ri5, rt5, ri6, rt6, ri7, rt7, ri8, rt8, ri9, rt9, ri10, rt10, ri11, rt11, ri12, rt12, ri13, rt13, ri14, rt14, ri15, rt15, ri16, rt16, ri17, rt17, cast0, cast1, Int.cast_ofNat_Int, Int.reduceEq, Int.reduceLT, Int.reduceLE, Int.reduceAdd, Int.reduceSub, Int.reduceMul, Nat.reduceLT, Int.reduceToNat, Int.reducePow, Int.reduceNeg, Int.reduceNegSucc, cp6, seqD, List.flatten_cons, List.flatten_nil, List.reduceReplicate, actB, hl, zipD, ↓u_all, blsD, ↓u_callH4, l_place, ↓rn_of e, rf_name, rf_item, rf_place, List.all_cons, List.all_nil, id, List.foldl, noOwn, wipeS, Option.bind_some]
                | cons z r =>
                  have n2 : ¬ ((r.length + 1 + 1 : Nat) : Int) = 1 := by omega
                  simp (maxSteps := 20000000) only [↓u_C, ↓u_nil, ↓u_cons, ↓u_tup, ↓u_lst, ↓u_op, ↓u_and, ↓u_or, ↓u_test, ↓u_not, ↓u_notT, ↓u_andT, ↓u_orT, ↓u_ifE, ↓u_chain, ↓k_chT, ↓k_chF, ↓u_CB, ↓u_isi, ↓u_sl, ↓u_noPart, ↓u_part, ↓u_seq, ↓u_next, ↓u_retN, ↓u_bk, ↓u_ct, ↓u_drop, ↓u_ret, ↓u_if, ↓u_asg, ↓u_par, ↓u_prepN, ↓u_prepD, ↓u_prepO, ↓u_allN, ↓u_allC, ↓u_for, ↓u_loopN, ↓u_loopC, ↓u_it, ↓u_stoD, ↓u_stoN, ↓u_stosN, ↓u_stosC, ↓u_range1, ↓u_enum, ↓u_lc, ↓u_lcN, ↓u_lcC, ↓u_yes, ↓u_call, ↓u_argN, ↓u_argD, ↓u_argM, ↓u_argO, ↓u_argT, ↓u_backN, ↓u_backC, ↓u_fn, ↓k_fnO, ↓u_gtupD, ↓u_gtupN, ↓u_gtupL, ↓u_gtupT, ↓u_gN, ↓u_gC, ↓k_subL, ↓u_meth, ↓u_append, ↓u_popAt, ↓u_ixD, ↓u_ixN, ↓u_ixT, ↓u_ixS, ↓u_ixX, ↓u_mod, ↓u_div, ↓u_pow, ↓u_mul, ↓u_lenX, ↓u_lenL, ↓u_lenT, ↓u_lenC, ↓u_lenN, ↓u_addS, ↓u_isiD, ↓u_isiN, ↓u_zip, ↓u_argL, ↓u_argV, ↓u_dc, ↓u_dcN, ↓u_dcC, ↓k_dcX, ↓u_turn, ↓u_neg, ↓u_frz, ↓u_stoT, ↓u_stoL, ↓u_mulT, ↓u_addT, ↓u_listT, ↓u_listL, ↓u_slT, ↓rn_bind, ↓rn_some, ↓rn_iteT, ↓rn_iteF, ↓rv0, ↓ro0, ↓rb0, ↓rn0, ↓rs0, ↓rl0, ↓ra0, ↓rk0, ↓rx0, ↓rg0, ↓rh0, ↓rp0, ↓rv1, ↓ro1, ↓rb1, ↓rn1, ↓rs1, ↓rl1, ↓ra1, ↓rk1, ↓rx1, ↓rg1, ↓rh1, ↓rp1, ↓rv2, ↓ro2, ↓rb2, ↓rn2, ↓rs2, ↓rl2, ↓ra2, ↓rk2, ↓rx2, ↓rg2, ↓rh2, ↓rp2, ↓rv3, ↓ro3, ↓rb3, ↓rn3, ↓rs3, ↓rl3, ↓ra3, ↓rk3, ↓rx3, ↓rg3, ↓rh3, ↓rp3, ↓rv4, ↓ro4, ↓rb4, ↓rn4, ↓rs4, ↓rl4, ↓ra4, ↓rk4, ↓rx4, ↓rg4, ↓rh4, ↓rp4, ↓rv5, ↓ro5, ↓rb5, ↓rn5, ↓rs5, ↓rl5, ↓ra5, ↓rk5, ↓rx5, ↓rg5, ↓rh5, ↓rp5, ↓rv6, ↓ro6, ↓rb6, ↓rn6, ↓rs6, ↓rl6, ↓ra6, ↓rk6, ↓rx6, ↓rg6, ↓rh6, ↓rp6, ↓rv7, ↓ro7, ↓rb7, ↓rn7, ↓rs7, ↓rl7, ↓ra7, ↓rk7, ↓rx7, ↓rg7, ↓rh7, ↓rp7, ↓rv8, ↓ro8, ↓rb8, ↓rn8, ↓rs8, ↓rl8, ↓ra8, ↓rk8, ↓rx8, ↓rg8, ↓rh8, ↓rp8, ↓rv9, ↓ro9, ↓rb9, ↓rn9, ↓rs9, ↓rl9, ↓ra9, ↓rk9, ↓rx9, ↓rg9, ↓rh9, ↓rp9, ↓rv10, ↓ro10, ↓rb10, ↓rn10, ↓rs10, ↓rl10, ↓ra10, ↓rk10, ↓rx10, ↓rg10, ↓rh10, ↓rp10, ↓rv11, ↓ro11, ↓rb11, ↓rn11, ↓rs11, ↓rl11, ↓ra11, ↓rk11, ↓rx11, ↓rg11, ↓rh11, ↓rp11, ↓rv12, ↓ro12, ↓rb12, ↓rn12, ↓rs12, ↓rl12, ↓ra12, ↓rk12, ↓rx12, ↓rg12, ↓rh12, ↓rp12, ↓rv13, ↓ro13, ↓rb13, ↓rn13, ↓rs13, ↓rl13, ↓ra13, ↓rk13, ↓rx13, ↓rg13, ↓rh13, ↓rp13, ↓rv14, ↓ro14, ↓rb14, ↓rn14, ↓rs14, ↓rl14, ↓ra14, ↓rk14, ↓rx14, ↓rg14, ↓rh14, ↓rp14, ↓rv15, ↓ro15, ↓rb15, ↓rn15, ↓rs15, ↓rl15, ↓ra15, ↓rk15, ↓rx15, ↓rg15, ↓rh15, ↓rp15, ↓rv16, ↓ro16, ↓rb16, ↓rn16, ↓rs16, ↓rl16, ↓ra16, ↓rk16, ↓rx16, ↓rg16, ↓rh16, ↓rp16, ↓rv17, ↓ro17, ↓rb17, ↓rn17, ↓rs17, ↓rl17, ↓ra17, ↓rk17, ↓rx17, ↓rg17, ↓rh17, ↓rp17, rn_some, k_andT, k_andF, k_orT, k_orF, k_B, k_int, k_seqN, k_seqR, k_seqB, k_seqC, k_loopN, k_loopR, k_enum, k_fnN, k_fnD, k_fnNew, e_addI, e_subI, e_ltI, e_leI, e_gtI, e_geI, e_eqI, e_neI, e_abs, e_intI, e_intB, e_at0, e_at1, e_at2, e_ix30, e_ix32, List.set_cons_zero, List.set_cons_succ, f1, List.length_cons, List.length_nil, List.all_cons, List.all_nil, cold, hots, hot, List.map_cons, List.map_nil, List.cons_append, List.nil_append, List.append_nil, List.replicate_succ, List.replicate_zero, List.take_succ_cons, List.take_zero, wipeS, backS, noOwn, Nat.reduceAdd, Nat.reduceSub, Nat.reduceLeDiff, Nat.reduceEqDiff, Bool.and_true, Bool.true_and, Bool.and_false, Bool.false_and, Bool.not_true, Bool.not_false, Bool.false_eq_true, Bool.true_eq_false, reduceCtorEq, true_and, and_true, if_true, if_false, decide_true, decide_false, isOk, isA, String.reduceBEq, turn_f, cut_1, k_zipLL, k_zipTT, k_zipTL, e_isN, e_isNot, isNo, beq_self_eq_true, bne_self_eq_false, e_eqB, e_neB, e_eqX, List.any_cons, List.any_nil, Bool.or_true, Bool.true_or, Bool.or_self, reduceIte, Bool.or_false, Bool.false_or, ri0, rt0, ri1, rt1, ri2, rt2, ri3, rt3, ri4, rt4, ri5, rt5, ri6, rt6, ri7, rt7, ri8, rt8, ri9, rt9, ri10, rt10, ri11, rt11, ri12, rt12, ri13, rt13, ri14, rt14, ri15, rt15, ri16, rt16, ri17, rt17, cast0, cast1, Int.cast_ofNat_Int, Int.reduceEq, Int.reduceLT, Int.reduceLE, Int.reduceAdd, Int.reduceSub, Int.reduceMul, Nat.reduceLT, Int.reduceToNat, Int.reducePow, Int.reduceNeg, Int.reduceNegSucc, cp6, seqD, List.flatten_cons, List.flatten_nil, List.reduceReplicate, actB, hl, n2]
        | _ => simp (maxSteps := 20000000) only [↓u_C, ↓u_nil, ↓u_cons, ↓u_tup, ↓u_lst, ↓u_op, ↓u_and, ↓u_or, ↓u_test, ↓u_not, ↓u_notT, ↓u_andT, ↓u_orT, ↓u_ifE, ↓u_chain, ↓k_chT, ↓k_chF, ↓u_CB, ↓u_isi, ↓u_sl, ↓u_noPart, ↓u_part, ↓u_seq, ↓u_next, ↓u_retN, ↓u_bk, ↓u_ct, ↓u_drop, ↓u_ret, ↓u_if, ↓u_asg, ↓u_par, ↓u_prepN, ↓u_prepD, ↓u_prepO, ↓u_allN, ↓u_allC, ↓u_for, ↓u_loopN, ↓u_loopC, ↓u_it, ↓u_stoD, ↓u_stoN, ↓u_stosN, ↓u_stosC, ↓u_range1, ↓u_enum, ↓u_lc, ↓u_lcN, ↓u_lcC, ↓u_yes, ↓u_call, ↓u_argN, ↓u_argD, ↓u_argM, ↓u_argO, ↓u_argT, ↓u_backN, ↓u_backC, ↓u_fn, ↓k_fnO, ↓u_gtupD, ↓u_gtupN, ↓u_gtupL, ↓u_gtupT, ↓u_gN, ↓u_gC, ↓k_subL, ↓u_meth, ↓u_append, ↓u_popAt, ↓u_ixD, ↓u_ixN, ↓u_ixT, ↓u_ixS, ↓u_ixX, ↓u_mod, ↓u_div, ↓u_pow, ↓u_mul, ↓u_lenX, ↓u_lenL, ↓u_lenT, ↓u_lenC, ↓u_lenN, ↓u_addS, ↓u_isiD, ↓u_isiN, ↓u_zip, ↓u_argL, ↓u_argV, ↓u_dc, ↓u_dcN, ↓u_dcC, ↓k_dcX, ↓u_turn, ↓u_neg, ↓u_frz, ↓u_stoT, ↓u_stoL, ↓u_mulT, ↓u_addT, ↓u_listT, ↓u_listL, ↓u_slT, ↓rn_bind, ↓rn_some, ↓rn_iteT, ↓rn_iteF, ↓rv0, ↓ro0, ↓rb0, ↓rn0, ↓rs0, ↓rl0, ↓ra0, ↓rk0, ↓rx0, ↓rg0, ↓rh0, ↓rp0, ↓rv1, ↓ro1, ↓rb1, ↓rn1, ↓rs1, ↓rl1, ↓ra1, ↓rk1, ↓rx1, ↓rg1, ↓rh1, ↓rp1, ↓rv2, ↓ro2, ↓rb2, ↓rn2, ↓rs2, ↓rl2, ↓ra2, ↓rk2, ↓rx2, ↓rg2, ↓rh2, ↓rp2, ↓rv3, ↓ro3, ↓rb3, ↓rn3, ↓rs3, ↓rl3, ↓ra3, ↓rk3, ↓rx3, ↓rg3, ↓rh3, ↓rp3, ↓rv4, ↓ro4, ↓rb4, ↓rn4, ↓rs4, ↓rl4, ↓ra4, ↓rk4, ↓rx4, ↓rg4, ↓rh4, ↓rp4, ↓rv5, ↓ro5, ↓rb5, ↓rn5, ↓rs5, ↓rl5, ↓ra5, ↓rk5, ↓rx5, ↓rg5, ↓rh5, ↓rp5, ↓rv6, ↓ro6, ↓rb6, ↓rn6, ↓rs6, ↓rl6, ↓ra6, ↓rk6, ↓rx6, ↓rg6, ↓rh6, ↓rp6, ↓rv7, ↓ro7, ↓rb7, ↓rn7, ↓rs7, ↓rl7, ↓ra7, ↓rk7, ↓rx7, ↓rg7, ↓rh7, ↓rp7, ↓rv8, ↓ro8, ↓rb8, ↓rn8, ↓rs8, ↓rl8, ↓ra8, ↓rk8, ↓rx8, ↓rg8, ↓rh8, ↓rp8, ↓rv9, ↓ro9, ↓rb9, ↓rn9, ↓rs9, ↓rl9, ↓ra9, ↓rk9, ↓rx9, ↓rg9, ↓rh9, ↓rp9, ↓rv10, ↓ro10, ↓rb10, ↓rn10, ↓rs10, ↓rl10, ↓ra10, ↓rk10, ↓rx10, ↓rg10, ↓rh10, ↓rp10, ↓rv11, ↓ro11, ↓rb11, ↓rn11, ↓rs11, ↓rl11, ↓ra11, ↓rk11, ↓rx11, ↓rg11, ↓rh11, ↓rp11, ↓rv12, ↓ro12, ↓rb12, ↓rn12, ↓rs12, ↓rl12, ↓ra12, ↓rk12, ↓rx12, ↓rg12, ↓rh12, ↓rp12, ↓rv13, ↓ro13, ↓rb13, ↓rn13, ↓rs13, ↓rl13, ↓ra13, ↓rk13, ↓rx13, ↓rg13, ↓rh13, ↓rp13, ↓rv14, ↓ro14, ↓rb14, ↓rn14, ↓rs14, ↓rl14, ↓ra14, ↓rk14, ↓rx14, ↓rg14, ↓rh14, ↓rp14, ↓rv15, ↓ro15, ↓rb15, ↓rn15, ↓rs15, ↓rl15, ↓ra15, ↓rk15, ↓rx15, ↓rg15, ↓rh15, ↓rp15, ↓rv16, ↓ro16, ↓rb16, ↓rn16, ↓rs16, ↓rl16, ↓ra16, ↓rk16, ↓rx16, ↓rg16, ↓rh16, ↓rp16, ↓rv17, ↓ro17, ↓rb17, ↓rn17, ↓rs17, ↓rl17, ↓ra17, ↓rk17, ↓rx17, ↓rg17, ↓rh17, ↓rp17, rn_some, k_andT, k_andF, k_orT, k_orF, k_B, k_int, k_seqN, k_seqR, k_seqB, k_seqC, k_loopN, k_loopR, k_enum, k_fnN, k_fnD, k_fnNew, e_addI, e_subI, e_ltI, e_leI, e_gtI, e_geI, e_eqI, e_neI, e_abs, e_intI, e_intB, e_at0, e_at1, e_at2, e_ix30, e_ix32, List.set_cons_zero, List.set_cons_succ, f1, List.length_cons, List.length_nil, List.all_cons, List.all_nil, cold, hots, hot, List.map_cons, List.map_nil, List.cons_append, List.nil_append, List.append_nil, List.replicate_succ, List.replicate_zero, List.take_succ_cons, List.take_zero, wipeS, backS, noOwn, Nat.reduceAdd, Nat.reduceSub, Nat.reduceLeDiff, Nat.reduceEqDiff, Bool.and_true, Bool.true_and, Bool.and_false, Bool.false_and, Bool.not_true, Bool.not_false, Bool.false_eq_true, Bool.true_eq_false, reduceCtorEq, true_and, and_true, if_true, if_false, decide_true, decide_false, isOk, isA, String.reduceBEq, turn_f, cut_1, k_zipLL, k_zipTT, k_zipTL, e_isN, e_isNot, isNo, beq_self_eq_true, bne_self_eq_false, e_eqB, e_neB, e_eqX, List.any_cons, List.any_nil, Bool.or_true, Bool.true_or, Bool.or_self, reduceIte, Bool.or_false, Bool.false_or, ri0, rt0, ri1, rt1, ri2, rt2, ri3, rt3, ri4, rt4, ri5, rt5, ri6, rt6, ri7, rt7, ri8, rt8, ri9, rt9, ri10, rt10, ri11, rt11, ri12, rt12, ri13, rt13, ri14, rt14, ri15, rt15, ri16, rt16, ri17, rt17, cast0, cast1, Int.cast_ofNat_Int, Int.reduceEq, Int.reduceLT, Int.reduceLE, Int.reduceAdd, Int.reduceSub, Int.reduceMul, Nat.reduceLT, Int.reduceToNat, Int.reducePow, Int.reduceNeg, Int.reduceNegSucc, cp6, seqD, List.flatten_cons, List.flatten_nil, List.reduceReplicate, ne, actB]
    | _ => simp (maxSteps := 20000000) only [↓u_C, ↓u_nil, ↓u_cons, ↓u_tup, ↓u_lst, ↓u_op, ↓u_and, ↓u_or, ↓u_test, ↓u_not, ↓u_notT, ↓u_andT, ↓u_orT, ↓u_ifE, ↓u_chain, ↓k_chT, ↓k_chF, ↓u_CB, ↓u_isi, ↓u_sl, ↓u_noPart, ↓u_part, ↓u_seq, ↓u_next, ↓u_retN, ↓u_bk, ↓u_ct, ↓u_drop, ↓u_ret, ↓u_if, ↓u_asg, ↓u_par, ↓u_prepN, ↓u_prepD, ↓u_prepO, ↓u_allN, ↓u_allC, ↓u_for, ↓u_loopN, ↓u_loopC, ↓u_it, ↓u_stoD, ↓u_stoN, ↓u_stosN, ↓u_stosC, ↓u_range1, ↓u_enum, ↓u_lc, ↓u_lcN, ↓u_lcC, ↓u_yes, ↓u_call, ↓u_argN, ↓u_argD, ↓u_argM, ↓u_argO, ↓u_argT, ↓u_backN, ↓u_backC, ↓u_fn, ↓k_fnO, ↓u_gtupD, ↓u_gtupN, ↓u_gtupL, ↓u_gtupT, ↓u_gN, ↓u_gC, ↓k_subL, ↓u_meth, ↓u_append, ↓u_popAt, ↓u_ixD, ↓u_ixN, ↓u_ixT, ↓u_ixS, ↓u_ixX, ↓u_mod, ↓u_div, ↓u_pow, ↓u_mul, ↓u_lenX, ↓u_lenL, ↓u_lenT, ↓u_lenC, ↓u_lenN, ↓u_addS, ↓u_isiD, ↓u_isiN, ↓u_zip, ↓u_argL, ↓u_argV, ↓u_dc, ↓u_dcN, ↓u_dcC, ↓k_dcX, ↓u_turn, ↓u_neg, ↓u_frz, ↓u_stoT, ↓u_stoL, ↓u_mulT, ↓u_addT, ↓u_listT, ↓u_listL, ↓u_slT, ↓rn_bind, ↓rn_some, ↓rn_iteT, ↓rn_iteF, ↓rv0, ↓ro0, ↓rb0, ↓rn0, ↓rs0, ↓rl0, ↓ra0, ↓rk0, ↓rx0, ↓rg0, ↓rh0, ↓rp0, ↓rv1, ↓ro1, ↓rb1, ↓rn1, ↓rs1, ↓rl1, ↓ra1, ↓rk1, ↓rx1, ↓rg1, ↓rh1, ↓rp1, ↓rv2, ↓ro2, ↓rb2, ↓rn2, ↓rs2, ↓rl2, ↓ra2, ↓rk2, ↓rx2, ↓rg2, ↓rh2, ↓rp2, ↓rv3, ↓ro3, ↓rb3, ↓rn3, ↓rs3, ↓rl3, ↓ra3, ↓rk3, ↓rx3, ↓rg3, ↓rh3, ↓rp3, ↓rv4, ↓ro4, ↓rb4, ↓rn4, ↓rs4, ↓rl4, ↓ra4, ↓rk4, ↓rx4, ↓rg4, ↓rh4, ↓rp4, ↓rv5, ↓ro5, ↓rb5, ↓rn5, ↓rs5, ↓rl5, ↓ra5, ↓rk5, ↓rx5, ↓rg5, ↓rh5, ↓rp5, ↓rv6, ↓ro6, ↓rb6, ↓rn6, ↓rs6, ↓rl6, ↓ra6, ↓rk6, ↓rx6, ↓rg6, ↓rh6, ↓rp6, ↓rv7, ↓ro7, ↓rb7, ↓rn7, ↓rs7, ↓rl7, ↓ra7, ↓rk7, ↓rx7, ↓rg7, ↓rh7, ↓rp7, ↓rv8, ↓ro8, ↓rb8, ↓rn8, ↓rs8, ↓rl8, ↓ra8, ↓rk8, ↓rx8, ↓rg8, ↓rh8, ↓rp8, ↓rv9, ↓ro9, ↓rb9, ↓rn9, ↓rs9, ↓rl9, ↓ra9, ↓rk9, ↓rx9, ↓rg9, ↓rh9, ↓rp9, ↓rv10, ↓ro10, ↓rb10, ↓rn10, ↓rs10, ↓rl10, ↓ra10, ↓rk10, ↓rx10, ↓rg10, ↓rh10, ↓rp10, ↓rv11, ↓ro11, ↓rb11, ↓rn11, ↓rs11, ↓rl11, ↓ra11, ↓rk11, ↓rx11, ↓rg11, ↓rh11, ↓rp11, ↓rv12, ↓ro12, ↓rb12, ↓rn12, ↓rs12, ↓rl12, ↓ra12, ↓rk12, ↓rx12, ↓rg12, ↓rh12, ↓rp12, ↓rv13, ↓ro13, ↓rb13, ↓rn13, ↓rs13, ↓rl13, ↓ra13, ↓rk13, ↓rx13, ↓rg13, ↓rh13, ↓rp13, ↓rv14, ↓ro14, ↓rb14, ↓rn14, ↓rs14, ↓rl14, ↓ra14, ↓rk14, ↓rx14, ↓rg14, ↓rh14, ↓rp14, ↓rv15, ↓ro15, ↓rb15, ↓rn15, ↓rs15, ↓rl15, ↓ra15, ↓rk15, ↓rx15, ↓rg15, ↓rh15, ↓rp15, ↓rv16, ↓ro16, ↓rb16, ↓rn16, ↓rs16, ↓rl16, ↓ra16, ↓rk16, ↓rx16, ↓rg16, ↓rh16, ↓rp16, ↓rv17, ↓ro17, ↓rb17, ↓rn17, ↓rs17, ↓rl17, ↓ra17, ↓rk17, ↓rx17, ↓rg17, ↓rh17, ↓rp17, rn_some, k_andT, k_andF, k_orT, k_orF, k_B, k_int, k_seqN, k_seqR, k_seqB, k_seqC, k_loopN, k_loopR, k_enum, k_fnN, k_fnD, k_fnNew, e_addI, e_subI, e_ltI, e_leI, e_gtI, e_geI, e_eqI, e_neI, e_abs, e_intI, e_intB, e_at0, e_at1, e_at2, e_ix30, e_ix32, List.set_cons_zero, List.set_cons_succ, f1, List.length_cons, List.length_nil, List.all_cons, List.all_nil, cold, hots, hot, List.map_cons, List.map_nil, List.cons_append, List.nil_append, List.append_nil, List.replicate_succ, List.replicate_zero, List.take_succ_cons, List.take_zero, wipeS, backS, noOwn, Nat.reduceAdd, Nat.reduceSub, Nat.reduceLeDiff, Nat.reduceEqDiff, Bool.and_true, Bool.true_and, Bool.and_false, Bool.false_and, Bool.not_true, Bool.not_false, Bool.false_eq_true, Bool.true_eq_false, reduceCtorEq, true_and, and_true, if_true, if_false, decide_true, decide_false, isOk, isA, String.reduceBEq, turn_f, cut_1, k_zipLL, k_zipTT, k_zipTL, e_isN, e_isNot, isNo, beq_self_eq_true, bne_self_eq_false, e_eqB, e_neB, e_eqX, List.any_cons, List.any_nil, Bool.or_true, Bool.true_or, Bool.or_self, reduceIte, Bool.or_false, Bool.false_or, ri0, rt0, ri1, rt1, ri2, rt2, ri3, rt3, ri4, rt4, ri5, rt5, ri6, rt6, ri7, rt7, ri8, rt8, ri9, rt9, ri10, rt10, ri11, rt11, ri12, rt12, ri13, rt13, ri14, rt14, ri15, rt15, ri16, rt16, ri17, rt17, cast0, cast1, Int.cast_ofNat_Int, Int.reduceEq, Int.reduceLT, Int.reduceLE, Int.reduceAdd, Int.reduceSub, Int.reduceMul, Nat.reduceLT, Int.reduceToNat, Int.reducePow, Int.reduceNeg, Int.reduceNegSucc, cp6, seqD, List.flatten_cons, List.flatten_nil, List.reduceReplicate, actB]
  obtain ⟨a, e, rfl⟩ := main
  exact e
/-- what a word lacks below, and leaves more -/
def lacksI (w : Str) : Int := match (tabOf d_LACKS_BELOW).lookup w with
  | some (.int i) => i
  | _ => 0
def leavesI (w : Str) : Int := match (tabOf d_LEAVES_MORE).lookup w with
  | some (.int i) => i
  | _ => 0
theorem lacks_are {w : Str} {v : Da} (h : LK.lookup w = some v) : (tabOf d_LACKS_BELOW).lookup w = some (.int (lacksI w)) ∧ (tabOf d_LEAVES_MORE).lookup w = some (.int (leavesI w)) := by
  obtain ⟨k, rfl, hm⟩ := lookup_mem h
  simp only [LK, tabOf, d_LOOKS, List.mem_cons, Prod.mk.injEq, List.not_mem_nil, or_false] at hm
  rcases hm with ⟨rfl, _⟩ | ⟨rfl, _⟩ | ⟨rfl, _⟩ | ⟨rfl, _⟩ | ⟨rfl, _⟩ | ⟨rfl, _⟩ | ⟨rfl, _⟩ | ⟨rfl, _⟩ | ⟨rfl, _⟩ | ⟨rfl, _⟩ | ⟨rfl, _⟩ | ⟨rfl, _⟩ | ⟨rfl, _⟩ <;> exact ⟨rfl, rfl⟩
def pileB : Int → List Da → Bool
  | _, [] => true
  | p, .tup (.str w :: _) :: ds => if p < lacksI w then false else pileB (p + leavesI w) ds
  | _, _ :: _ => false
def codeB : Da → Bool
  | .tup ds => decide (ds.length ≤ 24) && ds.all actB && pileB 0 ds
  | _ => false
theorem act_shape {d : Da} (h : actB d = true) : ∃ w rest v, d = .tup (.str w :: rest) ∧ LK.lookup w = some v := by
  cases d with
  | tup ds =>
    cases ds with
    | nil => cases h
    | cons x rest =>
      cases x with
      | str w =>
        cases hl : LK.lookup w with
        | some v => exact ⟨w, rest, v, rfl, hl⟩
        | none =>
          simp only [actB, hl] at h
          cases h
      | _ => cases h
  | _ => cases h
theorem acts_loop {a b c e : SV} : ∀ (ds : List Da), (∀ x ∈ ds, plain x = true) → Rn (loopC [4] (bindV 4) wYes (wCall 1 [false] w_is_act (wCons (wVar 4) wNil)) ds [a, b, c, e, .un]) fun q => q = ((ds.map actB).map Da.bl, [a, b, c, e, .un])
  | [], _ => by
    show Rn (some _) _
    rw [rn_some]
    rfl
  | x :: ds, h => by
    have q := is_act_eq (h x (by simp))
    rw [u_lcC]
    simp (maxSteps := 20000000) only [↓u_C, ↓u_nil, ↓u_cons, ↓u_tup, ↓u_lst, ↓u_op, ↓u_and, ↓u_or, ↓u_test, ↓u_not, ↓u_notT, ↓u_andT, ↓u_orT, ↓u_ifE, ↓u_chain, ↓k_chT, ↓k_chF, ↓u_CB, ↓u_isi, ↓u_sl, ↓u_noPart, ↓u_part, ↓u_seq, ↓u_next, ↓u_retN, ↓u_bk, ↓u_ct, ↓u_drop, ↓u_ret, ↓u_if, ↓u_asg, ↓u_par, ↓u_prepN, ↓u_prepD, ↓u_prepO, ↓u_allN, ↓u_allC, ↓u_for, ↓u_loopN, ↓u_loopC, ↓u_it, ↓u_stoD, ↓u_stoN, ↓u_stosN, ↓u_stosC, ↓u_range1, ↓u_enum, ↓u_lc, ↓u_lcN, ↓u_lcC, ↓u_yes, ↓u_call, ↓u_argN, ↓u_argD, ↓u_argM, ↓u_argO, ↓u_argT, ↓u_backN, ↓u_backC, ↓u_fn, ↓k_fnO, ↓u_gtupD, ↓u_gtupN, ↓u_gtupL, ↓u_gtupT, ↓u_gN, ↓u_gC, ↓k_subL, ↓u_meth, ↓u_append, ↓u_popAt, ↓u_ixD, ↓u_ixN, ↓u_ixT, ↓u_ixS, ↓u_ixX, ↓u_mod, ↓u_div, ↓u_pow, ↓u_mul, ↓u_lenX, ↓u_lenL, ↓u_lenT, ↓u_lenC, ↓u_lenN, ↓u_addS, ↓u_isiD, ↓u_isiN, ↓u_zip, ↓u_argL, ↓u_argV, ↓u_dc, ↓u_dcN, ↓u_dcC, ↓k_dcX, ↓u_turn, ↓u_neg, ↓u_frz, ↓u_stoT, ↓u_stoL, ↓u_mulT, ↓u_addT, ↓u_listT, ↓u_listL, ↓u_slT, ↓rn_bind, ↓rn_some, ↓rn_iteT, ↓rn_iteF, ↓rv0, ↓ro0, ↓rb0, ↓rn0, ↓rs0, ↓rl0, ↓ra0, ↓rk0, ↓rx0, ↓rg0, ↓rh0, ↓rp0, ↓rv1, ↓ro1, ↓rb1, ↓rn1, ↓rs1, ↓rl1, ↓ra1, ↓rk1, ↓rx1, ↓rg1, ↓rh1, ↓rp1, ↓rv2, ↓ro2, ↓rb2, ↓rn2, ↓rs2, ↓rl2, ↓ra2, ↓rk2, ↓rx2, ↓rg2, ↓rh2, ↓rp2, ↓rv3, ↓ro3, ↓rb3, ↓rn3, ↓rs3, ↓rl3, ↓ra3, ↓rk3, ↓rx3, ↓rg3, ↓rh3, ↓rp3, ↓rv4, ↓ro4, ↓rb4, ↓rn4, ↓rs4, ↓rl4, ↓ra4, ↓rk4, ↓rx4, ↓rg4, ↓rh4, ↓rp4, ↓rv5, ↓ro5, ↓rb5, ↓rn5, ↓rs5, ↓rl5, ↓ra5, ↓rk5, ↓rx5, ↓rg5, ↓rh5, ↓rp5, ↓rv6, ↓ro6, ↓rb6, ↓rn6, ↓rs6, ↓rl6, ↓ra6, ↓rk6, ↓rx6, ↓rg6, ↓rh6, ↓rp6, ↓rv7, ↓ro7, ↓rb7, ↓rn7, ↓rs7, ↓rl7, ↓ra7, ↓rk7, ↓rx7, ↓rg7, ↓rh7, ↓rp7, ↓rv8, ↓ro8, ↓rb8, ↓rn8, ↓rs8, ↓rl8, ↓ra8, ↓rk8, ↓rx8, ↓rg8, ↓rh8, ↓rp8, ↓rv9, ↓ro9, ↓rb9, ↓rn9, ↓rs9, ↓rl9, ↓ra9, ↓rk9, ↓rx9, ↓rg9, ↓rh9, ↓rp9, ↓rv10, ↓ro10, ↓rb10, ↓rn10, ↓rs10, ↓rl10, ↓ra10, ↓rk10, ↓rx10, ↓rg10, ↓rh10, ↓rp10, ↓rv11, ↓ro11, ↓rb11, ↓rn11, ↓rs11, ↓rl11, ↓ra11, ↓rk11, ↓rx11, ↓rg11, ↓rh11, ↓rp11, ↓rv12, ↓ro12, ↓rb12, ↓rn12, ↓rs12, ↓rl12, ↓ra12, ↓rk12, ↓rx12, ↓rg12, ↓rh12, ↓rp12, ↓rv13, ↓ro13, ↓rb13, ↓rn13, ↓rs13, ↓rl13, ↓ra13, ↓rk13, ↓rx13, ↓rg13, ↓rh13, ↓rp13, ↓rv14, ↓ro14, ↓rb14, ↓rn14, ↓rs14, ↓rl14, ↓ra14, ↓rk14, ↓rx14, ↓rg14, ↓rh14, ↓rp14, ↓rv15, ↓ro15, ↓rb15, ↓rn15, ↓rs15, ↓rl15, ↓ra15, ↓rk15, ↓rx15, ↓rg15, ↓rh15, ↓rp15, ↓rv16, ↓ro16, ↓rb16, ↓rn16, ↓rs16, ↓rl16, ↓ra16, ↓rk16, ↓rx16, ↓rg16, ↓rh16, ↓rp16, ↓rv17, ↓ro17, ↓rb17, ↓rn17, ↓rs17, ↓rl17, ↓ra17, ↓rk17, ↓rx17, ↓rg17, ↓rh17, ↓rp17, rn_some, k_andT, k_andF, k_orT, k_orF, k_B, k_int, k_seqN, k_seqR, k_seqB, k_seqC, k_loopN, k_loopR, k_enum, k_fnN, k_fnD, k_fnNew, e_addI, e_subI, e_ltI, e_leI, e_gtI, e_geI, e_eqI, e_neI, e_abs, e_intI, e_intB, e_at0, e_at1, e_at2, e_ix30, e_ix32, List.set_cons_zero, List.set_cons_succ, f1, List.length_cons, List.length_nil, List.all_cons, List.all_nil, cold, hots, hot, List.map_cons, List.map_nil, List.cons_append, List.nil_append, List.append_nil, List.replicate_succ, List.replicate_zero, List.take_succ_cons, List.take_zero, wipeS, backS, noOwn, Nat.reduceAdd, Nat.reduceSub, Nat.reduceLeDiff, Nat.reduceEqDiff, Bool.and_true, Bool.true_and, Bool.and_false, Bool.false_and, Bool.not_true, Bool.not_false, Bool.false_eq_true, Bool.true_eq_false, reduceCtorEq, true_and, and_true, if_true, if_false, decide_true, decide_false, isOk, isA, String.reduceBEq, turn_f, cut_1, k_zipLL, k_zipTT, k_zipTL, e_isN, e_isNot, isNo, beq_self_eq_true, bne_self_eq_false, e_eqB, e_neB, e_eqX, List.any_cons, List.any_nil, Bool.or_true, Bool.true_or, Bool.or_self, reduceIte, Bool.or_false, Bool.false_or, ri0, rt0, ri1, rt1, ri2, rt2, ri3, rt3, ri4, rt4, ri5, rt5, ri6, rt6, ri7, rt7, ri8, rt8, ri9, rt9, ri10, rt10, ri11, rt11, ri12, rt12, ri13, rt13, ri14, rt14, ri15, rt15, ri16, rt16, ri17, rt17, cast0, cast1, Int.cast_ofNat_Int, Int.reduceEq, Int.reduceLT, Int.reduceLE, Int.reduceAdd, Int.reduceSub, Int.reduceMul, Nat.reduceLT, Int.reduceToNat, Int.reducePow, Int.reduceNeg, Int.reduceNegSucc, cp6, seqD, List.flatten_cons, List.flatten_nil, List.reduceReplicate, ↓rn_of q]
    refine rn_imp (acts_loop ds fun y hy => h y (List.mem_cons_of_mem _ hy)) fun q e => ?_
    subst e
    rfl
theorem u_aug1 {g : Int → Int → Int} {w : WE} {a : SV} {k : Int} {s : S} {PS : Fl × S → Prop} : Rn (wAugI g 1 w (a :: .dat (.int k) :: s)) PS = Rn (w (a :: .dat (.int k) :: s)) fun p => Rn (kInt p) fun q => Rn q.1 fun j => PS (.nx, q.2.set 1 (.dat (.int (g k j)))) := by
  show Rn ((w (a :: .dat (.int k) :: s)).bind fun p => match p.1 with
    | .d (.int j) => some (Fl.nx, p.2.set 1 (.dat (.int (g k j))))
    | _ => none) PS = _
  rw [rn_bind]
  refine congrArg _ (funext fun p => ?_)
  obtain ⟨r, s1⟩ := p
  unfold kInt
  cases r with
  | d d =>
    cases d with
    | int i => simp only [rn_some]
    | _ => simp only [rn_none]
  | _ => simp only [rn_none]
theorem pile_loop {a e : SV} : ∀ (ds : List Da) (p : Int) (b c : SV), (∀ x ∈ ds, actB x = true) → Rn (loopS (wgStar 2 3)
    (wSeq (wIf (wTest (wOp fLtA (wVar 1) (wOp fIxA (wC d_LACKS_BELOW) (wVar 2))))
      (wRet (wC (.bl false)))
      wNext)
    (wAugI (fun i j => i + j) 1 (wOp fIxA (wC d_LEAVES_MORE) (wVar 2)))) ds [a, .dat (.int p), b, c, e]) fun q => ∃ s1 b' c' : SV, q = ((if pileB p ds = true then Fl.nx else .rt (.d (.bl false))), [a, s1, b', c', e])
  | [], p, b, c, _ => by
    show Rn (some _) _
    rw [rn_some]
    exact ⟨_, _, _, rfl⟩
  | x :: ds, p, b, c, h => by
    obtain ⟨w, rest, v, rfl, hl⟩ := act_shape (h x (by simp))
    obtain ⟨h1, h2⟩ := lacks_are hl
    rw [u_loopC]
    by_cases hp : p < lacksI w
    · simp (maxSteps := 20000000) only [↓u_C, ↓u_nil, ↓u_cons, ↓u_tup, ↓u_lst, ↓u_op, ↓u_and, ↓u_or, ↓u_test, ↓u_not, ↓u_notT, ↓u_andT, ↓u_orT, ↓u_ifE, ↓u_chain, ↓k_chT, ↓k_chF, ↓u_CB, ↓u_isi, ↓u_sl, ↓u_noPart, ↓u_part, ↓u_seq, ↓u_next, ↓u_retN, ↓u_bk, ↓u_ct, ↓u_drop, ↓u_ret, ↓u_if, ↓u_asg, ↓u_par, ↓u_prepN, ↓u_prepD, ↓u_prepO, ↓u_allN, ↓u_allC, ↓u_for, ↓u_loopN, ↓u_loopC, ↓u_it, ↓u_stoD, ↓u_stoN, ↓u_stosN, ↓u_stosC, ↓u_range1, ↓u_enum, ↓u_lc, ↓u_lcN, ↓u_lcC, ↓u_yes, ↓u_call, ↓u_argN, ↓u_argD, ↓u_argM, ↓u_argO, ↓u_argT, ↓u_backN, ↓u_backC, ↓u_fn, ↓k_fnO, ↓u_gtupD, ↓u_gtupN, ↓u_gtupL, ↓u_gtupT, ↓u_gN, ↓u_gC, ↓k_subL, ↓u_meth, ↓u_append, ↓u_popAt, ↓u_ixD, ↓u_ixN, ↓u_ixT, ↓u_ixS, ↓u_ixX, ↓u_mod, ↓u_div, ↓u_pow, ↓u_mul, ↓u_lenX, ↓u_lenL, ↓u_lenT, ↓u_lenC, ↓u_lenN, ↓u_addS, ↓u_isiD, ↓u_isiN, ↓u_zip, ↓u_argL, ↓u_argV, ↓u_dc, ↓u_dcN, ↓u_dcC, ↓k_dcX, ↓u_turn, ↓u_neg, ↓u_frz, ↓u_stoT, ↓u_stoL, ↓u_mulT, ↓u_addT, ↓u_listT, ↓u_listL, ↓u_slT, ↓rn_bind, ↓rn_some, ↓rn_iteT, ↓rn_iteF, ↓rv0, ↓ro0, ↓rb0, ↓rn0, ↓rs0, ↓rl0, ↓ra0, ↓rk0, ↓rx0, ↓rg0, ↓rh0, ↓rp0, ↓rv1, ↓ro1, ↓rb1, ↓rn1, ↓rs1, ↓rl1, ↓ra1, ↓rk1, ↓rx1, ↓rg1, ↓rh1, ↓rp1, ↓rv2, ↓ro2, ↓rb2, ↓rn2, ↓rs2, ↓rl2, ↓ra2, ↓rk2, ↓rx2, ↓rg2, ↓rh2, ↓rp2, ↓rv3, ↓ro3, ↓rb3, ↓rn3, ↓rs3, ↓rl3, ↓ra3, ↓rk3, ↓rx3, ↓rg3, ↓rh3, ↓rp3, ↓rv4, ↓ro4, ↓rb4, ↓rn4, ↓rs4, ↓rl4, ↓ra4, ↓rk4, ↓rx4, ↓rg4, ↓rh4, ↓rp4, ↓rv5, ↓ro5, ↓rb5, ↓rn5, ↓rs5, ↓rl5, ↓ra5, ↓rk5, ↓rx5, ↓rg5, ↓rh5, ↓rp5, ↓rv6, ↓ro6, ↓rb6, ↓rn6, ↓rs6, ↓rl6, ↓ra6, ↓rk6, ↓rx6, ↓rg6, ↓rh6, ↓rp6, ↓rv7, ↓ro7, ↓rb7, ↓rn7, ↓rs7, ↓rl7, ↓ra7, ↓rk7, ↓rx7, ↓rg7, ↓rh7, ↓rp7, ↓rv8, ↓ro8, ↓rb8, ↓rn8, ↓rs8, ↓rl8, ↓ra8, ↓rk8, ↓rx8, ↓rg8, ↓rh8, ↓rp8, ↓rv9, ↓ro9, ↓rb9, ↓rn9, ↓rs9, ↓rl9, ↓ra9, ↓rk9, ↓rx9, ↓rg9, ↓rh9, ↓rp9, ↓rv10, ↓ro10, ↓rb10, ↓rn10, ↓rs10, ↓rl10, ↓ra10, ↓rk10, ↓rx10, ↓rg10, ↓rh10, ↓rp10, ↓rv11, ↓ro11, ↓rb11, ↓rn11, ↓rs11, ↓rl11, ↓ra11, ↓rk11, ↓rx11, ↓rg11, ↓rh11, ↓rp11, ↓rv12, ↓ro12, ↓rb12, ↓rn12, ↓rs12, ↓rl12, ↓ra12, ↓rk12, ↓rx12, ↓rg12, ↓rh12, ↓rp12, ↓rv13, ↓ro13, ↓rb13, ↓rn13, ↓rs13, ↓rl13, ↓ra13, ↓rk13, ↓rx13, ↓rg13, ↓rh13, ↓rp13, ↓rv14, ↓ro14, ↓rb14, ↓rn14, ↓rs14, ↓rl14, ↓ra14, ↓rk14, ↓rx14, ↓rg14, ↓rh14, ↓rp14, ↓rv15, ↓ro15, ↓rb15, ↓rn15, ↓rs15, ↓rl15, ↓ra15, ↓rk15, ↓rx15, ↓rg15, ↓rh15, ↓rp15, ↓rv16, ↓ro16, ↓rb16, ↓rn16, ↓rs16, ↓rl16, ↓ra16, ↓rk16, ↓rx16, ↓rg16, ↓rh16, ↓rp16, ↓rv17, ↓ro17, ↓rb17, ↓rn17, ↓rs17, ↓rl17, ↓ra17, ↓rk17, ↓rx17, ↓rg17, ↓rh17, ↓rp17, rn_some, k_andT, k_andF, k_orT, k_orF, k_B, k_int, k_seqN, k_seqR, k_seqB, k_seqC, k_loopN, k_loopR, k_enum, k_fnN, k_fnD, k_fnNew, e_addI, e_subI, e_ltI, e_leI, e_gtI, e_geI, e_eqI, e_neI, e_abs, e_intI, e_intB, e_at0, e_at1, e_at2, e_ix30, e_ix32, List.set_cons_zero, List.set_cons_succ, f1, List.length_cons, List.length_nil, List.all_cons, List.all_nil, cold, hots, hot, List.map_cons, List.map_nil, List.cons_append, List.nil_append, List.append_nil, List.replicate_succ, List.replicate_zero, List.take_succ_cons, List.take_zero, wipeS, backS, noOwn, Nat.reduceAdd, Nat.reduceSub, Nat.reduceLeDiff, Nat.reduceEqDiff, Bool.and_true, Bool.true_and, Bool.and_false, Bool.false_and, Bool.not_true, Bool.not_false, Bool.false_eq_true, Bool.true_eq_false, reduceCtorEq, true_and, and_true, if_true, if_false, decide_true, decide_false, isOk, isA, String.reduceBEq, turn_f, cut_1, k_zipLL, k_zipTT, k_zipTL, e_isN, e_isNot, isNo, beq_self_eq_true, bne_self_eq_false, e_eqB, e_neB, e_eqX, List.any_cons, List.any_nil, Bool.or_true, Bool.true_or, Bool.or_self, reduceIte, Bool.or_false, Bool.false_or, ri0, rt0, ri1, rt1, ri2, rt2, ri3, rt3, ri4, rt4, ri5, rt5, ri6, rt6, ri7, rt7, ri8, rt8, ri9, rt9, ri10, rt10, ri11, rt11, ri12, rt12, ri13, rt13, ri14, rt14, ri15, rt15, ri16, rt16, ri17, rt17, cast0, cast1, Int.cast_ofNat_Int, Int.reduceEq, Int.reduceLT, Int.reduceLE, Int.reduceAdd, Int.reduceSub, Int.reduceMul, Nat.reduceLT, Int.reduceToNat, Int.reducePow, Int.reduceNeg, Int.reduceNegSucc, cp6, seqD, List.flatten_cons, List.flatten_nil, List.reduceReplicate, ↓u_star, ↓ix_lacks, ↓ix_leaves, h1, h2, hp, pileB]
      exact ⟨_, _, _, rfl⟩
    · simp (maxSteps := 20000000) only [↓u_C, ↓u_nil, ↓u_cons, ↓u_tup, ↓u_lst, ↓u_op, ↓u_and, ↓u_or, ↓u_test, ↓u_not, ↓u_notT, ↓u_andT, ↓u_orT, ↓u_ifE, ↓u_chain, ↓k_chT, ↓k_chF, ↓u_CB, ↓u_isi, ↓u_sl, ↓u_noPart, ↓u_part, ↓u_seq, ↓u_next, ↓u_retN, ↓u_bk, ↓u_ct, ↓u_drop, ↓u_ret, ↓u_if, ↓u_asg, ↓u_par, ↓u_prepN, ↓u_prepD, ↓u_prepO, ↓u_allN, ↓u_allC, ↓u_for, ↓u_loopN, ↓u_loopC, ↓u_it, ↓u_stoD, ↓u_stoN, ↓u_stosN, ↓u_stosC, ↓u_range1, ↓u_enum, ↓u_lc, ↓u_lcN, ↓u_lcC, ↓u_yes, ↓u_call, ↓u_argN, ↓u_argD, ↓u_argM, ↓u_argO, ↓u_argT, ↓u_backN, ↓u_backC, ↓u_fn, ↓k_fnO, ↓u_gtupD, ↓u_gtupN, ↓u_gtupL, ↓u_gtupT, ↓u_gN, ↓u_gC, ↓k_subL, ↓u_meth, ↓u_append, ↓u_popAt, ↓u_ixD, ↓u_ixN, ↓u_ixT, ↓u_ixS, ↓u_ixX, ↓u_mod, ↓u_div, ↓u_pow, ↓u_mul, ↓u_lenX, ↓u_lenL, ↓u_lenT, ↓u_lenC, ↓u_lenN, ↓u_addS, ↓u_isiD, ↓u_isiN, ↓u_zip, ↓u_argL, ↓u_argV, ↓u_dc, ↓u_dcN, ↓u_dcC, ↓k_dcX, ↓u_turn, ↓u_neg, ↓u_frz, ↓u_stoT, ↓u_stoL, ↓u_mulT, ↓u_addT, ↓u_listT, ↓u_listL, ↓u_slT, ↓rn_bind, ↓rn_some, ↓rn_iteT, ↓rn_iteF, ↓rv0, ↓ro0, ↓rb0, ↓rn0, ↓rs0, ↓rl0, ↓ra0, ↓rk0, ↓rx0, ↓rg0, ↓rh0, ↓rp0, ↓rv1, ↓ro1, ↓rb1, ↓rn1, ↓rs1, ↓rl1, ↓ra1, ↓rk1, ↓rx1, ↓rg1, ↓rh1, ↓rp1, ↓rv2, ↓ro2, ↓rb2, ↓rn2, ↓rs2, ↓rl2, ↓ra2, ↓rk2, ↓rx2, ↓rg2, ↓rh2, ↓rp2, ↓rv3, ↓ro3, ↓rb3, ↓rn3, ↓rs3, ↓rl3, ↓ra3, ↓rk3, ↓rx3, ↓rg3, ↓rh3, ↓rp3, ↓rv4, ↓ro4, ↓rb4, ↓rn4, ↓rs4, ↓rl4, ↓ra4, ↓rk4, ↓rx4, ↓rg4, ↓rh4, ↓rp4, ↓rv5, ↓ro5, ↓rb5, ↓rn5, ↓rs5, ↓rl5, ↓ra5, ↓rk5, ↓rx5, ↓rg5, ↓rh5, ↓rp5, ↓rv6, ↓ro6, ↓rb6, ↓rn6, ↓rs6, ↓rl6, ↓ra6, ↓rk6, ↓rx6, ↓rg6, ↓rh6, ↓rp6, ↓rv7, ↓ro7, ↓rb7, ↓rn7, ↓rs7, ↓rl7, ↓ra7, ↓rk7, ↓rx7, ↓rg7, ↓rh7, ↓rp7, ↓rv8, ↓ro8, ↓rb8, ↓rn8, ↓rs8, ↓rl8, ↓ra8, ↓rk8, ↓rx8, ↓rg8, ↓rh8, ↓rp8, ↓rv9, ↓ro9, ↓rb9, ↓rn9, ↓rs9, ↓rl9, ↓ra9, ↓rk9, ↓rx9, ↓rg9, ↓rh9, ↓rp9, ↓rv10, ↓ro10, ↓rb10, ↓rn10, ↓rs10, ↓rl10, ↓ra10, ↓rk10, ↓rx10, ↓rg10, ↓rh10, ↓rp10, ↓rv11, ↓ro11, ↓rb11, ↓rn11, ↓rs11, ↓rl11, ↓ra11, ↓rk11, ↓rx11, ↓rg11, ↓rh11, ↓rp11, ↓rv12, ↓ro12, ↓rb12, ↓rn12, ↓rs12, ↓rl12, ↓ra12, ↓rk12, ↓rx12, ↓rg12, ↓rh12, ↓rp12, ↓rv13, ↓ro13, ↓rb13, ↓rn13, ↓rs13, ↓rl13, ↓ra13, ↓rk13, ↓rx13, ↓rg13, ↓rh13, ↓rp13, ↓rv14, ↓ro14, ↓rb14, ↓rn14, ↓rs14, ↓rl14, ↓ra14, ↓rk14, ↓rx14, ↓rg14, ↓rh14, ↓rp14, ↓rv15, ↓ro15, ↓rb15, ↓rn15, ↓rs15, ↓rl15, ↓ra15, ↓rk15, ↓rx15, ↓rg15, ↓rh15, ↓rp15, ↓rv16, ↓ro16, ↓rb16, ↓rn16, ↓rs16, ↓rl16, ↓ra16, ↓rk16, ↓rx16, ↓rg16, ↓rh16, ↓rp16, ↓rv17, ↓ro17, ↓rb17, ↓rn17, ↓rs17, ↓rl17, ↓ra17, ↓rk17, ↓rx17, ↓rg17, ↓rh17, ↓rp17, rn_some, k_andT, k_andF, k_orT, k_orF, k_B, k_int, k_seqN, k_seqR, k_seqB, k_seqC, k_loopN, k_loopR, k_enum, k_fnN, k_fnD, k_fnNew, e_addI, e_subI, e_ltI, e_leI, e_gtI, e_geI, e_eqI, e_neI, e_abs, e_intI, e_intB, e_at0, e_at1, e_at2, e_ix30, e_ix32, List.set_cons_zero, List.set_cons_succ, f1, List.length_cons, List.length_nil, List.all_cons, List.all_nil, cold, hots, hot, List.map_cons, List.map_nil, List.cons_append, List.nil_append, List.append_nil, List.replicate_succ, List.replicate_zero, List.take_succ_cons, List.take_zero, wipeS, backS, noOwn, Nat.reduceAdd, Nat.reduceSub, Nat.reduceLeDiff, Nat.reduceEqDiff, Bool.and_true, Bool.true_and, Bool.and_false, Bool.false_and, Bool.not_true, Bool.not_false, Bool.false_eq_true, Bool.true_eq_false, reduceCtorEq, true_and, and_true, if_true, if_false, decide_true, decide_false, isOk, isA, String.reduceBEq, turn_f, cut_1, k_zipLL, k_zipTT, k_zipTL, e_isN, e_isNot, isNo, beq_self_eq_true, bne_self_eq_false, e_eqB, e_neB, e_eqX, List.any_cons, List.any_nil, Bool.or_true, Bool.true_or, Bool.or_self, reduceIte, Bool.or_false, Bool.false_or, ri0, rt0, ri1, rt1, ri2, rt2, ri3, rt3, ri4, rt4, ri5, rt5, ri6, rt6, ri7, rt7, ri8, rt8, ri9, rt9, ri10, rt10, ri11, rt11, ri12, rt12, ri13, rt13, ri14, rt14, ri15, rt15, ri16, rt16, ri17, rt17, cast0, cast1, Int.cast_ofNat_Int, Int.reduceEq, Int.reduceLT, Int.reduceLE, Int.reduceAdd, Int.reduceSub, Int.reduceMul, Nat.reduceLT, Int.reduceToNat, Int.reducePow, Int.reduceNeg, Int.reduceNegSucc, cp6, seqD, List.flatten_cons, List.flatten_nil, List.reduceReplicate, ↓u_star, ↓ix_lacks, ↓ix_leaves, h1, h2, hp, pileB, ↓u_aug1]
      exact pile_loop ds _ _ _ fun y hy => h y (List.mem_cons_of_mem _ hy)
theorem is_code_eq {d : Da} (h : plain d = true) : w_is_code [.dat d] = some (.d (.bl (codeB d)), [.dat d]) := by
  have main : Rn (w_is_code [.dat d]) fun p => p = (.d (.bl (codeB d)), [.dat d]) := by
    unfold w_is_code
    have e := is_tuple_eq (lo := 0) (hi := 24) (okOf h)
    cases d with
    | dct _ => cases h
    | fn _ => cases h
    | tab _ => cases h
    | tup ds =>
      have hs : ∀ x ∈ ds, plain x = true := plains_mem h
      have h0 : (0 : Int) ≤ (ds.length : Nat) := by omega
      by_cases hl : ds.length ≤ 24
      · have h24 : ((ds.length : Nat) : Int) ≤ 24 := by omega
        have h5 : ds.length ≤ 100000 := by omega
        simp (maxSteps := 20000000) only [↓u_C, ↓u_nil, ↓u_cons, ↓u_tup, ↓u_lst, ↓u_op, ↓u_and, ↓u_or, ↓u_test, ↓u_not, ↓u_notT, ↓u_andT, ↓u_orT, ↓u_ifE, ↓u_chain, ↓k_chT, ↓k_chF, ↓u_CB, ↓u_isi, ↓u_sl, ↓u_noPart, ↓u_part, ↓u_seq, ↓u_next, ↓u_retN, ↓u_bk, ↓u_ct, ↓u_drop, ↓u_ret, ↓u_if, ↓u_asg, ↓u_par, ↓u_prepN, ↓u_prepD, ↓u_prepO, ↓u_allN, ↓u_allC, ↓u_for, ↓u_loopN, ↓u_loopC, ↓u_it, ↓u_stoD, ↓u_stoN, ↓u_stosN, ↓u_stosC, ↓u_range1, ↓u_enum, ↓u_lc, ↓u_lcN, ↓u_lcC, ↓u_yes, ↓u_call, ↓u_argN, ↓u_argD, ↓u_argM, ↓u_argO, ↓u_argT, ↓u_backN, ↓u_backC, ↓u_fn, ↓k_fnO, ↓u_gtupD, ↓u_gtupN, ↓u_gtupL, ↓u_gtupT, ↓u_gN, ↓u_gC, ↓k_subL, ↓u_meth, ↓u_append, ↓u_popAt, ↓u_ixD, ↓u_ixN, ↓u_ixT, ↓u_ixS, ↓u_ixX, ↓u_mod, ↓u_div, ↓u_pow, ↓u_mul, ↓u_lenX, ↓u_lenL, ↓u_lenT, ↓u_lenC, ↓u_lenN, ↓u_addS, ↓u_isiD, ↓u_isiN, ↓u_zip, ↓u_argL, ↓u_argV, ↓u_dc, ↓u_dcN, ↓u_dcC, ↓k_dcX, ↓u_turn, ↓u_neg, ↓u_frz, ↓u_stoT, ↓u_stoL, ↓u_mulT, ↓u_addT, ↓u_listT, ↓u_listL, ↓u_slT, ↓rn_bind, ↓rn_some, ↓rn_iteT, ↓rn_iteF, ↓rv0, ↓ro0, ↓rb0, ↓rn0, ↓rs0, ↓rl0, ↓ra0, ↓rk0, ↓rx0, ↓rg0, ↓rh0, ↓rp0, ↓rv1, ↓ro1, ↓rb1, ↓rn1, ↓rs1, ↓rl1, ↓ra1, ↓rk1, ↓rx1, ↓rg1, ↓rh1, ↓rp1, ↓rv2, ↓ro2, ↓rb2, ↓rn2, ↓rs2, ↓rl2, ↓ra2, ↓rk2, ↓rx2, ↓rg2, ↓rh2, ↓rp2, ↓rv3, ↓ro3, ↓rb3, ↓rn3, ↓rs3, ↓rl3, ↓ra3, ↓rk3, ↓rx3, ↓rg3, ↓rh3, ↓rp3, ↓rv4, ↓ro4, ↓rb4, ↓rn4, ↓rs4, ↓rl4, ↓ra4, ↓rk4, ↓rx4, ↓rg4, ↓rh4, ↓rp4, ↓rv5, ↓ro5, ↓rb5, ↓rn5, ↓rs5, ↓rl5, ↓ra5, ↓rk5, ↓rx5, ↓rg5, ↓rh5, ↓rp5, ↓rv6, ↓ro6, ↓rb6, ↓rn6, ↓rs6, ↓rl6, ↓ra6, ↓rk6, ↓rx6, ↓rg6, ↓rh6, ↓rp6, ↓rv7, ↓ro7, ↓rb7, ↓rn7, ↓rs7, ↓rl7, ↓ra7, ↓rk7, ↓rx7, ↓rg7, ↓rh7, ↓rp7, ↓rv8, ↓ro8, ↓rb8, ↓rn8, ↓rs8, ↓rl8, ↓ra8, ↓rk8, ↓rx8, ↓rg8, ↓rh8, ↓rp8, ↓rv9, ↓ro9, ↓rb9, ↓rn9, ↓rs9, ↓rl9, ↓ra9, ↓rk9, ↓rx9, ↓rg9, ↓rh9, ↓rp9, ↓rv10, ↓ro10, ↓rb10, ↓rn10, ↓rs10, ↓rl10, ↓ra10, ↓rk10, ↓rx10, ↓rg10, ↓rh10, ↓rp10, ↓rv11, ↓ro11, ↓rb11, ↓rn11, ↓rs11, ↓rl11, ↓ra11, ↓rk11, ↓rx11, ↓rg11, ↓rh11, ↓rp11, ↓rv12, ↓ro12, ↓rb12, ↓rn12, ↓rs12, ↓rl12, ↓ra12, ↓rk12, ↓rx12, ↓rg12, ↓rh12, ↓rp12, ↓rv13, ↓ro13, ↓rb13, ↓rn13, ↓rs13, ↓rl13, ↓ra13, ↓rk13, ↓rx13, ↓rg13, ↓rh13, ↓rp13, ↓rv14, ↓ro14, ↓rb14, ↓rn14, ↓rs14, ↓rl14, ↓ra14, ↓rk14, ↓rx14, ↓rg14, ↓rh14, ↓rp14, ↓rv15, ↓ro15, ↓rb15, ↓rn15, ↓rs15, ↓rl15, ↓ra15, ↓rk15, ↓rx15, ↓rg15, ↓rh15, ↓rp15, ↓rv16, ↓ro16, ↓rb16, ↓rn16, ↓rs16, ↓rl16, ↓ra16, ↓rk16, ↓rx16, ↓rg16, ↓rh16, ↓rp16, ↓rv17, ↓ro17, ↓rb17, ↓rn17, ↓rs17, ↓rl17, ↓ra17, ↓rk17, ↓rx17, ↓rg17, ↓rh17, ↓rp17, rn_some, k_andT, k_andF, k_orT, k_orF, k_B, k_int, k_seqN, k_seqR, k_seqB, k_seqC, k_loopN, k_loopR, k_enum, k_fnN, k_fnD, k_fnNew, e_addI, e_subI, e_ltI, e_leI, e_gtI, e_geI, e_eqI, e_neI, e_abs, e_intI, e_intB, e_at0, e_at1, e_at2, e_ix30, e_ix32, List.set_cons_zero, List.set_cons_succ, f1, List.length_cons, List.length_nil, List.all_cons, List.all_nil, cold, hots, hot, List.map_cons, List.map_nil, List.cons_append, List.nil_append, List.append_nil, List.replicate_succ, List.replicate_zero, List.take_succ_cons, List.take_zero, wipeS, backS, noOwn, Nat.reduceAdd, Nat.reduceSub, Nat.reduceLeDiff, Nat.reduceEqDiff, Bool.and_true, Bool.true_and, Bool.and_false, Bool.false_and, Bool.not_true, Bool.not_false, Bool.false_eq_true, Bool.true_eq_false, reduceCtorEq, true_and, and_true, if_true, if_false, decide_true, decide_false, isOk, isA, String.reduceBEq, turn_f, cut_1, k_zipLL, k_zipTT, k_zipTL, e_isN, e_isNot, isNo, beq_self_eq_true, bne_self_eq_false, e_eqB, e_neB, e_eqX, List.any_cons, List.any_nil, Bool.or_true, Bool.true_or, Bool.or_self, reduceIte, Bool.or_false, Bool.false_or, ri0, rt0, ri1, rt1, ri2, rt2, ri3, rt3, ri4, rt4, ri5, rt5, ri6, rt6, ri7, rt7, ri8, rt8, ri9, rt9, ri10, rt10, ri11, rt11, ri12, rt12, ri13, rt13, ri14, rt14, ri15, rt15, ri16, rt16, ri17, rt17, cast0, cast1, Int.cast_ofNat_Int, Int.reduceEq, Int.reduceLT, Int.reduceLE, Int.reduceAdd, Int.reduceSub, Int.reduceMul, Nat.reduceLT, Int.reduceToNat, Int.reducePow, Int.reduceNeg, Int.reduceNegSucc, cp6, seqD, List.flatten_cons, List.flatten_nil, List.reduceReplicate, ↓rn_of e, tupB, h0, h24, seqD]
        refine rn_imp (acts_loop ds hs) fun q e => ?_
        subst e
        by_cases ha : ds.all actB = true
        · simp (maxSteps := 20000000) only [↓u_C, ↓u_nil, ↓u_cons, ↓u_tup, ↓u_lst, ↓u_op, ↓u_and, ↓u_or, ↓u_test, ↓u_not, ↓u_notT, ↓u_andT, ↓u_orT, ↓u_ifE, ↓u_chain, ↓k_chT, ↓k_chF, ↓u_CB, ↓u_isi, ↓u_sl, ↓u_noPart, ↓u_part, ↓u_seq, ↓u_next, ↓u_retN, ↓u_bk, ↓u_ct, ↓u_drop, ↓u_ret, ↓u_if, ↓u_asg, ↓u_par, ↓u_prepN, ↓u_prepD, ↓u_prepO, ↓u_allN, ↓u_allC, ↓u_for, ↓u_loopN, ↓u_loopC, ↓u_it, ↓u_stoD, ↓u_stoN, ↓u_stosN, ↓u_stosC, ↓u_range1, ↓u_enum, ↓u_lc, ↓u_lcN, ↓u_lcC, ↓u_yes, ↓u_call, ↓u_argN, ↓u_argD, ↓u_argM, ↓u_argO, ↓u_argT, ↓u_backN, ↓u_backC, ↓u_fn, ↓k_fnO, ↓u_gtupD, ↓u_gtupN, ↓u_gtupL, ↓u_gtupT, ↓u_gN, ↓u_gC, ↓k_subL, ↓u_meth, ↓u_append, ↓u_popAt, ↓u_ixD, ↓u_ixN, ↓u_ixT, ↓u_ixS, ↓u_ixX, ↓u_mod, ↓u_div, ↓u_pow, ↓u_mul, ↓u_lenX, ↓u_lenL, ↓u_lenT, ↓u_lenC, ↓u_lenN, ↓u_addS, ↓u_isiD, ↓u_isiN, ↓u_zip, ↓u_argL, ↓u_argV, ↓u_dc, ↓u_dcN, ↓u_dcC, ↓k_dcX, ↓u_turn, ↓u_neg, ↓u_frz, ↓u_stoT, ↓u_stoL, ↓u_mulT, ↓u_addT, ↓u_listT, ↓u_listL, ↓u_slT, ↓rn_bind, ↓rn_some, ↓rn_iteT, ↓rn_iteF, ↓rv0, ↓ro0, ↓rb0, ↓rn0, ↓rs0, ↓rl0, ↓ra0, ↓rk0, ↓rx0, ↓rg0, ↓rh0, ↓rp0, ↓rv1, ↓ro1, ↓rb1, ↓rn1, ↓rs1, ↓rl1, ↓ra1, ↓rk1, ↓rx1, ↓rg1, ↓rh1, ↓rp1, ↓rv2, ↓ro2, ↓rb2, ↓rn2, ↓rs2, ↓rl2, ↓ra2, ↓rk2, ↓rx2, ↓rg2, ↓rh2, ↓rp2, ↓rv3, ↓ro3, ↓rb3, ↓rn3, ↓rs3, ↓rl3, ↓ra3, ↓rk3, ↓rx3, ↓rg3, ↓rh3, ↓rp3, ↓rv4, ↓ro4, ↓rb4, ↓rn4, ↓rs4, ↓rl4, ↓ra4, ↓rk4, ↓rx4, ↓rg4, ↓rh4, ↓rp4, ↓rv5, ↓ro5, ↓rb5, ↓rn5, ↓rs5, ↓rl5, ↓ra5, ↓rk5, ↓rx5, ↓rg5, ↓rh5, ↓rp5, ↓rv6, ↓ro6, ↓rb6, ↓rn6, ↓rs6, ↓rl6, ↓ra6, ↓rk6, ↓rx6, ↓rg6, ↓rh6, ↓rp6, ↓rv7, ↓ro7, ↓rb7, ↓rn7, ↓rs7, ↓rl7, ↓ra7, ↓rk7, ↓rx7, ↓rg7, ↓rh7, ↓rp7, ↓rv8, ↓ro8, ↓rb8, ↓rn8, ↓rs8, ↓rl8, ↓ra8, ↓rk8, ↓rx8, ↓rg8, ↓rh8, ↓rp8, ↓rv9, ↓ro9, ↓rb9, ↓rn9, ↓rs9, ↓rl9, ↓ra9, ↓rk9, ↓rx9, ↓rg9, ↓rh9, ↓rp9, ↓rv10, ↓ro10, ↓rb10, ↓rn10, ↓rs10, ↓rl10, ↓ra10, ↓rk10, ↓rx10, ↓rg10, ↓rh10, ↓rp10, ↓rv11, ↓ro11, ↓rb11, ↓rn11, ↓rs11, ↓rl11, ↓ra11, ↓rk11, ↓rx11, ↓rg11, ↓rh11, ↓rp11, ↓rv12, ↓ro12, ↓rb12, ↓rn12, ↓rs12, ↓rl12, ↓ra12, ↓rk12, ↓rx12, ↓rg12, ↓rh12, ↓rp12, ↓rv13, ↓ro13, ↓rb13, ↓rn13, ↓rs13, ↓rl13, ↓ra13, ↓rk13, ↓rx13, ↓rg13, ↓rh13, ↓rp13, ↓rv14, ↓ro14, ↓rb14, ↓rn14, ↓rs14, ↓rl14, ↓ra14, ↓rk14, ↓rx14, ↓rg14, ↓rh14, ↓rp14, ↓rv15, ↓ro15, ↓rb15, ↓rn15, ↓rs15, ↓rl15, ↓ra15, ↓rk15, ↓rx15, ↓rg15, ↓rh15, ↓rp15, ↓rv16, ↓ro16, ↓rb16, ↓rn16, ↓rs16, ↓rl16, ↓ra16, ↓rk16, ↓rx16, ↓rg16, ↓rh16, ↓rp16, ↓rv17, ↓ro17, ↓rb17, ↓rn17, ↓rs17, ↓rl17, ↓ra17, ↓rk17, ↓rx17, ↓rg17, ↓rh17, ↓rp17, rn_some, k_andT, k_andF, k_orT, k_orF, k_B, k_int, k_seqN, k_seqR, k_seqB, k_seqC, k_loopN, k_loopR, k_enum, k_fnN, k_fnD, k_fnNew, e_addI, e_subI, e_ltI, e_leI, e_gtI, e_geI, e_eqI, e_neI, e_abs, e_intI, e_intB, e_at0, e_at1, e_at2, e_ix30, e_ix32, List.set_cons_zero, List.set_cons_succ, f1, List.length_cons, List.length_nil, List.all_cons, List.all_nil, cold, hots, hot, List.map_cons, List.map_nil, List.cons_append, List.nil_append, List.append_nil, List.replicate_succ, List.replicate_zero, List.take_succ_cons, List.take_zero, wipeS, backS, noOwn, Nat.reduceAdd, Nat.reduceSub, Nat.reduceLeDiff, Nat.reduceEqDiff, Bool.and_true, Bool.true_and, Bool.and_false, Bool.false_and, Bool.not_true, Bool.not_false, Bool.false_eq_true, Bool.true_eq_false, reduceCtorEq, true_and, and_true, if_true, if_false, decide_true, decide_false, isOk, isA, String.reduceBEq, turn_f, cut_1, k_zipLL, k_zipTT, k_zipTL, e_isN, e_isNot, isNo, beq_self_eq_true, bne_self_eq_false, e_eqB, e_neB, e_eqX, List.any_cons, List.any_nil, Bool.or_true, Bool.true_or, Bool.or_self, reduceIte, Bool.or_false, Bool.false_or, ri0, rt0, ri1, rt1, ri2, rt2, ri3, rt3, ri4, rt4, ri5, rt5, ri6, rt6, ri7, rt7, ri8, rt8, ri9, rt9, ri10, rt10, ri11, rt11, ri12, rt12, ri13, rt13, ri14, rt14, ri15, rt15, ri16, rt16, ri17, rt17, cast0, cast1, Int.cast_ofNat_Int, Int.reduceEq, Int.reduceLT, Int.reduceLE, Int.reduceAdd, Int.reduceSub, Int.reduceMul, Nat.reduceLT, Int.reduceToNat, Int.reducePow, Int.reduceNeg, Int.reduceNegSucc, cp6, seqD, List.flatten_cons, List.flatten_nil, List.reduceReplicate, ↓u_all, bls_map, List.all_map, List.length_map, h5, show ds.all (id ∘ actB) = true from ha, seqD]
          refine rn_imp (pile_loop ds 0 _ _ (List.all_eq_true.mp ha)) fun q ⟨s1, b', c', e⟩ => ?_
          subst e
          cases hb : pileB 0 ds with
          | true => simp (maxSteps := 20000000) only [↓u_C, ↓u_nil, ↓u_cons, ↓u_tup, ↓u_lst, ↓u_op, ↓u_and, ↓u_or, ↓u_test, ↓u_not, ↓u_notT, ↓u_andT, ↓u_orT, ↓u_ifE, ↓u_chain, ↓k_chT, ↓k_chF, ↓u_CB, ↓u_isi, ↓u_sl, ↓u_noPart, ↓u_part, ↓u_seq, ↓u_next, ↓u_retN, ↓u_bk, ↓u_ct, ↓u_drop, ↓u_ret, ↓u_if, ↓u_asg, ↓u_par, ↓u_prepN, ↓u_prepD, ↓u_prepO, ↓u_allN, ↓u_allC, ↓u_for, ↓u_loopN, ↓u_loopC, ↓u_it, ↓u_stoD, ↓u_stoN, ↓u_stosN, ↓u_stosC, ↓u_range1, ↓u_enum, ↓u_lc, ↓u_lcN, ↓u_lcC, ↓u_yes, ↓u_call, ↓u_argN, ↓u_argD, ↓u_argM, ↓u_argO, ↓u_argT, ↓u_backN, ↓u_backC, ↓u_fn, ↓k_fnO, ↓u_gtupD, ↓u_gtupN, ↓u_gtupL, ↓u_gtupT, ↓u_gN, ↓u_gC, ↓k_subL, ↓u_meth, ↓u_append, ↓u_popAt, ↓u_ixD, ↓u_ixN, ↓u_ixT, ↓u_ixS, ↓u_ixX, ↓u_mod, ↓u_div, ↓u_pow, ↓u_mul, ↓u_lenX, ↓u_lenL, ↓u_lenT, ↓u_lenC, ↓u_lenN, ↓u_addS, ↓u_isiD, ↓u_isiN, ↓u_zip, ↓u_argL, ↓u_argV, ↓u_dc, ↓u_dcN, ↓u_dcC, ↓k_dcX, ↓u_turn, ↓u_neg, ↓u_frz, ↓u_stoT, ↓u_stoL, ↓u_mulT, ↓u_addT, ↓u_listT, ↓u_listL, ↓u_slT, ↓rn_bind, ↓rn_some, ↓rn_iteT, ↓rn_iteF, ↓rv0, ↓ro0, ↓rb0, ↓rn0, ↓rs0, ↓rl0, ↓ra0, ↓rk0, ↓rx0, ↓rg0, ↓rh0, ↓rp0, ↓rv1, ↓ro1, ↓rb1, ↓rn1, ↓rs1, ↓rl1, ↓ra1, ↓rk1, ↓rx1, ↓rg1, ↓rh1, ↓rp1, ↓rv2, ↓ro2, ↓rb2, ↓rn2, ↓rs2, ↓rl2, ↓ra2, ↓rk2, ↓rx2, ↓rg2, ↓rh2, ↓rp2, ↓rv3, ↓ro3, ↓rb3, ↓rn3, ↓rs3, ↓rl3, ↓ra3, ↓rk3, ↓rx3, ↓rg3, ↓rh3, ↓rp3, ↓rv4, ↓ro4, ↓rb4, ↓rn4, ↓rs4, ↓rl4, ↓ra4, ↓rk4, ↓rx4, ↓rg4, ↓rh4, ↓rp4, ↓rv5, ↓ro5, ↓rb5, ↓rn5, ↓rs5, ↓rl5, ↓ra5, ↓rk5, ↓rx5, ↓rg5, ↓rh5, ↓rp5, ↓rv6, ↓ro6, ↓rb6, ↓rn6, ↓rs6, ↓rl6, ↓ra6, ↓rk6, ↓rx6, ↓rg6, ↓rh6, ↓rp6, ↓rv7, ↓ro7, ↓rb7, ↓rn7, ↓rs7, ↓rl7, ↓ra7, ↓rk7, ↓rx7, ↓rg7, ↓rh7, ↓rp7, ↓rv8, ↓ro8, ↓rb8, ↓rn8, ↓rs8, ↓rl8, ↓ra8, ↓rk8, ↓rx8, ↓rg8, ↓rh8, ↓rp8, ↓rv9, ↓ro9, ↓rb9, ↓rn9, ↓rs9, ↓rl9, ↓ra9, ↓rk9, ↓rx9, ↓rg9, ↓rh9, ↓rp9, ↓rv10, ↓ro10, ↓rb10, ↓rn10, ↓rs10, ↓rl10, ↓ra10, ↓rk10, ↓rx10, ↓rg10, ↓rh10, ↓rp10, ↓rv11, ↓ro11, ↓rb11, ↓rn11, ↓rs11, ↓rl11, ↓ra11, ↓rk11, ↓rx11, ↓rg11, ↓rh11, ↓rp11, ↓rv12, ↓ro12, ↓rb12, ↓rn12, ↓rs12, ↓rl12, ↓ra12, ↓rk12, ↓rx12, ↓rg12, ↓rh12, ↓rp12, ↓rv13, ↓ro13, ↓rb13, ↓rn13, ↓rs13, ↓rl13, ↓ra13, ↓rk13, ↓rx13, ↓rg13, ↓rh13, ↓rp13, ↓rv14, ↓ro14, ↓rb14, ↓rn14, ↓rs14, ↓rl14, ↓ra14, ↓rk14, ↓rx14, ↓rg14, ↓rh14, ↓rp14, ↓rv15, ↓ro15, ↓rb15, ↓rn15, ↓rs15, ↓rl15, ↓ra15, ↓rk15, ↓rx15, ↓rg15, ↓rh15, ↓rp15, ↓rv16, ↓ro16, ↓rb16, ↓rn16, ↓rs16, ↓rl16, ↓ra16, ↓rk16, ↓rx16, ↓rg16, ↓rh16, ↓rp16, ↓rv17, ↓ro17, ↓rb17, ↓rn17, ↓rs17, ↓rl17, ↓ra17, ↓rk17, ↓rx17, ↓rg17, ↓rh17, ↓rp17, rn_some, k_andT, k_andF, k_orT, k_orF, k_B, k_int, k_seqN, k_seqR, k_seqB, k_seqC, k_loopN, k_loopR, k_enum, k_fnN, k_fnD, k_fnNew, e_addI, e_subI, e_ltI, e_leI, e_gtI, e_geI, e_eqI, e_neI, e_abs, e_intI, e_intB, e_at0, e_at1, e_at2, e_ix30, e_ix32, List.set_cons_zero, List.set_cons_succ, f1, List.length_cons, List.length_nil, List.all_cons, List.all_nil, cold, hots, hot, List.map_cons, List.map_nil, List.cons_append, List.nil_append, List.append_nil, List.replicate_succ, List.replicate_zero, List.take_succ_cons, List.take_zero, wipeS, backS, noOwn, Nat.reduceAdd, Nat.reduceSub, Nat.reduceLeDiff, Nat.reduceEqDiff, Bool.and_true, Bool.true_and, Bool.and_false, Bool.false_and, Bool.not_true, Bool.not_false, Bool.false_eq_true, Bool.true_eq_false, reduceCtorEq, true_and, and_true, if_true, if_false, decide_true, decide_false, isOk, isA, String.reduceBEq, turn_f, cut_1, k_zipLL, k_zipTT, k_zipTL, e_isN, e_isNot, isNo, beq_self_eq_true, bne_self_eq_false, e_eqB, e_neB, e_eqX, List.any_cons, List.any_nil, Bool.or_true, Bool.true_or, Bool.or_self, reduceIte, Bool.or_false, Bool.false_or, ri0, rt0, ri1, rt1, ri2, rt2, ri3, rt3, ri4, rt4, ri5, rt5, ri6, rt6, ri7, rt7, ri8, rt8, ri9, rt9, ri10, rt10, ri11, rt11, ri12, rt12, ri13, rt13, ri14, rt14, ri15, rt15, ri16, rt16, ri17, rt17, cast0, cast1, Int.cast_ofNat_Int, Int.reduceEq, Int.reduceLT, Int.reduceLE, Int.reduceAdd, Int.reduceSub, Int.reduceMul, Nat.reduceLT, Int.reduceToNat, Int.reducePow, Int.reduceNeg, Int.reduceNegSucc, cp6, seqD, List.flatten_cons, List.flatten_nil, List.reduceReplicate, codeB, hb, ha, hl]
          | false => simp (maxSteps := 20000000) only [↓u_C, ↓u_nil, ↓u_cons, ↓u_tup, ↓u_lst, ↓u_op, ↓u_and, ↓u_or, ↓u_test, ↓u_not, ↓u_notT, ↓u_andT, ↓u_orT, ↓u_ifE, ↓u_chain, ↓k_chT, ↓k_chF, ↓u_CB, ↓u_isi, ↓u_sl, ↓u_noPart, ↓u_part, ↓u_seq, ↓u_next, ↓u_retN, ↓u_bk, ↓u_ct, ↓u_drop, ↓u_ret, ↓u_if, ↓u_asg, ↓u_par, ↓u_prepN, ↓u_prepD, ↓u_prepO, ↓u_allN, ↓u_allC, ↓u_for, ↓u_loopN, ↓u_loopC, ↓u_it, ↓u_stoD, ↓u_stoN, ↓u_stosN, ↓u_stosC, ↓u_range1, ↓u_enum, ↓u_lc, ↓u_lcN, ↓u_lcC, ↓u_yes, ↓u_call, ↓u_argN, ↓u_argD, ↓u_argM, ↓u_argO, ↓u_argT, ↓u_backN, ↓u_backC, ↓u_fn, ↓k_fnO, ↓u_gtupD, ↓u_gtupN, ↓u_gtupL, ↓u_gtupT, ↓u_gN, ↓u_gC, ↓k_subL, ↓u_meth, ↓u_append, ↓u_popAt, ↓u_ixD, ↓u_ixN, ↓u_ixT, ↓u_ixS, ↓u_ixX, ↓u_mod, ↓u_div, ↓u_pow, ↓u_mul, ↓u_lenX, ↓u_lenL, ↓u_lenT, ↓u_lenC, ↓u_lenN, ↓u_addS, ↓u_isiD, ↓u_isiN, ↓u_zip, ↓u_argL, ↓u_argV, ↓u_dc, ↓u_dcN, ↓u_dcC, ↓k_dcX, ↓u_turn, ↓u_neg, ↓u_frz, ↓u_stoT, ↓u_stoL, ↓u_mulT, ↓u_addT, ↓u_listT, ↓u_listL, ↓u_slT, ↓rn_bind, ↓rn_some, ↓rn_iteT, ↓rn_iteF, ↓rv0, ↓ro0, ↓rb0, ↓rn0, ↓rs0, ↓rl0, ↓ra0, ↓rk0, ↓rx0, ↓rg0, ↓rh0, ↓rp0, ↓rv1, ↓ro1, ↓rb1, ↓rn1, ↓rs1, ↓rl1, ↓ra1, ↓rk1, ↓rx1, ↓rg1, ↓rh1, ↓rp1, ↓rv2, ↓ro2, ↓rb2, ↓rn2, ↓rs2, ↓rl2, ↓ra2, ↓rk2, ↓rx2, ↓rg2, ↓rh2, ↓rp2, ↓rv3, ↓ro3, ↓rb3, ↓rn3, ↓rs3, ↓rl3, ↓ra3, ↓rk3, ↓rx3, ↓rg3, ↓rh3, ↓rp3, ↓rv4, ↓ro4, ↓rb4, ↓rn4, ↓rs4, ↓rl4, ↓ra4, ↓rk4, ↓rx4, ↓rg4, ↓rh4, ↓rp4, ↓rv5, ↓ro5, ↓rb5, ↓rn5, ↓rs5, ↓rl5, ↓ra5, ↓rk5, ↓rx5, ↓rg5, ↓rh5, ↓rp5, ↓rv6, ↓ro6, ↓rb6, ↓rn6, ↓rs6, ↓rl6, ↓ra6, ↓rk6, ↓rx6, ↓rg6, ↓rh6, ↓rp6, ↓rv7, ↓ro7, ↓rb7, ↓rn7, ↓rs7, ↓rl7, ↓ra7, ↓rk7, ↓rx7, ↓rg7, ↓rh7, ↓rp7, ↓rv8, ↓ro8, ↓rb8, ↓rn8, ↓rs8, ↓rl8, ↓ra8, ↓rk8, ↓rx8, ↓rg8, ↓rh8, ↓rp8, ↓rv9, ↓ro9, ↓rb9, ↓rn9, ↓rs9, ↓rl9, ↓ra9, ↓rk9, ↓rx9, ↓rg9, ↓rh9, ↓rp9, ↓rv10, ↓ro10, ↓rb10, ↓rn10, ↓rs10, ↓rl10, ↓ra10, ↓rk10, ↓rx10, ↓rg10, ↓rh10, ↓rp10, ↓rv11, ↓ro11, ↓rb11, ↓rn11, ↓rs11, ↓rl11, ↓ra11, ↓rk11, ↓rx11, ↓rg11, ↓rh11, ↓rp11, ↓rv12, ↓ro12, ↓rb12, ↓rn12, ↓rs12, ↓rl12, ↓ra12, ↓rk12, ↓rx12, ↓rg12, ↓rh12, ↓rp12, ↓rv13, ↓ro13, ↓rb13, ↓rn13, ↓rs13, ↓rl13, ↓ra13, ↓rk13, ↓rx13, ↓rg13, ↓rh13, ↓rp13, ↓rv14, ↓ro14, ↓rb14, ↓rn14, ↓rs14, ↓rl14, ↓ra14, ↓rk14, ↓rx14, ↓rg14, ↓rh14, ↓rp14, ↓rv15, ↓ro15, ↓rb15, ↓rn15, ↓rs15, ↓rl15, ↓ra15, ↓rk15, ↓rx15, ↓rg15, ↓rh15, ↓rp15, ↓rv16, ↓ro16, ↓rb16, ↓rn16, ↓rs16, ↓rl16, ↓ra16, ↓rk16, ↓rx16, ↓rg16, ↓rh16, ↓rp16, ↓rv17, ↓ro17, ↓rb17, ↓rn17, ↓rs17, ↓rl17, ↓ra17, ↓rk17, ↓rx17, ↓rg17, ↓rh17, ↓rp17, rn_some, k_andT, k_andF, k_orT, k_orF, k_B, k_int, k_seqN, k_seqR, k_seqB, k_seqC, k_loopN, k_loopR, k_enum, k_fnN, k_fnD, k_fnNew, e_addI, e_subI, e_ltI, e_leI, e_gtI, e_geI, e_eqI, e_neI, e_abs, e_intI, e_intB, e_at0, e_at1, e_at2, e_ix30, e_ix32, List.set_cons_zero, List.set_cons_succ, f1, List.length_cons, List.length_nil, List.all_cons, List.all_nil, cold, hots, hot, List.map_cons, List.map_nil, List.cons_append, List.nil_append, List.append_nil, List.replicate_succ, List.replicate_zero, List.take_succ_cons, List.take_zero, wipeS, backS, noOwn, Nat.reduceAdd, Nat.reduceSub, Nat.reduceLeDiff, Nat.reduceEqDiff, Bool.and_true, Bool.true_and, Bool.and_false, Bool.false_and, Bool.not_true, Bool.not_false, Bool.false_eq_true, Bool.true_eq_false, reduceCtorEq, true_and, and_true, if_true, if_false, decide_true, decide_false, isOk, isA, String.reduceBEq, turn_f, cut_1, k_zipLL, k_zipTT, k_zipTL, e_isN, e_isNot, isNo, beq_self_eq_true, bne_self_eq_false, e_eqB, e_neB, e_eqX, List.any_cons, List.any_nil, Bool.or_true, Bool.true_or, Bool.or_self, reduceIte, Bool.or_false, Bool.false_or, ri0, rt0, ri1, rt1, ri2, rt2, ri3, rt3, ri4, rt4, ri5, rt5, ri6, rt6, ri7, rt7, ri8, rt8, ri9, rt9, ri10, rt10, ri11, rt11, ri12, rt12, ri13, rt13, ri14, rt14, ri15, rt15, ri16, rt16, ri17, rt17, cast0, cast1, Int.cast_ofNat_Int, Int.reduceEq, Int.reduceLT, Int.reduceLE, Int.reduceAdd, Int.reduceSub, Int.reduceMul, Nat.reduceLT, Int.reduceToNat, Int.reducePow, Int.reduceNeg, Int.reduceNegSucc, cp6, seqD, List.flatten_cons, List.flatten_nil, List.reduceReplicate, codeB, hb, ha, hl]
        · have ha' : ds.all actB = false := by simpa using ha
          simp (maxSteps := 20000000) only [↓u_C, ↓u_nil, ↓u_cons, ↓u_tup, ↓u_lst, ↓u_op, ↓u_and, ↓u_or, ↓u_test, ↓u_not, ↓u_notT, ↓u_andT, ↓u_orT, ↓u_ifE, ↓u_chain, ↓k_chT, ↓k_chF, ↓u_CB, ↓u_isi, ↓u_sl, ↓u_noPart, ↓u_part, ↓u_seq, ↓u_next, ↓u_retN, ↓u_bk, ↓u_ct, ↓u_drop, ↓u_ret, ↓u_if, ↓u_asg, ↓u_par, ↓u_prepN, ↓u_prepD, ↓u_prepO, ↓u_allN, ↓u_allC, ↓u_for, ↓u_loopN, ↓u_loopC, ↓u_it, ↓u_stoD, ↓u_stoN, ↓u_stosN, ↓u_stosC, ↓u_range1, ↓u_enum, ↓u_lc, ↓u_lcN, ↓u_lcC, ↓u_yes, ↓u_call, ↓u_argN, ↓u_argD, ↓u_argM, ↓u_argO, ↓u_argT, ↓u_backN, ↓u_backC, ↓u_fn, ↓k_fnO, ↓u_gtupD, ↓u_gtupN, ↓u_gtupL, ↓u_gtupT, ↓u_gN, ↓u_gC, ↓k_subL, ↓u_meth, ↓u_append, ↓u_popAt, ↓u_ixD, ↓u_ixN, ↓u_ixT, ↓u_ixS, ↓u_ixX, ↓u_mod, ↓u_div, ↓u_pow, ↓u_mul, ↓u_lenX, ↓u_lenL, ↓u_lenT, ↓u_lenC, ↓u_lenN, ↓u_addS, ↓u_isiD, ↓u_isiN, ↓u_zip, ↓u_argL, ↓u_argV, ↓u_dc, ↓u_dcN, ↓u_dcC, ↓k_dcX, ↓u_turn, ↓u_neg, ↓u_frz, ↓u_stoT, ↓u_stoL, ↓u_mulT, ↓u_addT, ↓u_listT, ↓u_listL, ↓u_slT, ↓rn_bind, ↓rn_some, ↓rn_iteT, ↓rn_iteF, ↓rv0, ↓ro0, ↓rb0, ↓rn0, ↓rs0, ↓rl0, ↓ra0, ↓rk0, ↓rx0, ↓rg0, ↓rh0, ↓rp0, ↓rv1, ↓ro1, ↓rb1, ↓rn1, ↓rs1, ↓rl1, ↓ra1, ↓rk1, ↓rx1, ↓rg1, ↓rh1, ↓rp1, ↓rv2, ↓ro2, ↓rb2, ↓rn2, ↓rs2, ↓rl2, ↓ra2, ↓rk2, ↓rx2, ↓rg2, ↓rh2, ↓rp2, ↓rv3, ↓ro3, ↓rb3, ↓rn3, ↓rs3, ↓rl3, ↓ra3, ↓rk3, ↓rx3, ↓rg3, ↓rh3, ↓rp3, ↓rv4, ↓ro4, ↓rb4, ↓rn4, ↓rs4, ↓rl4, ↓ra4, ↓rk4, ↓rx4, ↓rg4, ↓rh4, ↓rp4, ↓rv5, ↓ro5, ↓rb5, ↓rn5, ↓rs5, ↓rl5, ↓ra5, ↓rk5, ↓rx5, ↓rg5, ↓rh5, ↓rp5, ↓rv6, ↓ro6, ↓rb6, ↓rn6, ↓rs6, ↓rl6, ↓ra6, ↓rk6, ↓rx6, ↓rg6, ↓rh6, ↓rp6, ↓rv7, ↓ro7, ↓rb7, ↓rn7, ↓rs7, ↓rl7, ↓ra7, ↓rk7, ↓rx7, ↓rg7, ↓rh7, ↓rp7, ↓rv8, ↓ro8, ↓rb8, ↓rn8, ↓rs8, ↓rl8, ↓ra8, ↓rk8, ↓rx8, ↓rg8, ↓rh8, ↓rp8, ↓rv9, ↓ro9, ↓rb9, ↓rn9, ↓rs9, ↓rl9, ↓ra9, ↓rk9, ↓rx9, ↓rg9, ↓rh9, ↓rp9, ↓rv10, ↓ro10, ↓rb10, ↓rn10, ↓rs10, ↓rl10, ↓ra10, ↓rk10, ↓rx10, ↓rg10, ↓rh10, ↓rp10, ↓rv11, ↓ro11, ↓rb11, ↓rn11, ↓rs11, ↓rl11, ↓ra11, ↓rk11, ↓rx11, ↓rg11, ↓rh11, ↓rp11, ↓rv12, ↓ro12, ↓rb12, ↓rn12, ↓rs12, ↓rl12, ↓ra12, ↓rk12, ↓rx12, ↓rg12, ↓rh12, ↓rp12, ↓rv13, ↓ro13, ↓rb13, ↓rn13, ↓rs13, ↓rl13, ↓ra13, ↓rk13, ↓rx13, ↓rg13, ↓rh13, ↓rp13, ↓rv14, ↓ro14, ↓rb14, ↓rn14, ↓rs14, ↓rl14, ↓ra14, ↓rk14, ↓rx14, ↓rg14, ↓rh14, ↓rp14, ↓rv15, ↓ro15, ↓rb15, ↓rn15, ↓rs15, ↓rl15, ↓ra15, ↓rk15, ↓rx15, ↓rg15, ↓rh15, ↓rp15, ↓rv16, ↓ro16, ↓rb16, ↓rn16, ↓rs16, ↓rl16, ↓ra16, ↓rk16, ↓rx16, ↓rg16, ↓rh16, ↓rp16, ↓rv17, ↓ro17, ↓rb17, ↓rn17, ↓rs17, ↓rl17, ↓ra17, ↓rk17, ↓rx17, ↓rg17, ↓rh17, ↓rp17, rn_some, k_andT, k_andF, k_orT, k_orF, k_B, k_int, k_seqN, k_seqR, k_seqB, k_seqC, k_loopN, k_loopR, k_enum, k_fnN, k_fnD, k_fnNew, e_addI, e_subI, e_ltI, e_leI, e_gtI, e_geI, e_eqI, e_neI, e_abs, e_intI, e_intB, e_at0, e_at1, e_at2, e_ix30, e_ix32, List.set_cons_zero, List.set_cons_succ, f1, List.length_cons, List.length_nil, List.all_cons, List.all_nil, cold, hots, hot, List.map_cons, List.map_nil, List.cons_append, List.nil_append, List.append_nil, List.replicate_succ, List.replicate_zero, List.take_succ_cons, List.take_zero, wipeS, backS, noOwn, Nat.reduceAdd, Nat.reduceSub, Nat.reduceLeDiff, Nat.reduceEqDiff, Bool.and_true, Bool.true_and, Bool.and_false, Bool.false_and, Bool.not_true, Bool.not_false, Bool.false_eq_true, Bool.true_eq_false, reduceCtorEq, true_and, and_true, if_true, if_false, decide_true, decide_false, isOk, isA, String.reduceBEq, turn_f, cut_1, k_zipLL, k_zipTT, k_zipTL, e_isN, e_isNot, isNo, beq_self_eq_true, bne_self_eq_false, e_eqB, e_neB, e_eqX, List.any_cons, List.any_nil, Bool.or_true, Bool.true_or, Bool.or_self, reduceIte, Bool.or_false, Bool.false_or, ri0, rt0, ri1, rt1, ri2, rt2, ri3, rt3, ri4, rt4, ri5, rt5, ri6, rt6, ri7, rt7, ri8, rt8, ri9, rt9, ri10, rt10, ri11, rt11, ri12, rt12, ri13, rt13, ri14, rt14, ri15, rt15, ri16, rt16, ri17, rt17, cast0, cast1, Int.cast_ofNat_Int, Int.reduceEq, Int.reduceLT, Int.reduceLE, Int.reduceAdd, Int.reduceSub, Int.reduceMul, Nat.reduceLT, Int.reduceToNat, Int.reducePow, Int.reduceNeg, Int.reduceNegSucc, cp6, seqD, List.flatten_cons, List.flatten_nil, List.reduceReplicate, ↓u_all, bls_map, List.all_map, List.length_map, h5, show ds.all (id ∘ actB) = false from ha', codeB, ha', hl]
      · have h24 : ¬ ((ds.length : Nat) : Int) ≤ 24 := by omega
        simp (maxSteps := 20000000) only [↓u_C, ↓u_nil, ↓u_cons, ↓u_tup, ↓u_lst, ↓u_op, ↓u_and, ↓u_or, ↓u_test, ↓u_not, ↓u_notT, ↓u_andT, ↓u_orT, ↓u_ifE, ↓u_chain, ↓k_chT, ↓k_chF, ↓u_CB, ↓u_isi, ↓u_sl, ↓u_noPart, ↓u_part, ↓u_seq, ↓u_next, ↓u_retN, ↓u_bk, ↓u_ct, ↓u_drop, ↓u_ret, ↓u_if, ↓u_asg, ↓u_par, ↓u_prepN, ↓u_prepD, ↓u_prepO, ↓u_allN, ↓u_allC, ↓u_for, ↓u_loopN, ↓u_loopC, ↓u_it, ↓u_stoD, ↓u_stoN, ↓u_stosN, ↓u_stosC, ↓u_range1, ↓u_enum, ↓u_lc, ↓u_lcN, ↓u_lcC, ↓u_yes, ↓u_call, ↓u_argN, ↓u_argD, ↓u_argM, ↓u_argO, ↓u_argT, ↓u_backN, ↓u_backC, ↓u_fn, ↓k_fnO, ↓u_gtupD, ↓u_gtupN, ↓u_gtupL, ↓u_gtupT, ↓u_gN, ↓u_gC, ↓k_subL, ↓u_meth, ↓u_append, ↓u_popAt, ↓u_ixD, ↓u_ixN, ↓u_ixT, ↓u_ixS, ↓u_ixX, ↓u_mod, ↓u_div, ↓u_pow, ↓u_mul, ↓u_lenX, ↓u_lenL, ↓u_lenT, ↓u_lenC, ↓u_lenN, ↓u_addS, ↓u_isiD, ↓u_isiN, ↓u_zip, ↓u_argL, ↓u_argV, ↓u_dc, ↓u_dcN, ↓u_dcC, ↓k_dcX, ↓u_turn, ↓u_neg, ↓u_frz, ↓u_stoT, ↓u_stoL, ↓u_mulT, ↓u_addT, ↓u_listT, ↓u_listL, ↓u_slT, ↓rn_bind, ↓rn_some, ↓rn_iteT, ↓rn_iteF, ↓rv0, ↓ro0, ↓rb0, ↓rn0, ↓rs0, ↓rl0, ↓ra0, ↓rk0, ↓rx0, ↓rg0, ↓rh0, ↓rp0, ↓rv1, ↓ro1, ↓rb1, ↓rn1, ↓rs1, ↓rl1, ↓ra1, ↓rk1, ↓rx1, ↓rg1, ↓rh1, ↓rp1, ↓rv2, ↓ro2, ↓rb2, ↓rn2, ↓rs2, ↓rl2, ↓ra2, ↓rk2, ↓rx2, ↓rg2, ↓rh2, ↓rp2, ↓rv3, ↓ro3, ↓rb3, ↓rn3, ↓rs3, ↓rl3, ↓ra3, ↓rk3, ↓rx3, ↓rg3, ↓rh3, ↓rp3, ↓rv4, ↓ro4, ↓rb4, ↓rn4, ↓rs4, ↓rl4, ↓ra4, ↓rk4, ↓rx4, ↓rg4, ↓rh4, ↓rp4, ↓rv5, ↓ro5, ↓rb5, ↓rn5, ↓rs5, ↓rl5, ↓ra5, ↓rk5, ↓rx5, ↓rg5, ↓rh5, ↓rp5, ↓rv6, ↓ro6, ↓rb6, ↓rn6, ↓rs6, ↓rl6, ↓ra6, ↓rk6, ↓rx6, ↓rg6, ↓rh6, ↓rp6, ↓rv7, ↓ro7, ↓rb7, ↓rn7, ↓rs7, ↓rl7, ↓ra7, ↓rk7, ↓rx7, ↓rg7, ↓rh7, ↓rp7, ↓rv8, ↓ro8, ↓rb8, ↓rn8, ↓rs8, ↓rl8, ↓ra8, ↓rk8, ↓rx8, ↓rg8, ↓rh8, ↓rp8, ↓rv9, ↓ro9, ↓rb9, ↓rn9, ↓rs9, ↓rl9, ↓ra9, ↓rk9, ↓rx9, ↓rg9, ↓rh9, ↓rp9, ↓rv10, ↓ro10, ↓rb10, ↓rn10, ↓rs10, ↓rl10, ↓ra10, ↓rk10, ↓rx10, ↓rg10, ↓rh10, ↓rp10, ↓rv11, ↓ro11, ↓rb11, ↓rn11, ↓rs11, ↓rl11, ↓ra11, ↓rk11, ↓rx11, ↓rg11, ↓rh11, ↓rp11, ↓rv12, ↓ro12, ↓rb12, ↓rn12, ↓rs12, ↓rl12, ↓ra12, ↓rk12, ↓rx12, ↓rg12, ↓rh12, ↓rp12, ↓rv13, ↓ro13, ↓rb13, ↓rn13, ↓rs13, ↓rl13, ↓ra13, ↓rk13, ↓rx13, ↓rg13, ↓rh13, ↓rp13, ↓rv14, ↓ro14, ↓rb14, ↓rn14, ↓rs14, ↓rl14, ↓ra14, ↓rk14, ↓rx14, ↓rg14, ↓rh14, ↓rp14, ↓rv15, ↓ro15, ↓rb15, ↓rn15, ↓rs15, ↓rl15, ↓ra15, ↓rk15, ↓rx15, ↓rg15, ↓rh15, ↓rp15, ↓rv16, ↓ro16, ↓rb16, ↓rn16, ↓rs16, ↓rl16, ↓ra16, ↓rk16, ↓rx16, ↓rg16, ↓rh16, ↓rp16, ↓rv17, ↓ro17, ↓rb17, ↓rn17, ↓rs17, ↓rl17, ↓ra17, ↓rk17, ↓rx17, ↓rg17, ↓rh17, ↓rp17, rn_some, k_andT, k_andF, k_orT, k_orF, k_B, k_int, k_seqN, k_seqR, k_seqB, k_seqC, k_loopN, k_loopR, k_enum, k_fnN, k_fnD, k_fnNew, e_addI, e_subI, e_ltI, e_leI, e_gtI, e_geI, e_eqI, e_neI, e_abs, e_intI, e_intB, e_at0, e_at1, e_at2, e_ix30, e_ix32, List.set_cons_zero, List.set_cons_succ, f1, List.length_cons, List.length_nil, List.all_cons, List.all_nil, cold, hots, hot, List.map_cons, List.map_nil, List.cons_append, List.nil_append, List.append_nil, List.replicate_succ, List.replicate_zero, List.take_succ_cons, List.take_zero, wipeS, backS, noOwn, Nat.reduceAdd, Nat.reduceSub, Nat.reduceLeDiff, Nat.reduceEqDiff, Bool.and_true, Bool.true_and, Bool.and_false, Bool.false_and, Bool.not_true, Bool.not_false, Bool.false_eq_true, Bool.true_eq_false, reduceCtorEq, true_and, and_true, if_true, if_false, decide_true, decide_false, isOk, isA, String.reduceBEq, turn_f, cut_1, k_zipLL, k_zipTT, k_zipTL, e_isN, e_isNot, isNo, beq_self_eq_true, bne_self_eq_false, e_eqB, e_neB, e_eqX, List.any_cons, List.any_nil, Bool.or_true, Bool.true_or, Bool.or_self, reduceIte, Bool.or_false, Bool.false_or, ri0, rt0, ri1, rt1, ri2, rt2, ri3, rt3, ri4, rt4, ri5, rt5, ri6, rt6, ri7, rt7, ri8, rt8, ri9, rt9, ri10, rt10, ri11, rt11, ri12, rt12, ri13, rt13, ri14, rt14, ri15, rt15, ri16, rt16, ri17, rt17, cast0, cast1, Int.cast_ofNat_Int, Int.reduceEq, Int.reduceLT, Int.reduceLE, Int.reduceAdd, Int.reduceSub, Int.reduceMul, Nat.reduceLT, Int.reduceToNat, Int.reducePow, Int.reduceNeg, Int.reduceNegSucc, cp6, seqD, List.flatten_cons, List.flatten_nil, List.reduceReplicate, ↓rn_of e, tupB, h0, h24, codeB, hl]
    | _ => simp (maxSteps := 20000000) only [↓u_C, ↓u_nil, ↓u_cons, ↓u_tup, ↓u_lst, ↓u_op, ↓u_and, ↓u_or, ↓u_test, ↓u_not, ↓u_notT, ↓u_andT, ↓u_orT, ↓u_ifE, ↓u_chain, ↓k_chT, ↓k_chF, ↓u_CB, ↓u_isi, ↓u_sl, ↓u_noPart, ↓u_part, ↓u_seq, ↓u_next, ↓u_retN, ↓u_bk, ↓u_ct, ↓u_drop, ↓u_ret, ↓u_if, ↓u_asg, ↓u_par, ↓u_prepN, ↓u_prepD, ↓u_prepO, ↓u_allN, ↓u_allC, ↓u_for, ↓u_loopN, ↓u_loopC, ↓u_it, ↓u_stoD, ↓u_stoN, ↓u_stosN, ↓u_stosC, ↓u_range1, ↓u_enum, ↓u_lc, ↓u_lcN, ↓u_lcC, ↓u_yes, ↓u_call, ↓u_argN, ↓u_argD, ↓u_argM, ↓u_argO, ↓u_argT, ↓u_backN, ↓u_backC, ↓u_fn, ↓k_fnO, ↓u_gtupD, ↓u_gtupN, ↓u_gtupL, ↓u_gtupT, ↓u_gN, ↓u_gC, ↓k_subL, ↓u_meth, ↓u_append, ↓u_popAt, ↓u_ixD, ↓u_ixN, ↓u_ixT, ↓u_ixS, ↓u_ixX, ↓u_mod, ↓u_div, ↓u_pow, ↓u_mul, ↓u_lenX, ↓u_lenL, ↓u_lenT, ↓u_lenC, ↓u_lenN, ↓u_addS, ↓u_isiD, ↓u_isiN, ↓u_zip, ↓u_argL, ↓u_argV, ↓u_dc, ↓u_dcN, ↓u_dcC, ↓k_dcX, ↓u_turn, ↓u_neg, ↓u_frz, ↓u_stoT, ↓u_stoL, ↓u_mulT, ↓u_addT, ↓u_listT, ↓u_listL, ↓u_slT, ↓rn_bind, ↓rn_some, ↓rn_iteT, ↓rn_iteF, ↓rv0, ↓ro0, ↓rb0, ↓rn0, ↓rs0, ↓rl0, ↓ra0, ↓rk0, ↓rx0, ↓rg0, ↓rh0, ↓rp0, ↓rv1, ↓ro1, ↓rb1, ↓rn1, ↓rs1, ↓rl1, ↓ra1, ↓rk1, ↓rx1, ↓rg1, ↓rh1, ↓rp1, ↓rv2, ↓ro2, ↓rb2, ↓rn2, ↓rs2, ↓rl2, ↓ra2, ↓rk2, ↓rx2, ↓rg2, ↓rh2, ↓rp2, ↓rv3, ↓ro3, ↓rb3, ↓rn3, ↓rs3, ↓rl3, ↓ra3, ↓rk3, ↓rx3, ↓rg3, ↓rh3, ↓rp3, ↓rv4, ↓ro4, ↓rb4, ↓rn4, ↓rs4, ↓rl4, ↓ra4, ↓rk4, ↓rx4, ↓rg4, ↓rh4, ↓rp4, ↓rv5, ↓ro5, ↓rb5, ↓rn5, ↓rs5, ↓rl5, ↓ra5, ↓rk5, ↓rx5, ↓rg5, ↓rh5, ↓rp5, ↓rv6, ↓ro6, ↓rb6, ↓rn6, ↓rs6, ↓rl6, ↓ra6, ↓rk6, ↓rx6, ↓rg6, ↓rh6, ↓rp6, ↓rv7, ↓ro7, ↓rb7, ↓rn7, ↓rs7, ↓rl7, ↓ra7, ↓rk7, ↓rx7, ↓rg7, ↓rh7, ↓rp7, ↓rv8, ↓ro8, ↓rb8, ↓rn8, ↓rs8, ↓rl8, ↓ra8, ↓rk8, ↓rx8, ↓rg8, ↓rh8, ↓rp8, ↓rv9, ↓ro9, ↓rb9, ↓rn9, ↓rs9, ↓rl9, ↓ra9, ↓rk9, ↓rx9, ↓rg9, ↓rh9, ↓rp9, ↓rv10, ↓ro10, ↓rb10, ↓rn10, ↓rs10, ↓rl10, ↓ra10, ↓rk10, ↓rx10, ↓rg10, ↓rh10, ↓rp10, ↓rv11, ↓ro11, ↓rb11, ↓rn11, ↓rs11, ↓rl11, ↓ra11, ↓rk11, ↓rx11, ↓rg11, ↓rh11, ↓rp11, ↓rv12, ↓ro12, ↓rb12, ↓rn12, ↓rs12, ↓rl12, ↓ra12, ↓rk12, ↓rx12, ↓rg12, ↓rh12, ↓rp12, ↓rv13, ↓ro13, ↓rb13, ↓rn13, ↓rs13, ↓rl13, ↓ra13, ↓rk13, ↓rx13, ↓rg13, ↓rh13, ↓rp13, ↓rv14, ↓ro14, ↓rb14, ↓rn14, ↓rs14, ↓rl14, ↓ra14, ↓rk14, ↓rx14, ↓rg14, ↓rh14, ↓rp14, ↓rv15, ↓ro15, ↓rb15, ↓rn15, ↓rs15, ↓rl15, ↓ra15, ↓rk15, ↓rx15, ↓rg15, ↓rh15, ↓rp15, ↓rv16, ↓ro16, ↓rb16, ↓rn16, ↓rs16, ↓rl16, ↓ra16, ↓rk16, ↓rx16, ↓rg16, ↓rh16, ↓rp16, ↓rv17, ↓ro17, ↓rb17, ↓rn17, ↓rs17, ↓rl17, ↓ra17, ↓rk17, ↓rx17, ↓rg17, ↓rh17, ↓rp17, rn_some, k_andT, k_andF, k_orT, k_orF, k_B, k_int, k_seqN, k_seqR, k_seqB, k_seqC, k_loopN, k_loopR, k_enum, k_fnN, k_fnD, k_fnNew, e_addI, e_subI, e_ltI, e_leI, e_gtI, e_geI, e_eqI, e_neI, e_abs, e_intI, e_intB, e_at0, e_at1, e_at2, e_ix30, e_ix32, List.set_cons_zero, List.set_cons_succ, f1, List.length_cons, List.length_nil, List.all_cons, List.all_nil, cold, hots, hot, List.map_cons, List.map_nil, List.cons_append, List.nil_append, List.append_nil, List.replicate_succ, List.replicate_zero, List.take_succ_cons, List.take_zero, wipeS, backS, noOwn, Nat.reduceAdd, Nat.reduceSub, Nat.reduceLeDiff, Nat.reduceEqDiff, Bool.and_true, Bool.true_and, Bool.and_false, Bool.false_and, Bool.not_true, Bool.not_false, Bool.false_eq_true, Bool.true_eq_false, reduceCtorEq, true_and, and_true, if_true, if_false, decide_true, decide_false, isOk, isA, String.reduceBEq, turn_f, cut_1, k_zipLL, k_zipTT, k_zipTL, e_isN, e_isNot, isNo, beq_self_eq_true, bne_self_eq_false, e_eqB, e_neB, e_eqX, List.any_cons, List.any_nil, Bool.or_true, Bool.true_or, Bool.or_self, reduceIte, Bool.or_false, Bool.false_or, ri0, rt0, ri1, rt1, ri2, rt2, ri3, rt3, ri4, rt4, ri5, rt5, ri6, rt6, ri7, rt7, ri8, rt8, ri9, rt9, ri10, rt10, ri11, rt11, ri12, rt12, ri13, rt13, ri14, rt14, ri15, rt15, ri16, rt16, ri17, rt17, cast0, cast1, Int.cast_ofNat_Int, Int.reduceEq, Int.reduceLT, Int.reduceLE, Int.reduceAdd, Int.reduceSub, Int.reduceMul, Nat.reduceLT, Int.reduceToNat, Int.reducePow, Int.reduceNeg, Int.reduceNegSucc, cp6, seqD, List.flatten_cons, List.flatten_nil, List.reduceReplicate, ↓rn_of e, tupB, codeB]
  obtain ⟨a, e, rfl⟩ := main
  exact e
end Tw

/-! is_act, is_code at the words -/
namespace Tw
open PySem PySem.Spec PyProof.Rows L2
theorem ab_take1 {x : Da} : actB (.tup [.str "take", x]) = nameD x := rfl
theorem ab_take0 : actB (.tup [.str "take"]) = false := rfl
theorem ab_take2 {x y : Da} : actB (.tup [.str "take", x, y]) = false := rfl
theorem ab_give1 {x : Da} : actB (.tup [.str "give", x]) = nameD x := rfl
theorem ab_give0 : actB (.tup [.str "give"]) = false := rfl
theorem ab_give2 {x y : Da} : actB (.tup [.str "give", x, y]) = false := rfl
theorem ab_number1 {x : Da} : actB (.tup [.str "number", x]) = withinB x 0 999999 := rfl
theorem ab_number0 : actB (.tup [.str "number"]) = false := rfl
theorem ab_number2 {x y : Da} : actB (.tup [.str "number", x, y]) = false := rfl
theorem ab_keep1 {x : Da} : actB (.tup [.str "keep", x]) = withinB x 0 3 := rfl
theorem ab_keep0 : actB (.tup [.str "keep"]) = false := rfl
theorem ab_keep2 {x y : Da} : actB (.tup [.str "keep", x, y]) = false := rfl
theorem ab_kept1 {x : Da} : actB (.tup [.str "kept", x]) = withinB x 0 3 := rfl
theorem ab_kept0 : actB (.tup [.str "kept"]) = false := rfl
theorem ab_kept2 {x y : Da} : actB (.tup [.str "kept", x, y]) = false := rfl
theorem ab_plus0 : actB (.tup [.str "plus"]) = true := rfl
theorem ab_plus1 {x : Da} : actB (.tup [.str "plus", x]) = false := rfl
theorem ab_less0 : actB (.tup [.str "less"]) = true := rfl
theorem ab_less1 {x : Da} : actB (.tup [.str "less", x]) = false := rfl
theorem ab_times0 : actB (.tup [.str "times"]) = true := rfl
theorem ab_times1 {x : Da} : actB (.tup [.str "times", x]) = false := rfl
theorem ab_below0 : actB (.tup [.str "below"]) = true := rfl
theorem ab_below1 {x : Da} : actB (.tup [.str "below", x]) = false := rfl
theorem ab_twice0 : actB (.tup [.str "twice"]) = true := rfl
theorem ab_twice1 {x : Da} : actB (.tup [.str "twice", x]) = false := rfl
theorem ab_swap0 : actB (.tup [.str "swap"]) = true := rfl
theorem ab_swap1 {x : Da} : actB (.tup [.str "swap", x]) = false := rfl
theorem ab_drop0 : actB (.tup [.str "drop"]) = true := rfl
theorem ab_drop1 {x : Da} : actB (.tup [.str "drop", x]) = false := rfl
theorem ab_pick0 : actB (.tup [.str "pick"]) = true := rfl
theorem ab_pick1 {x : Da} : actB (.tup [.str "pick", x]) = false := rfl
theorem lb_take : lacksI "take" = 0 := rfl
theorem lm_take : leavesI "take" = 1 := rfl
theorem lb_give : lacksI "give" = 1 := rfl
theorem lm_give : leavesI "give" = (-1) := rfl
theorem lb_number : lacksI "number" = 0 := rfl
theorem lm_number : leavesI "number" = 1 := rfl
theorem lb_keep : lacksI "keep" = 1 := rfl
theorem lm_keep : leavesI "keep" = (-1) := rfl
theorem lb_kept : lacksI "kept" = 0 := rfl
theorem lm_kept : leavesI "kept" = 1 := rfl
theorem lb_plus : lacksI "plus" = 2 := rfl
theorem lm_plus : leavesI "plus" = (-1) := rfl
theorem lb_less : lacksI "less" = 2 := rfl
theorem lm_less : leavesI "less" = (-1) := rfl
theorem lb_times : lacksI "times" = 2 := rfl
theorem lm_times : leavesI "times" = (-1) := rfl
theorem lb_below : lacksI "below" = 2 := rfl
theorem lm_below : leavesI "below" = (-1) := rfl
theorem lb_twice : lacksI "twice" = 1 := rfl
theorem lm_twice : leavesI "twice" = 1 := rfl
theorem lb_swap : lacksI "swap" = 2 := rfl
theorem lm_swap : leavesI "swap" = 0 := rfl
theorem lb_drop : lacksI "drop" = 1 := rfl
theorem lm_drop : leavesI "drop" = (-1) := rfl
theorem lb_pick : lacksI "pick" = 3 := rfl
theorem lm_pick : leavesI "pick" = (-2) := rfl
theorem ab_put {x : Da} : actB (.tup [.str "put", x]) = false := rfl
theorem ab_nil : actB (.tup []) = false := rfl
theorem ab_lst {l : List Da} : actB (.lst l) = false := rfl
theorem pb_nil {p : Int} : pileB p [] = true := rfl
theorem pb_cons {p : Int} {w : Str} {r ds : List Da} : pileB p (.tup (.str w :: r) :: ds) = if p < lacksI w then false else pileB (p + leavesI w) ds := rfl
theorem cb_lst {l : List Da} : codeB (.lst l) = false := rfl
theorem cb_non : codeB .non = false := rfl
theorem cb_str {x : Str} : codeB (.str x) = false := rfl
theorem cb_tup {ds : List Da} : codeB (.tup ds) = (decide (ds.length ≤ 24) && ds.all actB && pileB 0 ds) := rfl
end Tw

namespace Tw
open PySem PySem.Spec PyProof.Rows L2
def topS (i : Nat) : Stmt := PySem.Challenge.pw_trayworks_k02_codes_at_their_bounds.main.body.getD i (.Pass ⟨0, 0, 0, 0⟩)
theorem sc_is_number : FnScope ["thing"] ["thing"] (defScope (topS 6)) := ⟨rfl, rfl, rfl, by decide +kernel, rfl, by decide +kernel, by decide +kernel⟩
theorem ok_is_number {P : Program} {w : World} {K : PySem.W.Frag} {mg : Str → Option Value} {base : Heap} {f : Addr} {fd : FuncData} (B : Bi mg) (F : Fun K "is_number" "is_number" (topS 6) f fd) : FnOk P w K mg base CX0 1 f fd ["thing"] (spV ⟨P, w, K, mg⟩ 1 w_is_number) :=
  fn_ok (k := 0) F sc_is_number (by decide) fun cdv A outer s H E hr => (js_one (js_ret (j_and (j_isi (B.isinstance) B.int (by decide) PyProof.Rows.boot_int (jv 0)) (j_one (j_not (j_isi (B.isinstance) B.bool (by decide) PyProof.Rows.boot_bool (jv 0)))))))
theorem sc_is_within : FnScope ["thing", "least", "most"] ["thing", "least", "most"] (defScope (topS 7)) := ⟨rfl, rfl, rfl, by decide +kernel, rfl, by decide +kernel, by decide +kernel⟩
theorem ok_is_within {P : Program} {w : World} {K : PySem.W.Frag} {mg : Str → Option Value} {base : Heap} {f : Addr} {fd : FuncData} (C_is_number : Cal P w K mg base "is_number" 1 ["thing"] (spV ⟨P, w, K, mg⟩ 1 w_is_number)) (F : Fun K "is_within" "is_within" (topS 7) f fd) : FnOk P w K mg base CX0 2 f fd ["thing", "least", "most"] (spV ⟨P, w, K, mg⟩ 3 w_is_within) :=
  fn_ok (k := 1) F sc_is_within (by decide) fun cdv A outer s H E hr => (js_one (js_ret (j_and (j_call [false] C_is_number hr (ja_cons (jv 0) ja_nil)) (j_one (j_chain op_leA op_leA sim_lt sim_lt (jv 1) (jv 0) (jv 2))))))
theorem sc_is_item : FnScope ["thing"] ["thing"] (defScope (topS 8)) := ⟨rfl, rfl, rfl, by decide +kernel, rfl, by decide +kernel, by decide +kernel⟩
theorem ok_is_item {P : Program} {w : World} {K : PySem.W.Frag} {mg : Str → Option Value} {base : Heap} {f : Addr} {fd : FuncData} (c_WIDE : GI ⟨P, w, K, mg⟩ "WIDE" 1000000) (C_is_within : Cal P w K mg base "is_within" 2 ["thing", "least", "most"] (spV ⟨P, w, K, mg⟩ 3 w_is_within)) (F : Fun K "is_item" "is_item" (topS 8) f fd) : FnOk P w K mg base CX0 3 f fd ["thing"] (spV ⟨P, w, K, mg⟩ 1 w_is_item) :=
  fn_ok (k := 2) F sc_is_item (by decide) fun cdv A outer s H E hr => (js_one (js_ret (j_call [false, false, false] C_is_within hr (ja_cons (jv 0) (ja_cons j_int (ja_cons (j_sub (jgi c_WIDE) j_int) ja_nil))))))
theorem sc_is_name : FnScope ["thing", "sign"] ["thing"] (defScope (topS 9)) := ⟨rfl, rfl, rfl, by decide +kernel, rfl, by decide +kernel, by decide +kernel⟩
theorem ok_is_name {P : Program} {w : World} {K : PySem.W.Frag} {mg : Str → Option Value} {base : Heap} {f : Addr} {fd : FuncData} (B : Bi mg) (c_MOST_LETTERS : GI ⟨P, w, K, mg⟩ "MOST_LETTERS" 8) (c_LETTERS : GS ⟨P, w, K, mg⟩ "LETTERS" "abcdefghijklmnopqrstuvwxyz") (F : Fun K "is_name" "is_name" (topS 9) f fd) : FnOk P w K mg base CX0 1 f fd ["thing"] (spV ⟨P, w, K, mg⟩ 1 w_is_name) :=
  fn_ok (k := 0) F sc_is_name (by decide) fun cdv A outer s H E hr => (js_cons (js_if (jt_w (jw_or (jt_not (jt_val (j_isi (B.isinstance) B.str (by decide) PyProof.Rows.boot_str (jv 0)))) (jw_or1 (jt_not (jt_chain op_leA op_leA sim_lt sim_lt j_int (j_len (B.len) (ja_cons (jv 0) ja_nil)) (jgi c_MOST_LETTERS))))))
    (js_one (js_ret j_bl))
    js_nil)
  (js_one (js_ret (j_all rfl (B.all) (ja_cons (j_lc (own := [("sign", 1)]) rfl sc_is_name.nd (ji_it (jv 0)) (blkOk_by (own := [("sign", 1)]) (N := ["thing", "sign"]) (sc := defScope (topS 9)) (by decide +kernel)) (fun _ _ _ _ _ => (jg_name (i := 1) sc_is_name.nd rfl (Or.inl rfl))) (fun _ _ _ _ _ => jts_nil) (fun _ _ _ _ _ => (j_c (c_in (room_u hr) (jv 1) (jgs c_LETTERS))))) ja_nil)))))
theorem sc_is_tuple : FnScope ["thing", "least", "most"] ["thing", "least", "most"] (defScope (topS 10)) := ⟨rfl, rfl, rfl, by decide +kernel, rfl, by decide +kernel, by decide +kernel⟩
theorem ok_is_tuple {P : Program} {w : World} {K : PySem.W.Frag} {mg : Str → Option Value} {base : Heap} {f : Addr} {fd : FuncData} (B : Bi mg) (F : Fun K "is_tuple" "is_tuple" (topS 10) f fd) : FnOk P w K mg base CX0 1 f fd ["thing", "least", "most"] (spV ⟨P, w, K, mg⟩ 3 w_is_tuple) :=
  fn_ok (k := 0) F sc_is_tuple (by decide) fun cdv A outer s H E hr => (js_one (js_ret (j_and (j_isi (B.isinstance) B.tuple (by decide) PyProof.Rows.boot_tuple (jv 0)) (j_one (j_chain op_leA op_leA sim_lt sim_lt (jv 1) (j_len (B.len) (ja_cons (jv 0) ja_nil)) (jv 2))))))
theorem sc_is_place : FnScope ["thing"] ["thing"] (defScope (topS 16)) := ⟨rfl, rfl, rfl, by decide +kernel, rfl, by decide +kernel, by decide +kernel⟩
theorem ok_is_place {P : Program} {w : World} {K : PySem.W.Frag} {mg : Str → Option Value} {base : Heap} {f : Addr} {fd : FuncData} (c_MOST_PLACES : GI ⟨P, w, K, mg⟩ "MOST_PLACES" 4) (C_is_within : Cal P w K mg base "is_within" 2 ["thing", "least", "most"] (spV ⟨P, w, K, mg⟩ 3 w_is_within)) (F : Fun K "is_place" "is_place" (topS 16) f fd) : FnOk P w K mg base CX0 3 f fd ["thing"] (spV ⟨P, w, K, mg⟩ 1 w_is_place) :=
  fn_ok (k := 2) F sc_is_place (by decide) fun cdv A outer s H E hr => (js_one (js_ret (j_call [false, false, false] C_is_within hr (ja_cons (jv 0) (ja_cons j_int (ja_cons (j_sub (jgi c_MOST_PLACES) j_int) ja_nil))))))
theorem sc_is_act : FnScope ["thing", "word", "rest", "looks", "look", "one"] ["thing"] (defScope (topS 20)) := ⟨rfl, rfl, rfl, by decide +kernel, rfl, by decide +kernel, by decide +kernel⟩
theorem ok_is_act {P : Program} {w : World} {K : PySem.W.Frag} {mg : Str → Option Value} {base : Heap} {f : Addr} {fd : FuncData} (B : Bi mg) (c_LOOKS : GD ⟨P, w, K, mg⟩ "LOOKS" d_LOOKS) (C_is_name : Cal P w K mg base "is_name" 1 ["thing"] (spV ⟨P, w, K, mg⟩ 1 w_is_name)) (C_is_item : Cal P w K mg base "is_item" 3 ["thing"] (spV ⟨P, w, K, mg⟩ 1 w_is_item)) (C_is_place : Cal P w K mg base "is_place" 3 ["thing"] (spV ⟨P, w, K, mg⟩ 1 w_is_place)) (F : Fun K "is_act" "is_act" (topS 20) f fd) : FnOk P w K mg base CX0 4 f fd ["thing"] (spV ⟨P, w, K, mg⟩ 1 w_is_act) :=
  fn_ok (k := 3) F sc_is_act (by decide) fun cdv A outer s H E hr => (js_cons (js_if (jt_w (jw_or (jt_not (jt_val (j_isi (B.isinstance) B.tuple (by decide) PyProof.Rows.boot_tuple (jv 0)))) (jw_or (jt_c (c_eq (room_u hr) (j_len (B.len) (ja_cons (jv 0) ja_nil)) j_int)) (jw_or (jt_not (jt_val (j_isi (B.isinstance) B.str (by decide) PyProof.Rows.boot_str (j_ix (room_u hr) (jv 0) j_int)))) (jw_or1 (jt_c (c_notin (room_u hr) (j_ix (room_u hr) (jv 0) j_int) (jgd c_LOOKS))))))))
    (js_one (js_ret j_bl))
    js_nil)
  (js_cons (js_asg (jv 0) (jg_star (i := 1) (j := 2) rfl sc_is_act.nd rfl rfl (Or.inl rfl) (Or.inl rfl)))
  (js_cons (js_set (i := 3) sc_is_act.nd rfl (Or.inl rfl) (j_ix (room_u hr) (jgd c_LOOKS) (jv 1)))
  (js_one (js_ret (j_and (j_c (c_eq (room_u hr) (j_len (B.len) (ja_cons (jv 2) ja_nil)) (j_len (B.len) (ja_cons (jv 3) ja_nil)))) (j_one (j_all rfl (B.all) (ja_cons (j_lc (own := [("look", 4), ("one", 5)]) rfl sc_is_act.nd (ji_zip (B.zip) (ja_cons (jv 3) (ja_cons (jv 2) ja_nil))) (blkOk_by (own := [("look", 4), ("one", 5)]) (N := ["thing", "word", "rest", "looks", "look", "one"]) (sc := defScope (topS 20)) (by decide +kernel)) (fun _ _ _ _ _ => (jg_tup rfl (jgs_cons (jg_name (i := 4) sc_is_act.nd rfl (Or.inl rfl)) (jgs_cons (jg_name (i := 5) sc_is_act.nd rfl (Or.inl rfl)) jgs_nil)))) (fun _ _ _ _ _ => jts_nil) (fun _ _ _ _ _ => (j_callH (k := 3) [false] (hld_3 (by decide) C_is_name (by decide) C_is_item (by decide) C_is_place) hr (ja_cons (jv 5) ja_nil)))) ja_nil)))))))))
theorem sc_is_code : FnScope ["thing", "pile", "word", "rest", "act"] ["thing"] (defScope (topS 21)) := ⟨rfl, rfl, rfl, by decide +kernel, rfl, by decide +kernel, by decide +kernel⟩
theorem ok_is_code {P : Program} {w : World} {K : PySem.W.Frag} {mg : Str → Option Value} {base : Heap} {f : Addr} {fd : FuncData} (B : Bi mg) (C_is_act : Cal P w K mg base "is_act" 4 ["thing"] (spV ⟨P, w, K, mg⟩ 1 w_is_act)) (c_MOST_ACTS : GI ⟨P, w, K, mg⟩ "MOST_ACTS" 24) (C_is_tuple : Cal P w K mg base "is_tuple" 1 ["thing", "least", "most"] (spV ⟨P, w, K, mg⟩ 3 w_is_tuple)) (c_LACKS_BELOW : GD ⟨P, w, K, mg⟩ "LACKS_BELOW" d_LACKS_BELOW) (c_LEAVES_MORE : GD ⟨P, w, K, mg⟩ "LEAVES_MORE" d_LEAVES_MORE) (F : Fun K "is_code" "is_code" (topS 21) f fd) : FnOk P w K mg base CX0 5 f fd ["thing"] (spV ⟨P, w, K, mg⟩ 1 w_is_code) :=
  fn_ok (k := 4) F sc_is_code (by decide) fun cdv A outer s H E hr => (js_cons (js_if (jt_w (jw_or (jt_not (jt_val (j_call [false, false, false] C_is_tuple hr (ja_cons (jv 0) (ja_cons j_int (ja_cons (jgi c_MOST_ACTS) ja_nil)))))) (jw_or1 (jt_not (jt_val (j_all rfl (B.all) (ja_cons (j_lc (own := [("act", 4)]) rfl sc_is_code.nd (ji_it (jv 0)) (blkOk_by (own := [("act", 4)]) (N := ["thing", "pile", "word", "rest", "act"]) (sc := defScope (topS 21)) (by decide +kernel)) (fun _ _ _ _ _ => (jg_name (i := 4) sc_is_code.nd rfl (Or.inl rfl))) (fun _ _ _ _ _ => jts_nil) (fun _ _ _ _ _ => (j_call [false] C_is_act hr (ja_cons (jv 4) ja_nil)))) ja_nil)))))))
    (js_one (js_ret j_bl))
    js_nil)
  (js_cons (js_set (i := 1) sc_is_code.nd rfl (Or.inl rfl) j_int)
  (js_cons (js_for PassesOwn.never rfl (ji_it (jv 0)) (jg_star (i := 2) (j := 3) rfl sc_is_code.nd rfl rfl (Or.inl rfl) (Or.inl rfl))
    (js_cons (js_if (jt_c (c_lt (jv 1) (j_ix (room_u hr) (jgd c_LACKS_BELOW) (jv 2))))
      (js_one (js_ret j_bl))
      js_nil)
    (js_one (js_aug (g := (fun i j => i + j)) (i := 1) ip_add sc_is_code.nd rfl (Or.inl rfl) (j_ix (room_u hr) (jgd c_LEAVES_MORE) (jv 2))))))
  (js_one (js_ret j_bl)))))
theorem sc_moves : FnScope ["code", "word", "tray", "act"] ["code", "word", "tray"] (defScope (topS 22)) := ⟨rfl, rfl, rfl, by decide +kernel, rfl, by decide +kernel, by decide +kernel⟩
theorem ok_moves {P : Program} {w : World} {K : PySem.W.Frag} {mg : Str → Option Value} {base : Heap} {f : Addr} {fd : FuncData} (B : Bi mg) (F : Fun K "moves" "moves" (topS 22) f fd) : FnOk P w K mg base CX0 1 f fd ["code", "word", "tray"] (spV ⟨P, w, K, mg⟩ 3 w_moves) :=
  fn_ok (k := 0) F sc_moves (by decide) fun cdv A outer s H E hr => (js_one (js_ret (j_len (B.len) (ja_cons (j_lc (own := [("act", 3)]) rfl sc_moves.nd (ji_it (jv 0)) (blkOk_by (own := [("act", 3)]) (N := ["code", "word", "tray", "act"]) (sc := defScope (topS 22)) (by decide +kernel)) (fun _ _ _ _ _ => (jg_name (i := 3) sc_moves.nd rfl (Or.inl rfl))) (fun _ _ _ _ _ => (jts_one (jt_w (jw_and (jt_c (c_eq (room_u hr) (j_ix (room_u hr) (jv 3) j_int) (jv 1))) (jw_and1 (jt_c (c_eq (room_u hr) (j_ix (room_u hr) (jv 3) j_int) (jv 2)))))))) (fun _ _ _ _ _ => (jv 3))) ja_nil))))
theorem sc_moves_all : FnScope ["code", "word", "trays", "act", "tray"] ["code", "word"] (defScope (topS 23)) := ⟨rfl, rfl, rfl, by decide +kernel, rfl, by decide +kernel, by decide +kernel⟩
theorem ok_moves_all {P : Program} {w : World} {K : PySem.W.Frag} {mg : Str → Option Value} {base : Heap} {f : Addr} {fd : FuncData} (B : Bi mg) (C_moves : Cal P w K mg base "moves" 1 ["code", "word", "tray"] (spV ⟨P, w, K, mg⟩ 3 w_moves)) (F : Fun K "moves_all" "moves_all" (topS 23) f fd) : FnOk P w K mg base CX0 2 f fd ["code", "word"] (spV ⟨P, w, K, mg⟩ 2 w_moves_all) :=
  fn_ok (k := 1) F sc_moves_all (by decide) fun cdv A outer s H E hr => (js_cons (js_setDc (i := 2) (own := [("act", 3)]) rfl sc_moves_all.nd rfl rfl (sw_trueD rfl rfl rfl (by decide +kernel)) (ji_it (jv 0)) (blkOk_by (own := [("act", 3)]) (N := ["code", "word", "trays", "act", "tray"]) (sc := defScope (topS 23)) (by decide +kernel)) (fun _ _ _ _ _ => (jg_name (i := 3) sc_moves_all.nd rfl (Or.inl rfl))) (fun _ _ _ _ _ => (jts_one (jt_c (c_eq (room_u hr) (j_ix (room_u hr) (jv 3) j_int) (jv 1))))) (fun _ _ _ _ _ => (j_ix (room_u hr) (jv 3) j_int)) (fun _ _ _ _ _ => j_bl))
  (js_one (js_ret (j_lc (own := [("tray", 4)]) rfl sc_moves_all.nd (ji_it (j_sortedB rfl (B.sorted) (ja_cons (jv 2) ja_nil))) (blkOk_by (own := [("tray", 4)]) (N := ["code", "word", "trays", "act", "tray"]) (sc := defScope (topS 23)) (by decide +kernel)) (fun _ _ _ _ _ => (jg_name (i := 4) sc_moves_all.nd rfl (Or.inl rfl))) (fun _ _ _ _ _ => jts_nil) (fun _ _ _ _ _ => (j_tup (ja_cons (jv 4) (ja_cons (j_call [false, false, false] C_moves hr (ja_cons (jv 0) (ja_cons (jv 1) (ja_cons (jv 4) ja_nil)))) ja_nil))))))))
theorem sc_takes_of : FnScope ["code"] ["code"] (defScope (topS 24)) := ⟨rfl, rfl, rfl, by decide +kernel, rfl, by decide +kernel, by decide +kernel⟩
theorem ok_takes_of {P : Program} {w : World} {K : PySem.W.Frag} {mg : Str → Option Value} {base : Heap} {f : Addr} {fd : FuncData} (c_TAKE : GS ⟨P, w, K, mg⟩ "TAKE" "take") (C_moves_all : Cal P w K mg base "moves_all" 2 ["code", "word"] (spV ⟨P, w, K, mg⟩ 2 w_moves_all)) (F : Fun K "takes_of" "takes_of" (topS 24) f fd) : FnOk P w K mg base CX0 3 f fd ["code"] (spV ⟨P, w, K, mg⟩ 1 w_takes_of) :=
  fn_ok (k := 2) F sc_takes_of (by decide) fun cdv A outer s H E hr => (js_one (js_ret (j_call [false, false] C_moves_all hr (ja_cons (jv 0) (ja_cons (jgs c_TAKE) ja_nil)))))
theorem sc_gives_of : FnScope ["code"] ["code"] (defScope (topS 25)) := ⟨rfl, rfl, rfl, by decide +kernel, rfl, by decide +kernel, by decide +kernel⟩
theorem ok_gives_of {P : Program} {w : World} {K : PySem.W.Frag} {mg : Str → Option Value} {base : Heap} {f : Addr} {fd : FuncData} (c_GIVE : GS ⟨P, w, K, mg⟩ "GIVE" "give") (C_moves_all : Cal P w K mg base "moves_all" 2 ["code", "word"] (spV ⟨P, w, K, mg⟩ 2 w_moves_all)) (F : Fun K "gives_of" "gives_of" (topS 25) f fd) : FnOk P w K mg base CX0 3 f fd ["code"] (spV ⟨P, w, K, mg⟩ 1 w_gives_of) :=
  fn_ok (k := 2) F sc_gives_of (by decide) fun cdv A outer s H E hr => (js_one (js_ret (j_call [false, false] C_moves_all hr (ja_cons (jv 0) (ja_cons (jgs c_GIVE) ja_nil)))))
theorem sc_l_tape : FnScope ["_law_script", "_law_k", "_law_cell"] ["_law_script", "_law_k"] (defScope (topS 27)) := ⟨rfl, rfl, rfl, by decide +kernel, rfl, by decide +kernel, by decide +kernel⟩
theorem ok__law_tape {P : Program} {w : World} {K : PySem.W.Frag} {mg : Str → Option Value} {base : Heap} {f : Addr} {fd : FuncData} (B : Bi mg) (F : Fun K "_law_tape" "_law_tape" (topS 27) f fd) : FnOk P w K mg base CX0 1 f fd ["_law_script", "_law_k"] (spV ⟨P, w, K, mg⟩ 2 w_l_tape) :=
  fn_ok (k := 0) F sc_l_tape (by decide) fun cdv A outer s H E hr => (js_cons (js_set (i := 2) sc_l_tape.nd rfl (Or.inl rfl) (j_ifE (jt_c (c_lt (jv 1) (j_len (B.len) (ja_cons (jv 0) ja_nil)))) (j_ix (room_u hr) (jv 0) (jv 1)) j_int))
  (js_one (js_ret (j_lst (ja_cons (j_mul (j_abs (B.abs) (ja_cons (jv 2) ja_nil)) (j_toint (B.int) (ja_cons (j_c (c_ge (j_abs (B.abs) (ja_cons (jv 2) ja_nil)) (j_pow j_int j_int))) ja_nil))) (ja_cons (j_add (j_add (j_mod (jv 2) j_int) (j_mul j_int (jv 1))) j_int) (ja_cons j_int ja_nil)))))))
theorem sc_l_draw : FnScope ["_law_tape_here", "_law_many", "_law_found", "_law_once", "_law_twice", "_law_wide"] ["_law_tape_here", "_law_many"] (defScope (topS 28)) := ⟨rfl, rfl, rfl, by decide +kernel, rfl, by decide +kernel, by decide +kernel⟩
theorem ok__law_draw {P : Program} {w : World} {K : PySem.W.Frag} {mg : Str → Option Value} {base : Heap} {f : Addr} {fd : FuncData}  (F : Fun K "_law_draw" "_law_draw" (topS 28) f fd) : FnOk P w K mg base CX0 1 f fd ["_law_tape_here", "_law_many"] (spV ⟨P, w, K, mg⟩ 2 w_l_draw) :=
  fn_ok (k := 0) F sc_l_draw (by decide) fun cdv A outer s H E hr => (js_cons (js_if (jt_c (c_gt (j_ix (room_u hr) (jv 0) j_int) j_int))
    (js_cons (js_set (i := 2) sc_l_draw.nd rfl (Or.inl rfl) (j_mod (j_ix (room_u hr) (jv 0) j_int) (jv 1)))
    (js_cons (js_asg (j_div (j_ix (room_u hr) (jv 0) j_int) (jv 1)) (jg_sub (i := 0) (room_u hr) rfl (by first | exact Or.inl rfl | exact Or.inr (Or.inl rfl) | exact Or.inr (Or.inr rfl)) j_int))
    (js_one (js_ret (jv 2)))))
    js_nil)
  (js_cons (js_asg (j_add (j_ix (room_u hr) (jv 0) j_int) j_int) (jg_sub (i := 0) (room_u hr) rfl (by first | exact Or.inl rfl | exact Or.inr (Or.inl rfl) | exact Or.inr (Or.inr rfl)) j_int))
  (js_cons (js_set (i := 3) sc_l_draw.nd rfl (Or.inl rfl) (j_mod (j_pow (j_add (j_ix (room_u hr) (jv 0) j_int) (j_mul j_int (j_ix (room_u hr) (jv 0) j_int))) j_int) j_int))
  (js_cons (js_set (i := 4) sc_l_draw.nd rfl (Or.inl rfl) (j_mod (j_mul (j_add (jv 3) (j_ix (room_u hr) (jv 0) j_int)) (j_add (j_add (j_mod (jv 3) j_int) j_int) (j_ix (room_u hr) (jv 0) j_int))) j_int))
  (js_cons (js_set (i := 5) sc_l_draw.nd rfl (Or.inl rfl) (j_mod (j_add (j_add (j_div (j_ix (room_u hr) (jv 0) j_int) j_int) (j_mul (jv 4) j_int)) (j_ix (room_u hr) (jv 0) j_int)) j_int))
  (js_one (js_ret (j_mod (j_div (j_mod (j_add (j_add (j_mul (jv 4) j_int) (j_mul (jv 5) j_int)) (jv 3)) j_int) j_int) (jv 1)))))))))
theorem sc_l_folded : FnScope ["_law_script", "_law_many", "_law_cells", "_law_k", "_law_cell"] ["_law_script", "_law_many"] (defScope (topS 29)) := ⟨rfl, rfl, rfl, by decide +kernel, rfl, by decide +kernel, by decide +kernel⟩
theorem ok__law_folded {P : Program} {w : World} {K : PySem.W.Frag} {mg : Str → Option Value} {base : Heap} {f : Addr} {fd : FuncData} (B : Bi mg) (F : Fun K "_law_folded" "_law_folded" (topS 29) f fd) : FnOk P w K mg base CX0 1 f fd ["_law_script", "_law_many"] (spV ⟨P, w, K, mg⟩ 2 w_l_folded) :=
  fn_ok (k := 0) F sc_l_folded (by decide) fun cdv A outer s H E hr => (js_cons (js_set (i := 2) sc_l_folded.nd rfl (Or.inl rfl) (j_list (B.list) (ja_cons (j_slice (jv 0) jo_none (jo_some (jv 1))) ja_nil)))
  (js_cons (js_for PassesOwn.never rfl (ji_enum (B.enumerate) (ja_cons (j_slice (jv 0) (jo_some (jv 1)) (jo_some j_int)) ja_nil)) (jg_tup rfl (jgs_cons (jg_name (i := 3) sc_l_folded.nd rfl (Or.inl rfl)) (jgs_cons (jg_name (i := 4) sc_l_folded.nd rfl (Or.inl rfl)) jgs_nil)))
    (js_one (js_asg (j_add (j_ix (room_u hr) (jv 2) (j_mod (jv 3) (jv 1))) (j_mul (jv 4) (j_add (jv 3) j_int))) (jg_sub (i := 2) (room_u hr) rfl (by first | exact Or.inl rfl | exact Or.inr (Or.inl rfl) | exact Or.inr (Or.inr rfl)) (j_mod (jv 3) (jv 1))))))
  (js_one (js_ret (jv 2)))))
theorem sc_l_names : FnScope ["_law_tape_here", "_law_many", "_law_letters", "_law_shift", "_law_stem", "_law_k", "_law_at", "_law_step", "_law_found", "_law_head", "_law_tail", "_law_way", "_law_sign"] ["_law_tape_here", "_law_many"] (defScope (topS 30)) := ⟨rfl, rfl, rfl, by decide +kernel, rfl, by decide +kernel, by decide +kernel⟩
theorem ok__law_names {P : Program} {w : World} {K : PySem.W.Frag} {mg : Str → Option Value} {base : Heap} {f : Addr} {fd : FuncData} (B : Bi mg) (C__law_draw : Cal P w K mg base "_law_draw" 1 ["_law_tape_here", "_law_many"] (spV ⟨P, w, K, mg⟩ 2 w_l_draw)) (F : Fun K "_law_names" "_law_names" (topS 30) f fd) : FnOk P w K mg base CX0 2 f fd ["_law_tape_here", "_law_many"] (spV ⟨P, w, K, mg⟩ 2 w_l_names) :=
  fn_ok (k := 1) F sc_l_names (by decide) fun cdv A outer s H E hr => (js_cons (js_asg (j_tup (ja_cons j_str (ja_cons (j_call [true, false] C__law_draw hr (ja_cons (jv 0) (ja_cons j_int ja_nil))) ja_nil))) (jg_tup rfl (jgs_cons (jg_name (i := 2) sc_l_names.nd rfl (Or.inr rfl)) (jgs_cons (jg_name (i := 3) sc_l_names.nd rfl (Or.inl rfl)) jgs_nil))))
  (js_cons (js_set (i := 4) sc_l_names.nd rfl (Or.inl rfl) (j_join j_str (j_lc (own := [("_law_k", 5)]) rfl sc_l_names.nd (ji_range1 (B.range) (ja_cons (j_call [true, false] C__law_draw hr (ja_cons (jv 0) (ja_cons j_int ja_nil))) ja_nil)) (blkOk_by (own := [("_law_k", 5)]) (N := ["_law_tape_here", "_law_many", "_law_letters", "_law_shift", "_law_stem", "_law_k", "_law_at", "_law_step", "_law_found", "_law_head", "_law_tail", "_law_way", "_law_sign"]) (sc := defScope (topS 30)) (by decide +kernel)) (fun _ _ _ _ _ => (jg_name (i := 5) sc_l_names.nd rfl (Or.inl rfl))) (fun _ _ _ _ _ => jts_nil) (fun _ _ _ _ _ => (j_ix (room_u hr) (jv 2) (j_call [true, false] C__law_draw hr (ja_cons (jv 0) (ja_cons j_int ja_nil))))))))
  (js_cons (js_par3 (i := 6) (j := 7) (l := 8) rfl sc_l_names.nd rfl rfl rfl (by decide) (by decide) (by decide) rfl rfl rfl (ja_cons (j_call [true, false] C__law_draw hr (ja_cons (jv 0) (ja_cons (j_add (j_len (B.len) (ja_cons (jv 4) ja_nil)) j_int) ja_nil))) (ja_cons (j_ix (room_u hr) (j_lst (ja_cons j_int (ja_cons j_int (ja_cons j_int ja_nil)))) (j_call [true, false] C__law_draw hr (ja_cons (jv 0) (ja_cons j_int ja_nil)))) (ja_cons (j_lst ja_nil) ja_nil))) rfl)
  (js_cons (js_par (i := 9) (j := 10) rfl sc_l_names.nd rfl rfl (by decide) rfl rfl (ja_cons (j_slice (jv 4) jo_none (jo_some (jv 6))) (ja_cons (j_slice (jv 4) (jo_some (jv 6)) jo_none) ja_nil)) rfl)
  (js_cons (js_for PassesOwn.never rfl (ji_range1 (B.range) (ja_cons (jv 1) ja_nil)) (jg_name (i := 5) sc_l_names.nd rfl (Or.inl rfl))
    (js_cons (js_set (i := 11) sc_l_names.nd rfl (Or.inl rfl) (j_mul (j_mod (j_add (j_add (jv 3) (jv 6)) (j_len (B.len) (ja_cons (jv 4) ja_nil))) j_int) (j_toint (B.int) (ja_cons (j_c (c_ne (room_u hr) (jv 10) j_str)) ja_nil))))
    (js_cons (js_set (i := 12) sc_l_names.nd rfl (Or.inl rfl) (j_ix (room_u hr) (jv 2) (j_mod (j_add (jv 3) (j_mul (jv 7) (j_ix (room_u hr) (j_lst (ja_cons (jv 5) (ja_cons (j_div (jv 5) j_int) (ja_cons (jv 5) ja_nil)))) (jv 11)))) j_int)))
    (js_one (js_expr (j_meth (i := 8) sim_append mt_append PySem.F.slot_list_append PySem.F.type_list_append rfl (by first | exact Or.inl rfl | exact Or.inr (Or.inl rfl) | exact Or.inr (Or.inr rfl)) (ja_cons (j_add (j_add (jv 9) (jv 12)) (j_ix (room_u hr) (j_lst (ja_cons (jv 10) (ja_cons (j_mul (jv 10) (j_mod (jv 5) j_int)) (ja_cons (j_slice (jv 10) jo_none (jo_some (j_mod (jv 5) (j_add (j_len (B.len) (ja_cons (jv 10) ja_nil)) j_int)))) ja_nil)))) (jv 11))) ja_nil)))))))
  (js_one (js_ret (jv 8))))))))
theorem sc_l_part : FnScope ["_law_tape_here", "_law_some", "_law_many", "_law_left", "_law_k"] ["_law_tape_here", "_law_some", "_law_many"] (defScope (topS 31)) := ⟨rfl, rfl, rfl, by decide +kernel, rfl, by decide +kernel, by decide +kernel⟩
theorem ok__law_part {P : Program} {w : World} {K : PySem.W.Frag} {mg : Str → Option Value} {base : Heap} {f : Addr} {fd : FuncData} (B : Bi mg) (C__law_draw : Cal P w K mg base "_law_draw" 1 ["_law_tape_here", "_law_many"] (spV ⟨P, w, K, mg⟩ 2 w_l_draw)) (F : Fun K "_law_part" "_law_part" (topS 31) f fd) : FnOk P w K mg base CX0 2 f fd ["_law_tape_here", "_law_some", "_law_many"] (spV ⟨P, w, K, mg⟩ 3 w_l_part) :=
  fn_ok (k := 1) F sc_l_part (by decide) fun cdv A outer s H E hr => (js_cons (js_set (i := 3) sc_l_part.nd rfl (Or.inr rfl) (j_list (B.list) (ja_cons (jv 1) ja_nil)))
  (js_one (js_ret (j_lc (own := [("_law_k", 4)]) rfl sc_l_part.nd (ji_range1 (B.range) (ja_cons (jv 2) ja_nil)) (blkOk_by (own := [("_law_k", 4)]) (N := ["_law_tape_here", "_law_some", "_law_many", "_law_left", "_law_k"]) (sc := defScope (topS 31)) (by decide +kernel)) (fun _ _ _ _ _ => (jg_name (i := 4) sc_l_part.nd rfl (Or.inl rfl))) (fun _ _ _ _ _ => jts_nil) (fun _ _ _ _ _ => (j_meth (i := 3) sim_popAt mt_popAt PySem.F.slot_list_pop PySem.F.type_list_pop rfl (by first | exact Or.inl rfl | exact Or.inr (Or.inl rfl) | exact Or.inr (Or.inr rfl)) (ja_cons (j_call [true, false] C__law_draw hr (ja_cons (jv 0) (ja_cons (j_len (B.len) (ja_cons (jv 3) ja_nil)) ja_nil))) ja_nil)))))))
theorem sc_l_same : FnScope ["_law_found", "_law_due", "_law_one", "_law_other"] ["_law_found", "_law_due"] (defScope (topS 32)) := ⟨rfl, rfl, rfl, by decide +kernel, rfl, by decide +kernel, by decide +kernel⟩
theorem ok__law_same {P : Program} {w : World} {K : PySem.W.Frag} {mg : Str → Option Value} {base : Heap} {f : Addr} {fd : FuncData} (B : Bi mg) (F : Fun K "_law_same" "_law_same" (topS 32) f fd) (g : mg "_law_same" = some (.ref f)) (kp : PySem.W.keepIn K (.ref f) = true) (b : Binds K fd ["_law_found", "_law_due"] []) : ∀ n, FnOk P w K mg base CX0 (1 + n) f fd ["_law_found", "_law_due"] (spV ⟨P, w, K, mg⟩ 2 (w_l_same n))
  | 0 => ok_never rfl
  | n + 1 =>
    have C__law_same : Cal P w K mg base "_law_same" (1 + n) ["_law_found", "_law_due"] (spV ⟨P, w, K, mg⟩ 2 (w_l_same n)) := ⟨_, _, ok__law_same B F g kp b n, g, kp, b⟩
    fn_ok (k := 1 + n) F sc_l_same (by decide) fun cdv A outer s H E hr => (js_cons (js_if (jt_val (j_isi2 (B.isinstance) B.list B.tuple (by decide) (by decide) PyProof.Rows.boot_list PyProof.Rows.boot_tuple (jv 1)))
    (js_cons (js_if (jt_w (jw_or (jt_c (c_ne (room_u hr) (j_isi (B.isinstance) B.list (by decide) PyProof.Rows.boot_list (jv 0)) (j_isi (B.isinstance) B.list (by decide) PyProof.Rows.boot_list (jv 1)))) (jw_or1 (jt_c (c_ne (room_u hr) (j_isi (B.isinstance) B.tuple (by decide) PyProof.Rows.boot_tuple (jv 0)) (j_isi (B.isinstance) B.tuple (by decide) PyProof.Rows.boot_tuple (jv 1)))))))
      (js_one (js_ret j_bl))
      js_nil)
    (js_one (js_ret (j_and (j_c (c_eq (room_u hr) (j_len (B.len) (ja_cons (jv 0) ja_nil)) (j_len (B.len) (ja_cons (jv 1) ja_nil)))) (j_one (j_all rfl (B.all) (ja_cons (j_lc (own := [("_law_one", 2), ("_law_other", 3)]) rfl sc_l_same.nd (ji_zip (B.zip) (ja_cons (jv 0) (ja_cons (jv 1) ja_nil))) (blkOk_by (own := [("_law_one", 2), ("_law_other", 3)]) (N := ["_law_found", "_law_due", "_law_one", "_law_other"]) (sc := defScope (topS 32)) (by decide +kernel)) (fun _ _ _ _ _ => (jg_tup rfl (jgs_cons (jg_name (i := 2) sc_l_same.nd rfl (Or.inl rfl)) (jgs_cons (jg_name (i := 3) sc_l_same.nd rfl (Or.inl rfl)) jgs_nil)))) (fun _ _ _ _ _ => jts_nil) (fun _ _ _ _ _ => (j_call [false, false] C__law_same hr (ja_cons (jv 2) (ja_cons (jv 3) ja_nil)) (hk := Nat.le_refl _)))) ja_nil)))))))
    js_nil)
  (js_cons (js_if (jt_w (jw_or (jt_c (c_is (jv 1) j_non)) (jw_or1 (jt_val (j_isi2 (B.isinstance) B.str B.bool (by decide) (by decide) PyProof.Rows.boot_str PyProof.Rows.boot_bool (jv 1))))))
    (js_one (js_ret (j_and (j_c (c_eq (room_u hr) (j_isi (B.isinstance) B.bool (by decide) PyProof.Rows.boot_bool (jv 0)) (j_isi (B.isinstance) B.bool (by decide) PyProof.Rows.boot_bool (jv 1)))) (j_one (j_c (c_eq (room_u hr) (jv 0) (jv 1)))))))
    js_nil)
  (js_one (js_ret (j_and (j_isi (B.isinstance) B.int (by decide) PyProof.Rows.boot_int (jv 0)) (j_and (j_not (j_isi (B.isinstance) B.bool (by decide) PyProof.Rows.boot_bool (jv 0))) (j_one (j_c (c_eq (room_u hr) (jv 0) (jv 1))))))))))
def w_l_cases : WF := fnW 8 2 [2, 3, 4, 5, 6, 7, 4, 5, 5, 5, 5, 5, 5, 3, 5, 5] (wSeq (wAsg (wLst (wCons (wTup (wCons (wTup (wCons (wC (.str "take")) (wCons (wVar 0) wNil))) (wCons (wC (.int 0)) wNil))) (wCons (wTup (wCons (wTup (wCons (wC (.str "give")) (wCons (wVar 0) wNil))) (wCons (wC (.int 1)) wNil))) (wCons (wTup (wCons (wTup (wCons (wC (.str "number")) (wCons (wVar 1) wNil))) (wCons (wC (.int 0)) wNil))) (wCons (wTup (wCons (wTup (wCons (wC (.str "keep")) (wCons (wC (.int 3)) wNil))) (wCons (wC (.int 1)) wNil))) (wCons (wTup (wCons (wTup (wCons (wC (.str "kept")) (wCons (wC (.int 0)) wNil))) (wCons (wC (.int 0)) wNil))) wNil)))))) (bindV 2))
  (wSeq (wFor (wIt (wTup (wCons (wTup (wCons (wC (.str "plus")) (wCons (wC (.int 2)) wNil))) (wCons (wTup (wCons (wC (.str "less")) (wCons (wC (.int 2)) wNil))) (wCons (wTup (wCons (wC (.str "times")) (wCons (wC (.int 2)) wNil))) (wCons (wTup (wCons (wC (.str "below")) (wCons (wC (.int 2)) wNil))) (wCons (wTup (wCons (wC (.str "twice")) (wCons (wC (.int 1)) wNil))) (wCons (wTup (wCons (wC (.str "swap")) (wCons (wC (.int 2)) wNil))) (wCons (wTup (wCons (wC (.str "drop")) (wCons (wC (.int 1)) wNil))) wNil))))))))) (wgTup 2 (wgCons (bindV 3) (wgCons (bindV 4) wgNil)))
    (wDrop (wMeth 2 fAppend (wCons (wTup (wCons (wTup (wCons (wVar 3) wNil)) (wCons (wVar 4) wNil))) wNil))))
  (wSeq (wPar [5, 6] (wCons (wLst (wCons (wTup (wCons (wTup wNil) (wCons (wC (.bl true)) wNil))) (wCons (wTup (wCons (wLst wNil) (wCons (wC (.bl false)) wNil))) (wCons (wTup (wCons (wC .non) (wCons (wC (.bl false)) wNil))) (wCons (wTup (wCons (wC (.str "take")) (wCons (wC (.bl false)) wNil))) wNil))))) (wCons (wTup (wCons (wTup (wCons (wC (.str "number")) (wCons (wC (.int 0)) wNil))) wNil)) wNil)))
  (wSeq (wFor (wIt (wOp fAdd (wVar 2) (wLst (wCons (wTup (wCons (wTup (wCons (wC (.str "pick")) wNil)) (wCons (wC (.int 3)) wNil))) wNil)))) (wgTup 2 (wgCons (bindV 7) (wgCons (bindV 4) wgNil)))
    (wSeq (wDrop (wMeth 5 fAppend (wCons (wTup (wCons (wOp fAdd (wOp fMul (wVar 6) (wVar 4)) (wFrz (wTup (wCons (wVar 7) wNil)))) (wCons (wC (.bl true)) wNil))) wNil)))
    (wSeq (wIf (wTest (wOp fGtA (wVar 4) (wC (.int 0))))
      (wDrop (wMeth 5 fAppend (wCons (wTup (wCons (wOp fAdd (wOp fMul (wVar 6) (wOp fSub (wVar 4) (wC (.int 1)))) (wFrz (wTup (wCons (wVar 7) wNil)))) (wCons (wC (.bl false)) wNil))) wNil)))
      wNext)
    (wSeq (wAsg (wOp fAdd (wVar 5) (wLst (wCons (wTup (wCons (wOp fAdd (wOp fMul (wVar 6) (wC (.int 3))) (wFrz (wTup (wCons (wOp fAdd (wVar 7) (wFrz (wTup (wCons (wC (.str "a")) wNil)))) wNil)))) (wCons (wC (.bl false)) wNil))) (wCons (wTup (wCons (wOp fAdd (wOp fMul (wVar 6) (wC (.int 3))) (wFrz (wTup (wCons (wCB (f1 fListA) (wCons (wVar 7) wNil)) wNil)))) (wCons (wC (.bl false)) wNil))) wNil)))) (bindV 5))
    (wSeq (wDrop (wMeth 5 fAppend (wCons (wTup (wCons (wCB (f1 fListA) (wCons (wOp fAdd (wOp fMul (wVar 6) (wC (.int 3))) (wFrz (wTup (wCons (wVar 7) wNil)))) wNil)) (wCons (wC (.bl false)) wNil))) wNil)))
    (wIf (wTest (wOp fGtA (wCB (f1 fLen) (wCons (wVar 7) wNil)) (wC (.int 1))))
      (wAsg (wOp fAdd (wVar 5) (wLst (wCons (wTup (wCons (wOp fAdd (wOp fMul (wVar 6) (wC (.int 3))) (wFrz (wTup (wCons (wSl (wVar 7) wNoPart (wPart (wC (.int 1)))) wNil)))) (wCons (wC (.bl false)) wNil))) (wCons (wTup (wCons (wOp fAdd (wOp fMul (wVar 6) (wC (.int 3))) (wFrz (wTup (wCons (wOp fAdd (wSl (wVar 7) wNoPart (wPart (wC (.int 1)))) (wFrz (wTup (wCons (wC .non) wNil)))) wNil)))) (wCons (wC (.bl false)) wNil))) wNil)))) (bindV 5))
      wNext))))))
  (wSeq (wAsg (wOp fAdd (wVar 5) (wLst (wCons (wTup (wCons (wOp fMul (wVar 6) (wC (.int 24))) (wCons (wC (.bl true)) wNil))) (wCons (wTup (wCons (wOp fMul (wVar 6) (wC (.int 25))) (wCons (wC (.bl false)) wNil))) (wCons (wTup (wCons (wOp fAdd (wOp fMul (wVar 6) (wC (.int 23))) (wFrz (wTup (wCons (wTup (wCons (wC (.str "pick")) wNil)) wNil)))) (wCons (wC (.bl true)) wNil))) wNil))))) (bindV 5))
  (wSeq (wAsg (wOp fAdd (wVar 5) (wLst (wCons (wTup (wCons (wTup (wCons (wTup (wCons (wC (.str "number")) (wCons (wOp fSub (wOp fPow (wC (.int 10)) (wC (.int 6))) (wC (.int 1))) wNil))) wNil)) (wCons (wC (.bl true)) wNil))) (wCons (wTup (wCons (wTup (wCons (wTup (wCons (wC (.str "number")) (wCons (wOp fPow (wC (.int 10)) (wC (.int 6))) wNil))) wNil)) (wCons (wC (.bl false)) wNil))) (wCons (wTup (wCons (wTup (wCons (wTup (wCons (wC (.str "number")) (wCons (wNeg (wC (.int 1))) wNil))) wNil)) (wCons (wC (.bl false)) wNil))) wNil))))) (bindV 5))
  (wSeq (wAsg (wOp fAdd (wVar 5) (wLst (wCons (wTup (wCons (wTup (wCons (wTup (wCons (wC (.str "number")) (wCons (wC (.bl true)) wNil))) wNil)) (wCons (wC (.bl false)) wNil))) (wCons (wTup (wCons (wTup (wCons (wTup (wCons (wC (.str "kept")) (wCons (wC (.int 3)) wNil))) wNil)) (wCons (wC (.bl true)) wNil))) (wCons (wTup (wCons (wTup (wCons (wTup (wCons (wC (.str "kept")) (wCons (wC (.int 4)) wNil))) wNil)) (wCons (wC (.bl false)) wNil))) wNil))))) (bindV 5))
  (wSeq (wAsg (wOp fAdd (wVar 5) (wLst (wCons (wTup (wCons (wOp fAdd (wVar 6) (wFrz (wTup (wCons (wTup (wCons (wC (.str "keep")) (wCons (wC (.int 4)) wNil))) wNil)))) (wCons (wC (.bl false)) wNil))) (wCons (wTup (wCons (wOp fAdd (wVar 6) (wFrz (wTup (wCons (wTup (wCons (wC (.str "keep")) (wCons (wNeg (wC (.int 1))) wNil))) wNil)))) (wCons (wC (.bl false)) wNil))) (wCons (wTup (wCons (wOp fAdd (wVar 6) (wFrz (wTup (wCons (wTup (wCons (wC (.str "keep")) (wCons (wC (.bl true)) wNil))) wNil)))) (wCons (wC (.bl false)) wNil))) wNil))))) (bindV 5))
  (wSeq (wFor (wIt (wTup (wCons (wC (.str "")) (wCons (wC (.str "A")) (wCons (wC (.str "abcdefghi")) (wCons (wC (.str "a b")) (wCons (wC .non) (wCons (wC (.int 3)) wNil)))))))) (bindV 3)
    (wDrop (wMeth 5 fAppend (wCons (wTup (wCons (wOp fAdd (wVar 6) (wFrz (wTup (wCons (wTup (wCons (wC (.str "give")) (wCons (wVar 3) wNil))) wNil)))) (wCons (wC (.bl false)) wNil))) wNil))))
  (wSeq (wDrop (wMeth 5 fAppend (wCons (wTup (wCons (wOp fAdd (wVar 6) (wFrz (wTup (wCons (wTup (wCons (wC (.str "give")) (wCons (wC (.str "abcdefgh")) wNil))) wNil)))) (wCons (wC (.bl true)) wNil))) wNil)))
  (wSeq (wAsg (wOp fAdd (wVar 5) (wLst (wCons (wTup (wCons (wTup (wCons (wTup (wCons (wC (.str "kept")) (wCons (wC (.bl false)) wNil))) wNil)) (wCons (wC (.bl false)) wNil))) (wCons (wTup (wCons (wTup (wCons (wTup (wCons (wC (.str "take")) (wCons (wC (.str "abcdefgh")) wNil))) wNil)) (wCons (wC (.bl true)) wNil))) (wCons (wTup (wCons (wTup (wCons (wTup (wCons (wC (.str "take")) (wCons (wC (.str "abcdefghi")) wNil))) wNil)) (wCons (wC (.bl false)) wNil))) wNil))))) (bindV 5))
  (wSeq (wAsg (wOp fAdd (wVar 5) (wLst (wCons (wTup (wCons (wTup (wCons (wTup (wCons (wC (.str "take")) (wCons (wC (.str "")) wNil))) wNil)) (wCons (wC (.bl false)) wNil))) (wCons (wTup (wCons (wTup (wCons (wTup (wCons (wC (.str "take")) (wCons (wC (.str "A")) wNil))) wNil)) (wCons (wC (.bl false)) wNil))) (wCons (wTup (wCons (wTup (wCons (wTup (wCons (wC (.str "put")) (wCons (wC (.str "a")) wNil))) wNil)) (wCons (wC (.bl false)) wNil))) (wCons (wTup (wCons (wTup (wCons (wTup wNil) wNil)) (wCons (wC (.bl false)) wNil))) wNil)))))) (bindV 5))
  (wRet (wVar 5))))))))))))))
theorem sc_l_cases : FnScope ["_law_name", "_law_number", "_law_acts", "_law_word", "_law_lacks", "_law_found", "_law_pile", "_law_act"] ["_law_name", "_law_number"] (defScope (topS 33)) := ⟨rfl, rfl, rfl, by decide +kernel, rfl, by decide +kernel, by decide +kernel⟩
theorem ok__law_cases {P : Program} {w : World} {K : PySem.W.Frag} {mg : Str → Option Value} {base : Heap} {f : Addr} {fd : FuncData} (B : Bi mg) (F : Fun K "_law_cases" "_law_cases" (topS 33) f fd) : FnOk P w K mg base CX0 1 f fd ["_law_name", "_law_number"] (spV ⟨P, w, K, mg⟩ 2 w_l_cases) :=
  fn_ok (k := 0) F sc_l_cases (by decide) fun cdv A outer s H E hr => (js_cons (js_set (i := 2) sc_l_cases.nd rfl (Or.inl rfl) (j_lst (ja_cons (j_tup (ja_cons (j_tup (ja_cons j_str (ja_cons (jv 0) ja_nil))) (ja_cons j_int ja_nil))) (ja_cons (j_tup (ja_cons (j_tup (ja_cons j_str (ja_cons (jv 0) ja_nil))) (ja_cons j_int ja_nil))) (ja_cons (j_tup (ja_cons (j_tup (ja_cons j_str (ja_cons (jv 1) ja_nil))) (ja_cons j_int ja_nil))) (ja_cons (j_tup (ja_cons (j_tup (ja_cons j_str (ja_cons j_int ja_nil))) (ja_cons j_int ja_nil))) (ja_cons (j_tup (ja_cons (j_tup (ja_cons j_str (ja_cons j_int ja_nil))) (ja_cons j_int ja_nil))) ja_nil)))))))
  (js_cons (js_for PassesOwn.never rfl (ji_it (j_tup (ja_cons (j_tup (ja_cons j_str (ja_cons j_int ja_nil))) (ja_cons (j_tup (ja_cons j_str (ja_cons j_int ja_nil))) (ja_cons (j_tup (ja_cons j_str (ja_cons j_int ja_nil))) (ja_cons (j_tup (ja_cons j_str (ja_cons j_int ja_nil))) (ja_cons (j_tup (ja_cons j_str (ja_cons j_int ja_nil))) (ja_cons (j_tup (ja_cons j_str (ja_cons j_int ja_nil))) (ja_cons (j_tup (ja_cons j_str (ja_cons j_int ja_nil))) ja_nil))))))))) (jg_tup rfl (jgs_cons (jg_name (i := 3) sc_l_cases.nd rfl (Or.inl rfl)) (jgs_cons (jg_name (i := 4) sc_l_cases.nd rfl (Or.inl rfl)) jgs_nil)))
    (js_one (js_expr (j_meth (i := 2) sim_append mt_append PySem.F.slot_list_append PySem.F.type_list_append rfl (by first | exact Or.inl rfl | exact Or.inr (Or.inl rfl) | exact Or.inr (Or.inr rfl)) (ja_cons (j_tup (ja_cons (j_tup (ja_cons (jv 3) ja_nil)) (ja_cons (jv 4) ja_nil))) ja_nil)))))
  (js_cons (js_par (i := 5) (j := 6) rfl sc_l_cases.nd rfl rfl (by decide) rfl rfl (ja_cons (j_lst (ja_cons (j_tup (ja_cons (j_tup ja_nil) (ja_cons j_bl ja_nil))) (ja_cons (j_tup (ja_cons (j_lst ja_nil) (ja_cons j_bl ja_nil))) (ja_cons (j_tup (ja_cons j_non (ja_cons j_bl ja_nil))) (ja_cons (j_tup (ja_cons j_str (ja_cons j_bl ja_nil))) ja_nil))))) (ja_cons (j_tup (ja_cons (j_tup (ja_cons j_str (ja_cons j_int ja_nil))) ja_nil)) ja_nil)) rfl)
  (js_cons (js_for PassesOwn.never rfl (ji_it (j_add (jv 2) (j_lst (ja_cons (j_tup (ja_cons (j_tup (ja_cons j_str ja_nil)) (ja_cons j_int ja_nil))) ja_nil)))) (jg_tup rfl (jgs_cons (jg_name (i := 7) sc_l_cases.nd rfl (Or.inl rfl)) (jgs_cons (jg_name (i := 4) sc_l_cases.nd rfl (Or.inl rfl)) jgs_nil)))
    (js_cons (js_expr (j_meth (i := 5) sim_append mt_append PySem.F.slot_list_append PySem.F.type_list_append rfl (by first | exact Or.inl rfl | exact Or.inr (Or.inl rfl) | exact Or.inr (Or.inr rfl)) (ja_cons (j_tup (ja_cons (j_add (j_mul (jv 6) (jv 4)) (j_frz (j_tup (ja_cons (jv 7) ja_nil)))) (ja_cons j_bl ja_nil))) ja_nil)))
    (js_cons (js_if (jt_c (c_gt (jv 4) j_int))
      (js_one (js_expr (j_meth (i := 5) sim_append mt_append PySem.F.slot_list_append PySem.F.type_list_append rfl (by first | exact Or.inl rfl | exact Or.inr (Or.inl rfl) | exact Or.inr (Or.inr rfl)) (ja_cons (j_tup (ja_cons (j_add (j_mul (jv 6) (j_sub (jv 4) j_int)) (j_frz (j_tup (ja_cons (jv 7) ja_nil)))) (ja_cons j_bl ja_nil))) ja_nil))))
      js_nil)
    (js_cons (js_set (i := 5) sc_l_cases.nd rfl (Or.inl rfl) (j_add (jv 5) (j_lst (ja_cons (j_tup (ja_cons (j_add (j_mul (jv 6) j_int) (j_frz (j_tup (ja_cons (j_add (jv 7) (j_frz (j_tup (ja_cons j_str ja_nil)))) ja_nil)))) (ja_cons j_bl ja_nil))) (ja_cons (j_tup (ja_cons (j_add (j_mul (jv 6) j_int) (j_frz (j_tup (ja_cons (j_list (B.list) (ja_cons (jv 7) ja_nil)) ja_nil)))) (ja_cons j_bl ja_nil))) ja_nil)))))
    (js_cons (js_expr (j_meth (i := 5) sim_append mt_append PySem.F.slot_list_append PySem.F.type_list_append rfl (by first | exact Or.inl rfl | exact Or.inr (Or.inl rfl) | exact Or.inr (Or.inr rfl)) (ja_cons (j_tup (ja_cons (j_list (B.list) (ja_cons (j_add (j_mul (jv 6) j_int) (j_frz (j_tup (ja_cons (jv 7) ja_nil)))) ja_nil)) (ja_cons j_bl ja_nil))) ja_nil)))
    (js_one (js_if (jt_c (c_gt (j_len (B.len) (ja_cons (jv 7) ja_nil)) j_int))
      (js_one (js_set (i := 5) sc_l_cases.nd rfl (Or.inl rfl) (j_add (jv 5) (j_lst (ja_cons (j_tup (ja_cons (j_add (j_mul (jv 6) j_int) (j_frz (j_tup (ja_cons (j_slice (jv 7) jo_none (jo_some j_int)) ja_nil)))) (ja_cons j_bl ja_nil))) (ja_cons (j_tup (ja_cons (j_add (j_mul (jv 6) j_int) (j_frz (j_tup (ja_cons (j_add (j_slice (jv 7) jo_none (jo_some j_int)) (j_frz (j_tup (ja_cons j_non ja_nil)))) ja_nil)))) (ja_cons j_bl ja_nil))) ja_nil))))))
      js_nil)))))))
  (js_cons (js_set (i := 5) sc_l_cases.nd rfl (Or.inl rfl) (j_add (jv 5) (j_lst (ja_cons (j_tup (ja_cons (j_mul (jv 6) j_int) (ja_cons j_bl ja_nil))) (ja_cons (j_tup (ja_cons (j_mul (jv 6) j_int) (ja_cons j_bl ja_nil))) (ja_cons (j_tup (ja_cons (j_add (j_mul (jv 6) j_int) (j_frz (j_tup (ja_cons (j_tup (ja_cons j_str ja_nil)) ja_nil)))) (ja_cons j_bl ja_nil))) ja_nil))))))
  (js_cons (js_set (i := 5) sc_l_cases.nd rfl (Or.inl rfl) (j_add (jv 5) (j_lst (ja_cons (j_tup (ja_cons (j_tup (ja_cons (j_tup (ja_cons j_str (ja_cons (j_sub (j_pow j_int j_int) j_int) ja_nil))) ja_nil)) (ja_cons j_bl ja_nil))) (ja_cons (j_tup (ja_cons (j_tup (ja_cons (j_tup (ja_cons j_str (ja_cons (j_pow j_int j_int) ja_nil))) ja_nil)) (ja_cons j_bl ja_nil))) (ja_cons (j_tup (ja_cons (j_tup (ja_cons (j_tup (ja_cons j_str (ja_cons (j_neg j_int) ja_nil))) ja_nil)) (ja_cons j_bl ja_nil))) ja_nil))))))
  (js_cons (js_set (i := 5) sc_l_cases.nd rfl (Or.inl rfl) (j_add (jv 5) (j_lst (ja_cons (j_tup (ja_cons (j_tup (ja_cons (j_tup (ja_cons j_str (ja_cons j_bl ja_nil))) ja_nil)) (ja_cons j_bl ja_nil))) (ja_cons (j_tup (ja_cons (j_tup (ja_cons (j_tup (ja_cons j_str (ja_cons j_int ja_nil))) ja_nil)) (ja_cons j_bl ja_nil))) (ja_cons (j_tup (ja_cons (j_tup (ja_cons (j_tup (ja_cons j_str (ja_cons j_int ja_nil))) ja_nil)) (ja_cons j_bl ja_nil))) ja_nil))))))
  (js_cons (js_set (i := 5) sc_l_cases.nd rfl (Or.inl rfl) (j_add (jv 5) (j_lst (ja_cons (j_tup (ja_cons (j_add (jv 6) (j_frz (j_tup (ja_cons (j_tup (ja_cons j_str (ja_cons j_int ja_nil))) ja_nil)))) (ja_cons j_bl ja_nil))) (ja_cons (j_tup (ja_cons (j_add (jv 6) (j_frz (j_tup (ja_cons (j_tup (ja_cons j_str (ja_cons (j_neg j_int) ja_nil))) ja_nil)))) (ja_cons j_bl ja_nil))) (ja_cons (j_tup (ja_cons (j_add (jv 6) (j_frz (j_tup (ja_cons (j_tup (ja_cons j_str (ja_cons j_bl ja_nil))) ja_nil)))) (ja_cons j_bl ja_nil))) ja_nil))))))
  (js_cons (js_for PassesOwn.never rfl (ji_it (j_tup (ja_cons j_str (ja_cons j_str (ja_cons j_str (ja_cons j_str (ja_cons j_non (ja_cons j_int ja_nil)))))))) (jg_name (i := 3) sc_l_cases.nd rfl (Or.inl rfl))
    (js_one (js_expr (j_meth (i := 5) sim_append mt_append PySem.F.slot_list_append PySem.F.type_list_append rfl (by first | exact Or.inl rfl | exact Or.inr (Or.inl rfl) | exact Or.inr (Or.inr rfl)) (ja_cons (j_tup (ja_cons (j_add (jv 6) (j_frz (j_tup (ja_cons (j_tup (ja_cons j_str (ja_cons (jv 3) ja_nil))) ja_nil)))) (ja_cons j_bl ja_nil))) ja_nil)))))
  (js_cons (js_expr (j_meth (i := 5) sim_append mt_append PySem.F.slot_list_append PySem.F.type_list_append rfl (by first | exact Or.inl rfl | exact Or.inr (Or.inl rfl) | exact Or.inr (Or.inr rfl)) (ja_cons (j_tup (ja_cons (j_add (jv 6) (j_frz (j_tup (ja_cons (j_tup (ja_cons j_str (ja_cons j_str ja_nil))) ja_nil)))) (ja_cons j_bl ja_nil))) ja_nil)))
  (js_cons (js_set (i := 5) sc_l_cases.nd rfl (Or.inl rfl) (j_add (jv 5) (j_lst (ja_cons (j_tup (ja_cons (j_tup (ja_cons (j_tup (ja_cons j_str (ja_cons j_bl ja_nil))) ja_nil)) (ja_cons j_bl ja_nil))) (ja_cons (j_tup (ja_cons (j_tup (ja_cons (j_tup (ja_cons j_str (ja_cons j_str ja_nil))) ja_nil)) (ja_cons j_bl ja_nil))) (ja_cons (j_tup (ja_cons (j_tup (ja_cons (j_tup (ja_cons j_str (ja_cons j_str ja_nil))) ja_nil)) (ja_cons j_bl ja_nil))) ja_nil))))))
  (js_cons (js_set (i := 5) sc_l_cases.nd rfl (Or.inl rfl) (j_add (jv 5) (j_lst (ja_cons (j_tup (ja_cons (j_tup (ja_cons (j_tup (ja_cons j_str (ja_cons j_str ja_nil))) ja_nil)) (ja_cons j_bl ja_nil))) (ja_cons (j_tup (ja_cons (j_tup (ja_cons (j_tup (ja_cons j_str (ja_cons j_str ja_nil))) ja_nil)) (ja_cons j_bl ja_nil))) (ja_cons (j_tup (ja_cons (j_tup (ja_cons (j_tup (ja_cons j_str (ja_cons j_str ja_nil))) ja_nil)) (ja_cons j_bl ja_nil))) (ja_cons (j_tup (ja_cons (j_tup (ja_cons (j_tup ja_nil) ja_nil)) (ja_cons j_bl ja_nil))) ja_nil)))))))
  (js_one (js_ret (jv 5)))))))))))))))
def w_l_moves_right : WF := fnW 6 3 [3, 3, 4, 5] (wSeq (wAsg (wTup (wCons (wTup (wCons (wC (.str "take")) (wCons (wVar 0) wNil))) (wCons (wTup (wCons (wC (.str "take")) (wCons (wVar 1) wNil))) (wCons (wTup (wCons (wC (.str "take")) (wCons (wVar 0) wNil))) (wCons (wTup (wCons (wC (.str "give")) (wCons (wVar 0) wNil))) (wCons (wTup (wCons (wC (.str "number")) (wCons (wVar 2) wNil))) (wCons (wTup (wCons (wC (.str "give")) (wCons (wVar 1) wNil))) wNil))))))) (bindV 3))
  (wSeq (wAsg (wOp fAdd (wVar 3) (wFrz (wTup (wCons (wTup (wCons (wC (.str "give")) (wCons (wVar 1) wNil))) (wCons (wTup (wCons (wC (.str "drop")) wNil)) wNil))))) (bindV 3))
  (wSeq (wPar [4, 5] (wCons (wCB (f1 fSortedB) (wCons (wLst (wCons (wTup (wCons (wVar 0) (wCons (wC (.int 2)) wNil))) (wCons (wTup (wCons (wVar 1) (wCons (wC (.int 1)) wNil))) wNil))) wNil)) (wCons (wCB (f1 fSortedB) (wCons (wLst (wCons (wTup (wCons (wVar 0) (wCons (wC (.int 1)) wNil))) (wCons (wTup (wCons (wVar 1) (wCons (wC (.int 2)) wNil))) wNil))) wNil)) wNil)))
  (wRet (wCall 2 [false, false] (w_l_same 6) (wCons (wLst (wCons (wCall 1 [false] w_is_code (wCons (wVar 3) wNil)) (wCons (wCall 1 [false] w_takes_of (wCons (wVar 3) wNil)) (wCons (wCall 1 [false] w_gives_of (wCons (wVar 3) wNil)) wNil)))) (wCons (wLst (wCons (wC (.bl true)) (wCons (wVar 4) (wCons (wVar 5) wNil)))) wNil)))))))
theorem sc_l_moves_right : FnScope ["_law_name", "_law_other", "_law_number", "_law_a_code", "_law_takes", "_law_gives"] ["_law_name", "_law_other", "_law_number"] (defScope (topS 34)) := ⟨rfl, rfl, rfl, by decide +kernel, rfl, by decide +kernel, by decide +kernel⟩
theorem ok__law_moves_right {P : Program} {w : World} {K : PySem.W.Frag} {mg : Str → Option Value} {base : Heap} {f : Addr} {fd : FuncData} (B : Bi mg) (C_gives_of : Cal P w K mg base "gives_of" 3 ["code"] (spV ⟨P, w, K, mg⟩ 1 w_gives_of)) (C_takes_of : Cal P w K mg base "takes_of" 3 ["code"] (spV ⟨P, w, K, mg⟩ 1 w_takes_of)) (C_is_code : Cal P w K mg base "is_code" 5 ["thing"] (spV ⟨P, w, K, mg⟩ 1 w_is_code)) (C__law_same : Cal P w K mg base "_law_same" 7 ["_law_found", "_law_due"] (spV ⟨P, w, K, mg⟩ 2 (w_l_same 6))) (F : Fun K "_law_moves_right" "_law_moves_right" (topS 34) f fd) : FnOk P w K mg base CX0 8 f fd ["_law_name", "_law_other", "_law_number"] (spV ⟨P, w, K, mg⟩ 3 w_l_moves_right) :=
  fn_ok (k := 7) F sc_l_moves_right (by decide) fun cdv A outer s H E hr => (js_cons (js_set (i := 3) sc_l_moves_right.nd rfl (Or.inl rfl) (j_tup (ja_cons (j_tup (ja_cons j_str (ja_cons (jv 0) ja_nil))) (ja_cons (j_tup (ja_cons j_str (ja_cons (jv 1) ja_nil))) (ja_cons (j_tup (ja_cons j_str (ja_cons (jv 0) ja_nil))) (ja_cons (j_tup (ja_cons j_str (ja_cons (jv 0) ja_nil))) (ja_cons (j_tup (ja_cons j_str (ja_cons (jv 2) ja_nil))) (ja_cons (j_tup (ja_cons j_str (ja_cons (jv 1) ja_nil))) ja_nil))))))))
  (js_cons (js_set (i := 3) sc_l_moves_right.nd rfl (Or.inl rfl) (j_add (jv 3) (j_frz (j_tup (ja_cons (j_tup (ja_cons j_str (ja_cons (jv 1) ja_nil))) (ja_cons (j_tup (ja_cons j_str ja_nil)) ja_nil))))))
  (js_cons (js_par (i := 4) (j := 5) rfl sc_l_moves_right.nd rfl rfl (by decide) rfl rfl (ja_cons (j_sortedB rfl (B.sorted) (ja_cons (j_lst (ja_cons (j_tup (ja_cons (jv 0) (ja_cons j_int ja_nil))) (ja_cons (j_tup (ja_cons (jv 1) (ja_cons j_int ja_nil))) ja_nil))) ja_nil)) (ja_cons (j_sortedB rfl (B.sorted) (ja_cons (j_lst (ja_cons (j_tup (ja_cons (jv 0) (ja_cons j_int ja_nil))) (ja_cons (j_tup (ja_cons (jv 1) (ja_cons j_int ja_nil))) ja_nil))) ja_nil)) ja_nil)) rfl)
  (js_one (js_ret (j_call [false, false] C__law_same hr (ja_cons (j_lst (ja_cons (j_call [false] C_is_code hr (ja_cons (jv 3) ja_nil)) (ja_cons (j_call [false] C_takes_of hr (ja_cons (jv 3) ja_nil)) (ja_cons (j_call [false] C_gives_of hr (ja_cons (jv 3) ja_nil)) ja_nil)))) (ja_cons (j_lst (ja_cons j_bl (ja_cons (jv 4) (ja_cons (jv 5) ja_nil)))) ja_nil))))))))
def w_law : WF := fnW 9 1 [1, 2, 3, 4, 5, 6, 7, 8] (wSeq (wAsg (wIfE (wTest (wOp (fEq true) (wVar 0) (wLst wNil))) (wCall 2 [false, false] w_l_folded (wCons (wVar 0) (wCons (wC (.int 4)) wNil))) (wLst (wCons (wC (.int 0)) wNil))) (bindV 1))
  (wSeq (wFor (wRange1 (wCons (wCB (f1 fLen) (wCons (wVar 1) wNil)) wNil)) (bindV 2)
    (wSeq (wAsg (wCall 2 [false, false] w_l_tape (wCons (wVar 1) (wCons (wVar 2) wNil))) (bindV 3))
    (wSeq (wAsg (wCall 2 [true, false] w_l_names (wCons (wVar 3) (wCons (wC (.int 2)) wNil))) (wgTup 2 (wgCons (bindV 4) (wgCons (bindV 5) wgNil))))
    (wSeq (wAsg (wCall 2 [false, false] w_l_cases (wCons (wVar 4) (wCons (wCall 2 [true, false] w_l_draw (wCons (wVar 3) (wCons (wOp fPow (wC (.int 10)) (wC (.int 6))) wNil))) wNil))) (bindV 6))
    (wSeq (wFor (wIt (wCall 3 [true, false, false] w_l_part (wCons (wVar 3) (wCons (wVar 6) (wCons (wCB (f1 fLen) (wCons (wVar 6) wNil)) wNil))))) (wgTup 2 (wgCons (bindV 7) (wgCons (bindV 8) wgNil)))
      (wIf (wNotT (wTest (wCall 2 [false, false] (w_l_same 6) (wCons (wCall 1 [false] w_is_code (wCons (wVar 7) wNil)) (wCons (wVar 8) wNil)))))
        (wRet (wC (.bl false)))
        wNext))
    (wIf (wOrT (wNotT (wTest (wCall 2 [false, false] (w_l_same 6) (wCons (wLst (wCons (wCall 1 [false] w_takes_of (wCons (wTup wNil) wNil)) (wCons (wCall 1 [false] w_gives_of (wTurn false (wCons (wTup wNil) wNil))) wNil))) (wCons (wLst (wCons (wLst wNil) (wCons (wLst wNil) wNil))) wNil))))) (wNotT (wTest (wCall 3 [false, false, false] w_l_moves_right (wCons (wVar 4) (wCons (wVar 5) (wCons (wC (.int 7)) wNil)))))))
      (wRet (wC (.bl false)))
      wNext))))))
  (wRet (wC (.bl true)))))
theorem sc_law : FnScope ["_law_script", "_law_cells", "_law_k", "_law_tape_here", "_law_name", "_law_other", "_law_cases_here", "_law_a_code", "_law_due"] ["_law_script"] (defScope (topS 35)) := ⟨rfl, rfl, rfl, by decide +kernel, rfl, by decide +kernel, by decide +kernel⟩
theorem ok_law {P : Program} {w : World} {K : PySem.W.Frag} {mg : Str → Option Value} {base : Heap} {f : Addr} {fd : FuncData} (B : Bi mg) (C__law_folded : Cal P w K mg base "_law_folded" 1 ["_law_script", "_law_many"] (spV ⟨P, w, K, mg⟩ 2 w_l_folded)) (C__law_tape : Cal P w K mg base "_law_tape" 1 ["_law_script", "_law_k"] (spV ⟨P, w, K, mg⟩ 2 w_l_tape)) (C__law_names : Cal P w K mg base "_law_names" 2 ["_law_tape_here", "_law_many"] (spV ⟨P, w, K, mg⟩ 2 w_l_names)) (C__law_draw : Cal P w K mg base "_law_draw" 1 ["_law_tape_here", "_law_many"] (spV ⟨P, w, K, mg⟩ 2 w_l_draw)) (C__law_cases : Cal P w K mg base "_law_cases" 1 ["_law_name", "_law_number"] (spV ⟨P, w, K, mg⟩ 2 w_l_cases)) (C__law_part : Cal P w K mg base "_law_part" 2 ["_law_tape_here", "_law_some", "_law_many"] (spV ⟨P, w, K, mg⟩ 3 w_l_part)) (C_is_code : Cal P w K mg base "is_code" 5 ["thing"] (spV ⟨P, w, K, mg⟩ 1 w_is_code)) (C__law_same : Cal P w K mg base "_law_same" 7 ["_law_found", "_law_due"] (spV ⟨P, w, K, mg⟩ 2 (w_l_same 6))) (C__law_moves_right : Cal P w K mg base "_law_moves_right" 8 ["_law_name", "_law_other", "_law_number"] (spV ⟨P, w, K, mg⟩ 3 w_l_moves_right)) (K_gives_of : CalK P w K mg base "gives_of" 3 ["code"] ["code"] false (spV ⟨P, w, K, mg⟩ 1 w_gives_of)) (C_takes_of : Cal P w K mg base "takes_of" 3 ["code"] (spV ⟨P, w, K, mg⟩ 1 w_takes_of)) (F : Fun K "law" "law" (topS 35) f fd) : FnOk P w K mg base CX0 9 f fd ["_law_script"] (spV ⟨P, w, K, mg⟩ 1 w_law) :=
  fn_ok (k := 8) F sc_law (by decide) fun cdv A outer s H E hr => (js_cons (js_set (i := 1) sc_law.nd rfl (Or.inl rfl) (j_ifE (jt_c (c_ne (room_u hr) (jv 0) (j_lst ja_nil))) (j_call [false, false] C__law_folded hr (ja_cons (jv 0) (ja_cons j_int ja_nil))) (j_lst (ja_cons j_int ja_nil))))
  (js_cons (js_for PassesOwn.never rfl (ji_range1 (B.range) (ja_cons (j_len (B.len) (ja_cons (jv 1) ja_nil)) ja_nil)) (jg_name (i := 2) sc_law.nd rfl (Or.inl rfl))
    (js_cons (js_set (i := 3) sc_law.nd rfl (Or.inl rfl) (j_call [false, false] C__law_tape hr (ja_cons (jv 1) (ja_cons (jv 2) ja_nil))))
    (js_cons (js_asg (j_call [true, false] C__law_names hr (ja_cons (jv 3) (ja_cons j_int ja_nil))) (jg_tup rfl (jgs_cons (jg_name (i := 4) sc_law.nd rfl (Or.inl rfl)) (jgs_cons (jg_name (i := 5) sc_law.nd rfl (Or.inl rfl)) jgs_nil))))
    (js_cons (js_set (i := 6) sc_law.nd rfl (Or.inl rfl) (j_call [false, false] C__law_cases hr (ja_cons (jv 4) (ja_cons (j_call [true, false] C__law_draw hr (ja_cons (jv 3) (ja_cons (j_pow j_int j_int) ja_nil))) ja_nil))))
    (js_cons (js_for PassesOwn.never rfl (ji_it (j_call [true, false, false] C__law_part hr (ja_cons (jv 3) (ja_cons (jv 6) (ja_cons (j_len (B.len) (ja_cons (jv 6) ja_nil)) ja_nil))))) (jg_tup rfl (jgs_cons (jg_name (i := 7) sc_law.nd rfl (Or.inl rfl)) (jgs_cons (jg_name (i := 8) sc_law.nd rfl (Or.inl rfl)) jgs_nil)))
      (js_one (js_if (jt_not (jt_val (j_call [false, false] C__law_same hr (ja_cons (j_call [false] C_is_code hr (ja_cons (jv 7) ja_nil)) (ja_cons (jv 8) ja_nil)))))
        (js_one (js_ret j_bl))
        js_nil)))
    (js_one (js_if (jt_w (jw_or (jt_not (jt_val (j_call [false, false] C__law_same hr (ja_cons (j_lst (ja_cons (j_call [false] C_takes_of hr (ja_cons (j_tup ja_nil) ja_nil)) (ja_cons (j_callK [false] K_gives_of hr (jk_cons (j_tup ja_nil) jk_nil)) ja_nil))) (ja_cons (j_lst (ja_cons (j_lst ja_nil) (ja_cons (j_lst ja_nil) ja_nil))) ja_nil))))) (jw_or1 (jt_not (jt_val (j_call [false, false, false] C__law_moves_right hr (ja_cons (jv 4) (ja_cons (jv 5) (ja_cons j_int ja_nil)))))))))
      (js_one (js_ret j_bl))
      js_nil)))))))
  (js_one (js_ret j_bl))))
end Tw

namespace Tw
open PySem PySem.Spec PyProof.Rows L2
def goodC : Da → Prop
  | .tup [c, .bl b] => plain c = true ∧ codeB c = b
  | _ => False
def allG : List Da → Prop
  | [] => True
  | x :: r => goodC x ∧ allG r
theorem cases_ok {nm : Str} {k : Int} (hn : nameD (.str nm) = true) (hk : withinB (.int k) 0 999999 = true) : Rn (w_l_cases [.dat (.str nm), .dat (.int k)]) fun p => ∃ ds, p = (.n (.lst ds), [.dat (.str nm), .dat (.int k)]) ∧ ds.length ≤ 1000 ∧ allG ds := by
  unfold w_l_cases
  simp (maxSteps := 20000000) only [↓u_C, ↓u_nil, ↓u_cons, ↓u_tup, ↓u_lst, ↓u_op, ↓u_and, ↓u_or, ↓u_test, ↓u_not, ↓u_notT, ↓u_andT, ↓u_orT, ↓u_ifE, ↓u_chain, ↓k_chT, ↓k_chF, ↓u_CB, ↓u_isi, ↓u_sl, ↓u_noPart, ↓u_part, ↓u_seq, ↓u_next, ↓u_retN, ↓u_bk, ↓u_ct, ↓u_drop, ↓u_ret, ↓u_if, ↓u_asg, ↓u_par, ↓u_prepN, ↓u_prepD, ↓u_prepO, ↓u_allN, ↓u_allC, ↓u_for, ↓u_loopN, ↓u_loopC, ↓u_it, ↓u_stoD, ↓u_stoN, ↓u_stosN, ↓u_stosC, ↓u_range1, ↓u_enum, ↓u_lc, ↓u_lcN, ↓u_lcC, ↓u_yes, ↓u_call, ↓u_argN, ↓u_argD, ↓u_argM, ↓u_argO, ↓u_argT, ↓u_backN, ↓u_backC, ↓u_fn, ↓k_fnO, ↓u_gtupD, ↓u_gtupN, ↓u_gtupL, ↓u_gtupT, ↓u_gN, ↓u_gC, ↓k_subL, ↓u_meth, ↓u_append, ↓u_popAt, ↓u_ixD, ↓u_ixN, ↓u_ixT, ↓u_ixS, ↓u_ixX, ↓u_mod, ↓u_div, ↓u_pow, ↓u_mul, ↓u_lenX, ↓u_lenL, ↓u_lenT, ↓u_lenC, ↓u_lenN, ↓u_addS, ↓u_isiD, ↓u_isiN, ↓u_zip, ↓u_argL, ↓u_argV, ↓u_dc, ↓u_dcN, ↓u_dcC, ↓k_dcX, ↓u_turn, ↓u_neg, ↓u_frz, ↓u_stoT, ↓u_stoL, ↓u_mulT, ↓u_addT, ↓u_listT, ↓u_listL, ↓u_slT, ↓rn_bind, ↓rn_some, ↓rn_iteT, ↓rn_iteF, ↓rv0, ↓ro0, ↓rb0, ↓rn0, ↓rs0, ↓rl0, ↓ra0, ↓rk0, ↓rx0, ↓rg0, ↓rh0, ↓rp0, ↓rv1, ↓ro1, ↓rb1, ↓rn1, ↓rs1, ↓rl1, ↓ra1, ↓rk1, ↓rx1, ↓rg1, ↓rh1, ↓rp1, ↓rv2, ↓ro2, ↓rb2, ↓rn2, ↓rs2, ↓rl2, ↓ra2, ↓rk2, ↓rx2, ↓rg2, ↓rh2, ↓rp2, ↓rv3, ↓ro3, ↓rb3, ↓rn3, ↓rs3, ↓rl3, ↓ra3, ↓rk3, ↓rx3, ↓rg3, ↓rh3, ↓rp3, ↓rv4, ↓ro4, ↓rb4, ↓rn4, ↓rs4, ↓rl4, ↓ra4, ↓rk4, ↓rx4, ↓rg4, ↓rh4, ↓rp4, ↓rv5, ↓ro5, ↓rb5, ↓rn5, ↓rs5, ↓rl5, ↓ra5, ↓rk5, ↓rx5, ↓rg5, ↓rh5, ↓rp5, ↓rv6, ↓ro6, ↓rb6, ↓rn6, ↓rs6, ↓rl6, ↓ra6, ↓rk6, ↓rx6, ↓rg6, ↓rh6, ↓rp6, ↓rv7, ↓ro7, ↓rb7, ↓rn7, ↓rs7, ↓rl7, ↓ra7, ↓rk7, ↓rx7, ↓rg7, ↓rh7, ↓rp7, ↓rv8, ↓ro8, ↓rb8, ↓rn8, ↓rs8, ↓rl8, ↓ra8, ↓rk8, ↓rx8, ↓rg8, ↓rh8, ↓rp8, ↓rv9, ↓ro9, ↓rb9, ↓rn9, ↓rs9, ↓rl9, ↓ra9, ↓rk9, ↓rx9, ↓rg9, ↓rh9, ↓rp9, ↓rv10, ↓ro10, ↓rb10, ↓rn10, ↓rs10, ↓rl10, ↓ra10, ↓rk10, ↓rx10, ↓rg10, ↓rh10, ↓rp10, ↓rv11, ↓ro11, ↓rb11, ↓rn11, ↓rs11, ↓rl11, ↓ra11, ↓rk11, ↓rx11, ↓rg11, ↓rh11, ↓rp11, ↓rv12, ↓ro12, ↓rb12, ↓rn12, ↓rs12, ↓rl12, ↓ra12, ↓rk12, ↓rx12, ↓rg12, ↓rh12, ↓rp12, ↓rv13, ↓ro13, ↓rb13, ↓rn13, ↓rs13, ↓rl13, ↓ra13, ↓rk13, ↓rx13, ↓rg13, ↓rh13, ↓rp13, ↓rv14, ↓ro14, ↓rb14, ↓rn14, ↓rs14, ↓rl14, ↓ra14, ↓rk14, ↓rx14, ↓rg14, ↓rh14, ↓rp14, ↓rv15, ↓ro15, ↓rb15, ↓rn15, ↓rs15, ↓rl15, ↓ra15, ↓rk15, ↓rx15, ↓rg15, ↓rh15, ↓rp15, ↓rv16, ↓ro16, ↓rb16, ↓rn16, ↓rs16, ↓rl16, ↓ra16, ↓rk16, ↓rx16, ↓rg16, ↓rh16, ↓rp16, ↓rv17, ↓ro17, ↓rb17, ↓rn17, ↓rs17, ↓rl17, ↓ra17, ↓rk17, ↓rx17, ↓rg17, ↓rh17, ↓rp17, rn_some, k_andT, k_andF, k_orT, k_orF, k_B, k_int, k_seqN, k_seqR, k_seqB, k_seqC, k_loopN, k_loopR, k_enum, k_fnN, k_fnD, k_fnNew, e_addI, e_subI, e_ltI, e_leI, e_gtI, e_geI, e_eqI, e_neI, e_abs, e_intI, e_intB, e_at0, e_at1, e_at2, e_ix30, e_ix32, List.set_cons_zero, List.set_cons_succ, f1, List.length_cons, List.length_nil, List.all_cons, List.all_nil, cold, hots, hot, List.map_cons, List.map_nil, List.cons_append, List.nil_append, List.append_nil, List.replicate_succ, List.replicate_zero, List.take_succ_cons, List.take_zero, wipeS, backS, noOwn, Nat.reduceAdd, Nat.reduceSub, Nat.reduceLeDiff, Nat.reduceEqDiff, Bool.and_true, Bool.true_and, Bool.and_false, Bool.false_and, Bool.not_true, Bool.not_false, Bool.false_eq_true, Bool.true_eq_false, reduceCtorEq, true_and, and_true, if_true, if_false, decide_true, decide_false, isOk, isA, String.reduceBEq, turn_f, cut_1, k_zipLL, k_zipTT, k_zipTL, e_isN, e_isNot, isNo, beq_self_eq_true, bne_self_eq_false, e_eqB, e_neB, e_eqX, List.any_cons, List.any_nil, Bool.or_true, Bool.true_or, Bool.or_self, reduceIte, Bool.or_false, Bool.false_or, ri0, rt0, ri1, rt1, ri2, rt2, ri3, rt3, ri4, rt4, ri5, rt5, ri6, rt6, ri7, rt7, ri8, rt8, ri9, rt9, ri10, rt10, ri11, rt11, ri12, rt12, ri13, rt13, ri14, rt14, ri15, rt15, ri16, rt16, ri17, rt17, cast0, cast1, Int.cast_ofNat_Int, Int.reduceEq, Int.reduceLT, Int.reduceLE, Int.reduceAdd, Int.reduceSub, Int.reduceMul, Nat.reduceLT, Int.reduceToNat, Int.reducePow, Int.reduceNeg, Int.reduceNegSucc, cp6, seqD, List.flatten_cons, List.flatten_nil, List.reduceReplicate, retV]
  refine ⟨_, rfl, ?_, ?_⟩
  · simp only [List.length_cons, List.length_nil]
    decide
  · have w1 : withinB (.int 0) 0 999999 = true := rfl
    have w2 : withinB (.int 3) 0 3 = true := rfl
    have w3 : withinB (.int 0) 0 3 = true := rfl
    have w4 : withinB .non 0 3 = false := rfl
    have w5 : withinB .non 0 999999 = false := rfl
    have w6 : nameD .non = false := rfl
    simp (maxSteps := 20000000) only [allG, goodC, plain, plains, ab_take1, ab_take0, ab_take2, ab_give1, ab_give0, ab_give2, ab_number1, ab_number0, ab_number2, ab_keep1, ab_keep0, ab_keep2, ab_kept1, ab_kept0, ab_kept2, ab_plus0, ab_plus1, ab_less0, ab_less1, ab_times0, ab_times1, ab_below0, ab_below1, ab_twice0, ab_twice1, ab_swap0, ab_swap1, ab_drop0, ab_drop1, ab_pick0, ab_pick1, lb_take, lm_take, lb_give, lm_give, lb_number, lm_number, lb_keep, lm_keep, lb_kept, lm_kept, lb_plus, lm_plus, lb_less, lm_less, lb_times, lm_times, lb_below, lm_below, lb_twice, lm_twice, lb_swap, lm_swap, lb_drop, lm_drop, lb_pick, lm_pick, ab_put, ab_nil, ab_lst, pb_nil, pb_cons, cb_lst, cb_non, cb_str, cb_tup, hn, hk, w1, w2, w3, w4, w5, w6, List.all_cons, List.all_nil, List.length_cons, List.length_nil, Bool.and_true, Bool.true_and, Bool.and_false, Bool.false_and, Nat.reduceAdd, Nat.reduceLeDiff, decide_true, decide_false, Int.reduceLT, Int.reduceAdd, if_true, if_false, reduceIte, true_and, and_true, Bool.and_self, Int.reduceNeg]
    decide +kernel
theorem put_nil {x : Str} {d : Da} : putD [] (.inr x) d = [(.str x, d)] := rfl
theorem put_same {x : Str} {d e : Da} : putD [(.str x, e)] (.inr x) d = [(.str x, d)] := by
  simp [putD, toKey]
theorem put_new {x y : Str} {d e : Da} (h : x ≠ y) : putD [(.str x, e)] (.inr y) d = [(.str x, e), (.str y, d)] := by
  simp [putD, toKey, keyDa, h]
theorem put_two1 {x y : Str} {d e f : Da} (h : x ≠ y) : putD [(.str x, e), (.str y, f)] (.inr x) d = [(.str x, d), (.str y, f)] := by
  simp [putD, toKey, keyDa, h, Ne.symm h]
theorem put_two2 {x y : Str} {d e f : Da} (h : x ≠ y) : putD [(.str x, e), (.str y, f)] (.inr y) d = [(.str x, e), (.str y, d)] := by
  simp [putD, toKey, keyDa, h]
/-- two texts, rising -/
def two (x y : Str) : List Str := if sLt y x = true then [y, x] else [x, y]
theorem srt_two {x y : Str} : srtS [x, y] = two x y := by
  show (if sLt y x = true then y :: insS x [] else [x, y]) = _
  rfl
theorem sort_d0 {a b c e : SV} {s : S} : fSortedB (.o 2) (a :: b :: .own (.dct []) :: s) = some (.n (.lst []), a :: b :: .own (.dct []) :: s) := rfl
theorem sort_d2 {a b : SV} {s : S} {x y : Str} {d e : Da} : fSortedB (.o 2) (a :: b :: .own (.dct [(.str x, d), (.str y, e)]) :: s) = some (.n (.lst ((two x y).map Da.str)), a :: b :: .own (.dct [(.str x, d), (.str y, e)]) :: s) := by
  rw [← srt_two]
  rfl
theorem sort_p2 {s : S} {x y : Str} {i j : Int} (h : x ≠ y) : fSortedB (.n (.lst [.tup [.str x, .int i], .tup [.str y, .int j]])) s = some (.n (.lst ((two x y).map fun z => prDa (getP [(x, i), (y, j)] z))), s) := by
  rw [← srt_two]
  show (if ([x, y] : List Str).Nodup then some (RV.n (.lst ((srtS [x, y]).map fun z => prDa (getP [(x, i), (y, j)] z))), s) else none) = _
  rw [if_pos (by simp [h])]
theorem none_of : w_takes_of [.dat (.tup [])] = some (.n (.lst []), [.dat (.tup [])]) ∧ w_gives_of [.dat (.tup [])] = some (.n (.lst []), [.dat (.tup [])]) := ⟨rfl, rfl⟩
theorem n_gt : (Str.ofString "give" = Str.ofString "take") = False := eq_false (by decide)
theorem n_tg : (Str.ofString "take" = Str.ofString "give") = False := eq_false (by decide)
theorem n_nt : (Str.ofString "number" = Str.ofString "take") = False := eq_false (by decide)
theorem n_ng : (Str.ofString "number" = Str.ofString "give") = False := eq_false (by decide)
theorem n_dt : (Str.ofString "drop" = Str.ofString "take") = False := eq_false (by decide)
theorem n_dg : (Str.ofString "drop" = Str.ofString "give") = False := eq_false (by decide)
abbrev aCode (x y : Str) (k : Int) : Da := .tup [.tup [.str "take", .str x], .tup [.str "take", .str y], .tup [.str "take", .str x], .tup [.str "give", .str x], .tup [.str "number", .int k], .tup [.str "give", .str y], .tup [.str "give", .str y], .tup [.str "drop"]]
theorem rn_eq {α : Type} {o : Option α} {a : α} (h : Rn o fun p => p = a) : o = some a := by
  obtain ⟨b, e, rfl⟩ := h
  exact e
section
variable {x y : Str} {k : Int}
theorem mv_tx (h : x ≠ y) : w_moves [.dat (aCode x y k), .dat (.str "take"), .dat (.str x)] = some (.d (.int 2), [.dat (aCode x y k), .dat (.str "take"), .dat (.str x)]) := rn_eq (by
  unfold w_moves
  simp (maxSteps := 20000000) only [↓u_C, ↓u_nil, ↓u_cons, ↓u_tup, ↓u_lst, ↓u_op, ↓u_and, ↓u_or, ↓u_test, ↓u_not, ↓u_notT, ↓u_andT, ↓u_orT, ↓u_ifE, ↓u_chain, ↓k_chT, ↓k_chF, ↓u_CB, ↓u_isi, ↓u_sl, ↓u_noPart, ↓u_part, ↓u_seq, ↓u_next, ↓u_retN, ↓u_bk, ↓u_ct, ↓u_drop, ↓u_ret, ↓u_if, ↓u_asg, ↓u_par, ↓u_prepN, ↓u_prepD, ↓u_prepO, ↓u_allN, ↓u_allC, ↓u_for, ↓u_loopN, ↓u_loopC, ↓u_it, ↓u_stoD, ↓u_stoN, ↓u_stosN, ↓u_stosC, ↓u_range1, ↓u_enum, ↓u_lc, ↓u_lcN, ↓u_lcC, ↓u_yes, ↓u_call, ↓u_argN, ↓u_argD, ↓u_argM, ↓u_argO, ↓u_argT, ↓u_backN, ↓u_backC, ↓u_fn, ↓k_fnO, ↓u_gtupD, ↓u_gtupN, ↓u_gtupL, ↓u_gtupT, ↓u_gN, ↓u_gC, ↓k_subL, ↓u_meth, ↓u_append, ↓u_popAt, ↓u_ixD, ↓u_ixN, ↓u_ixT, ↓u_ixS, ↓u_ixX, ↓u_mod, ↓u_div, ↓u_pow, ↓u_mul, ↓u_lenX, ↓u_lenL, ↓u_lenT, ↓u_lenC, ↓u_lenN, ↓u_addS, ↓u_isiD, ↓u_isiN, ↓u_zip, ↓u_argL, ↓u_argV, ↓u_dc, ↓u_dcN, ↓u_dcC, ↓k_dcX, ↓u_turn, ↓u_neg, ↓u_frz, ↓u_stoT, ↓u_stoL, ↓u_mulT, ↓u_addT, ↓u_listT, ↓u_listL, ↓u_slT, ↓rn_bind, ↓rn_some, ↓rn_iteT, ↓rn_iteF, ↓rv0, ↓ro0, ↓rb0, ↓rn0, ↓rs0, ↓rl0, ↓ra0, ↓rk0, ↓rx0, ↓rg0, ↓rh0, ↓rp0, ↓rv1, ↓ro1, ↓rb1, ↓rn1, ↓rs1, ↓rl1, ↓ra1, ↓rk1, ↓rx1, ↓rg1, ↓rh1, ↓rp1, ↓rv2, ↓ro2, ↓rb2, ↓rn2, ↓rs2, ↓rl2, ↓ra2, ↓rk2, ↓rx2, ↓rg2, ↓rh2, ↓rp2, ↓rv3, ↓ro3, ↓rb3, ↓rn3, ↓rs3, ↓rl3, ↓ra3, ↓rk3, ↓rx3, ↓rg3, ↓rh3, ↓rp3, ↓rv4, ↓ro4, ↓rb4, ↓rn4, ↓rs4, ↓rl4, ↓ra4, ↓rk4, ↓rx4, ↓rg4, ↓rh4, ↓rp4, ↓rv5, ↓ro5, ↓rb5, ↓rn5, ↓rs5, ↓rl5, ↓ra5, ↓rk5, ↓rx5, ↓rg5, ↓rh5, ↓rp5, ↓rv6, ↓ro6, ↓rb6, ↓rn6, ↓rs6, ↓rl6, ↓ra6, ↓rk6, ↓rx6, ↓rg6, ↓rh6, ↓rp6, ↓rv7, ↓ro7, ↓rb7, ↓rn7, ↓rs7, ↓rl7, ↓ra7, ↓rk7, ↓rx7, ↓rg7, ↓rh7, ↓rp7, ↓rv8, ↓ro8, ↓rb8, ↓rn8, ↓rs8, ↓rl8, ↓ra8, ↓rk8, ↓rx8, ↓rg8, ↓rh8, ↓rp8, ↓rv9, ↓ro9, ↓rb9, ↓rn9, ↓rs9, ↓rl9, ↓ra9, ↓rk9, ↓rx9, ↓rg9, ↓rh9, ↓rp9, ↓rv10, ↓ro10, ↓rb10, ↓rn10, ↓rs10, ↓rl10, ↓ra10, ↓rk10, ↓rx10, ↓rg10, ↓rh10, ↓rp10, ↓rv11, ↓ro11, ↓rb11, ↓rn11, ↓rs11, ↓rl11, ↓ra11, ↓rk11, ↓rx11, ↓rg11, ↓rh11, ↓rp11, ↓rv12, ↓ro12, ↓rb12, ↓rn12, ↓rs12, ↓rl12, ↓ra12, ↓rk12, ↓rx12, ↓rg12, ↓rh12, ↓rp12, ↓rv13, ↓ro13, ↓rb13, ↓rn13, ↓rs13, ↓rl13, ↓ra13, ↓rk13, ↓rx13, ↓rg13, ↓rh13, ↓rp13, ↓rv14, ↓ro14, ↓rb14, ↓rn14, ↓rs14, ↓rl14, ↓ra14, ↓rk14, ↓rx14, ↓rg14, ↓rh14, ↓rp14, ↓rv15, ↓ro15, ↓rb15, ↓rn15, ↓rs15, ↓rl15, ↓ra15, ↓rk15, ↓rx15, ↓rg15, ↓rh15, ↓rp15, ↓rv16, ↓ro16, ↓rb16, ↓rn16, ↓rs16, ↓rl16, ↓ra16, ↓rk16, ↓rx16, ↓rg16, ↓rh16, ↓rp16, ↓rv17, ↓ro17, ↓rb17, ↓rn17, ↓rs17, ↓rl17, ↓ra17, ↓rk17, ↓rx17, ↓rg17, ↓rh17, ↓rp17, rn_some, k_andT, k_andF, k_orT, k_orF, k_B, k_int, k_seqN, k_seqR, k_seqB, k_seqC, k_loopN, k_loopR, k_enum, k_fnN, k_fnD, k_fnNew, e_addI, e_subI, e_ltI, e_leI, e_gtI, e_geI, e_eqI, e_neI, e_abs, e_intI, e_intB, e_at0, e_at1, e_at2, e_ix30, e_ix32, List.set_cons_zero, List.set_cons_succ, f1, List.length_cons, List.length_nil, List.all_cons, List.all_nil, cold, hots, hot, List.map_cons, List.map_nil, List.cons_append, List.nil_append, List.append_nil, List.replicate_succ, List.replicate_zero, List.take_succ_cons, List.take_zero, wipeS, backS, noOwn, Nat.reduceAdd, Nat.reduceSub, Nat.reduceLeDiff, Nat.reduceEqDiff, Bool.and_true, Bool.true_and, Bool.and_false, Bool.false_and, Bool.not_true, Bool.not_false, Bool.false_eq_true, Bool.true_eq_false, reduceCtorEq, true_and, and_true, if_true, if_false, decide_true, decide_false, isOk, isA, String.reduceBEq, turn_f, cut_1, k_zipLL, k_zipTT, k_zipTL, e_isN, e_isNot, isNo, beq_self_eq_true, bne_self_eq_false, e_eqB, e_neB, e_eqX, List.any_cons, List.any_nil, Bool.or_true, Bool.true_or, Bool.or_self, reduceIte, Bool.or_false, Bool.false_or, ri0, rt0, ri1, rt1, ri2, rt2, ri3, rt3, ri4, rt4, ri5, rt5, ri6, rt6, ri7, rt7, ri8, rt8, ri9, rt9, ri10, rt10, ri11, rt11, ri12, rt12, ri13, rt13, ri14, rt14, ri15, rt15, ri16, rt16, ri17, rt17, cast0, cast1, Int.cast_ofNat_Int, Int.reduceEq, Int.reduceLT, Int.reduceLE, Int.reduceAdd, Int.reduceSub, Int.reduceMul, Nat.reduceLT, Int.reduceToNat, Int.reducePow, Int.reduceNeg, Int.reduceNegSucc, cp6, seqD, List.flatten_cons, List.flatten_nil, List.reduceReplicate, n_gt, n_tg, n_nt, n_ng, n_dt, n_dg, h, Ne.symm h])
theorem mv_ty (h : x ≠ y) : w_moves [.dat (aCode x y k), .dat (.str "take"), .dat (.str y)] = some (.d (.int 1), [.dat (aCode x y k), .dat (.str "take"), .dat (.str y)]) := rn_eq (by
  unfold w_moves
  simp (maxSteps := 20000000) only [↓u_C, ↓u_nil, ↓u_cons, ↓u_tup, ↓u_lst, ↓u_op, ↓u_and, ↓u_or, ↓u_test, ↓u_not, ↓u_notT, ↓u_andT, ↓u_orT, ↓u_ifE, ↓u_chain, ↓k_chT, ↓k_chF, ↓u_CB, ↓u_isi, ↓u_sl, ↓u_noPart, ↓u_part, ↓u_seq, ↓u_next, ↓u_retN, ↓u_bk, ↓u_ct, ↓u_drop, ↓u_ret, ↓u_if, ↓u_asg, ↓u_par, ↓u_prepN, ↓u_prepD, ↓u_prepO, ↓u_allN, ↓u_allC, ↓u_for, ↓u_loopN, ↓u_loopC, ↓u_it, ↓u_stoD, ↓u_stoN, ↓u_stosN, ↓u_stosC, ↓u_range1, ↓u_enum, ↓u_lc, ↓u_lcN, ↓u_lcC, ↓u_yes, ↓u_call, ↓u_argN, ↓u_argD, ↓u_argM, ↓u_argO, ↓u_argT, ↓u_backN, ↓u_backC, ↓u_fn, ↓k_fnO, ↓u_gtupD, ↓u_gtupN, ↓u_gtupL, ↓u_gtupT, ↓u_gN, ↓u_gC, ↓k_subL, ↓u_meth, ↓u_append, ↓u_popAt, ↓u_ixD, ↓u_ixN, ↓u_ixT, ↓u_ixS, ↓u_ixX, ↓u_mod, ↓u_div, ↓u_pow, ↓u_mul, ↓u_lenX, ↓u_lenL, ↓u_lenT, ↓u_lenC, ↓u_lenN, ↓u_addS, ↓u_isiD, ↓u_isiN, ↓u_zip, ↓u_argL, ↓u_argV, ↓u_dc, ↓u_dcN, ↓u_dcC, ↓k_dcX, ↓u_turn, ↓u_neg, ↓u_frz, ↓u_stoT, ↓u_stoL, ↓u_mulT, ↓u_addT, ↓u_listT, ↓u_listL, ↓u_slT, ↓rn_bind, ↓rn_some, ↓rn_iteT, ↓rn_iteF, ↓rv0, ↓ro0, ↓rb0, ↓rn0, ↓rs0, ↓rl0, ↓ra0, ↓rk0, ↓rx0, ↓rg0, ↓rh0, ↓rp0, ↓rv1, ↓ro1, ↓rb1, ↓rn1, ↓rs1, ↓rl1, ↓ra1, ↓rk1, ↓rx1, ↓rg1, ↓rh1, ↓rp1, ↓rv2, ↓ro2, ↓rb2, ↓rn2, ↓rs2, ↓rl2, ↓ra2, ↓rk2, ↓rx2, ↓rg2, ↓rh2, ↓rp2, ↓rv3, ↓ro3, ↓rb3, ↓rn3, ↓rs3, ↓rl3, ↓ra3, ↓rk3, ↓rx3, ↓rg3, ↓rh3, ↓rp3, ↓rv4, ↓ro4, ↓rb4, ↓rn4, ↓rs4, ↓rl4, ↓ra4, ↓rk4, ↓rx4, ↓rg4, ↓rh4, ↓rp4, ↓rv5, ↓ro5, ↓rb5, ↓rn5, ↓rs5, ↓rl5, ↓ra5, ↓rk5, ↓rx5, ↓rg5, ↓rh5, ↓rp5, ↓rv6, ↓ro6, ↓rb6, ↓rn6, ↓rs6, ↓rl6, ↓ra6, ↓rk6, ↓rx6, ↓rg6, ↓rh6, ↓rp6, ↓rv7, ↓ro7, ↓rb7, ↓rn7, ↓rs7, ↓rl7, ↓ra7, ↓rk7, ↓rx7, ↓rg7, ↓rh7, ↓rp7, ↓rv8, ↓ro8, ↓rb8, ↓rn8, ↓rs8, ↓rl8, ↓ra8, ↓rk8, ↓rx8, ↓rg8, ↓rh8, ↓rp8, ↓rv9, ↓ro9, ↓rb9, ↓rn9, ↓rs9, ↓rl9, ↓ra9, ↓rk9, ↓rx9, ↓rg9, ↓rh9, ↓rp9, ↓rv10, ↓ro10, ↓rb10, ↓rn10, ↓rs10, ↓rl10, ↓ra10, ↓rk10, ↓rx10, ↓rg10, ↓rh10, ↓rp10, ↓rv11, ↓ro11, ↓rb11, ↓rn11, ↓rs11, ↓rl11, ↓ra11, ↓rk11, ↓rx11, ↓rg11, ↓rh11, ↓rp11, ↓rv12, ↓ro12, ↓rb12, ↓rn12, ↓rs12, ↓rl12, ↓ra12, ↓rk12, ↓rx12, ↓rg12, ↓rh12, ↓rp12, ↓rv13, ↓ro13, ↓rb13, ↓rn13, ↓rs13, ↓rl13, ↓ra13, ↓rk13, ↓rx13, ↓rg13, ↓rh13, ↓rp13, ↓rv14, ↓ro14, ↓rb14, ↓rn14, ↓rs14, ↓rl14, ↓ra14, ↓rk14, ↓rx14, ↓rg14, ↓rh14, ↓rp14, ↓rv15, ↓ro15, ↓rb15, ↓rn15, ↓rs15, ↓rl15, ↓ra15, ↓rk15, ↓rx15, ↓rg15, ↓rh15, ↓rp15, ↓rv16, ↓ro16, ↓rb16, ↓rn16, ↓rs16, ↓rl16, ↓ra16, ↓rk16, ↓rx16, ↓rg16, ↓rh16, ↓rp16, ↓rv17, ↓ro17, ↓rb17, ↓rn17, ↓rs17, ↓rl17, ↓ra17, ↓rk17, ↓rx17, ↓rg17, ↓rh17, ↓rp17, rn_some, k_andT, k_andF, k_orT, k_orF, k_B, k_int, k_seqN, k_seqR, k_seqB, k_seqC, k_loopN, k_loopR, k_enum, k_fnN, k_fnD, k_fnNew, e_addI, e_subI, e_ltI, e_leI, e_gtI, e_geI, e_eqI, e_neI, e_abs, e_intI, e_intB, e_at0, e_at1, e_at2, e_ix30, e_ix32, List.set_cons_zero, List.set_cons_succ, f1, List.length_cons, List.length_nil, List.all_cons, List.all_nil, cold, hots, hot, List.map_cons, List.map_nil, List.cons_append, List.nil_append, List.append_nil, List.replicate_succ, List.replicate_zero, List.take_succ_cons, List.take_zero, wipeS, backS, noOwn, Nat.reduceAdd, Nat.reduceSub, Nat.reduceLeDiff, Nat.reduceEqDiff, Bool.and_true, Bool.true_and, Bool.and_false, Bool.false_and, Bool.not_true, Bool.not_false, Bool.false_eq_true, Bool.true_eq_false, reduceCtorEq, true_and, and_true, if_true, if_false, decide_true, decide_false, isOk, isA, String.reduceBEq, turn_f, cut_1, k_zipLL, k_zipTT, k_zipTL, e_isN, e_isNot, isNo, beq_self_eq_true, bne_self_eq_false, e_eqB, e_neB, e_eqX, List.any_cons, List.any_nil, Bool.or_true, Bool.true_or, Bool.or_self, reduceIte, Bool.or_false, Bool.false_or, ri0, rt0, ri1, rt1, ri2, rt2, ri3, rt3, ri4, rt4, ri5, rt5, ri6, rt6, ri7, rt7, ri8, rt8, ri9, rt9, ri10, rt10, ri11, rt11, ri12, rt12, ri13, rt13, ri14, rt14, ri15, rt15, ri16, rt16, ri17, rt17, cast0, cast1, Int.cast_ofNat_Int, Int.reduceEq, Int.reduceLT, Int.reduceLE, Int.reduceAdd, Int.reduceSub, Int.reduceMul, Nat.reduceLT, Int.reduceToNat, Int.reducePow, Int.reduceNeg, Int.reduceNegSucc, cp6, seqD, List.flatten_cons, List.flatten_nil, List.reduceReplicate, n_gt, n_tg, n_nt, n_ng, n_dt, n_dg, h, Ne.symm h])
theorem mv_gx (h : x ≠ y) : w_moves [.dat (aCode x y k), .dat (.str "give"), .dat (.str x)] = some (.d (.int 1), [.dat (aCode x y k), .dat (.str "give"), .dat (.str x)]) := rn_eq (by
  unfold w_moves
  simp (maxSteps := 20000000) only [↓u_C, ↓u_nil, ↓u_cons, ↓u_tup, ↓u_lst, ↓u_op, ↓u_and, ↓u_or, ↓u_test, ↓u_not, ↓u_notT, ↓u_andT, ↓u_orT, ↓u_ifE, ↓u_chain, ↓k_chT, ↓k_chF, ↓u_CB, ↓u_isi, ↓u_sl, ↓u_noPart, ↓u_part, ↓u_seq, ↓u_next, ↓u_retN, ↓u_bk, ↓u_ct, ↓u_drop, ↓u_ret, ↓u_if, ↓u_asg, ↓u_par, ↓u_prepN, ↓u_prepD, ↓u_prepO, ↓u_allN, ↓u_allC, ↓u_for, ↓u_loopN, ↓u_loopC, ↓u_it, ↓u_stoD, ↓u_stoN, ↓u_stosN, ↓u_stosC, ↓u_range1, ↓u_enum, ↓u_lc, ↓u_lcN, ↓u_lcC, ↓u_yes, ↓u_call, ↓u_argN, ↓u_argD, ↓u_argM, ↓u_argO, ↓u_argT, ↓u_backN, ↓u_backC, ↓u_fn, ↓k_fnO, ↓u_gtupD, ↓u_gtupN, ↓u_gtupL, ↓u_gtupT, ↓u_gN, ↓u_gC, ↓k_subL, ↓u_meth, ↓u_append, ↓u_popAt, ↓u_ixD, ↓u_ixN, ↓u_ixT, ↓u_ixS, ↓u_ixX, ↓u_mod, ↓u_div, ↓u_pow, ↓u_mul, ↓u_lenX, ↓u_lenL, ↓u_lenT, ↓u_lenC, ↓u_lenN, ↓u_addS, ↓u_isiD, ↓u_isiN, ↓u_zip, ↓u_argL, ↓u_argV, ↓u_dc, ↓u_dcN, ↓u_dcC, ↓k_dcX, ↓u_turn, ↓u_neg, ↓u_frz, ↓u_stoT, ↓u_stoL, ↓u_mulT, ↓u_addT, ↓u_listT, ↓u_listL, ↓u_slT, ↓rn_bind, ↓rn_some, ↓rn_iteT, ↓rn_iteF, ↓rv0, ↓ro0, ↓rb0, ↓rn0, ↓rs0, ↓rl0, ↓ra0, ↓rk0, ↓rx0, ↓rg0, ↓rh0, ↓rp0, ↓rv1, ↓ro1, ↓rb1, ↓rn1, ↓rs1, ↓rl1, ↓ra1, ↓rk1, ↓rx1, ↓rg1, ↓rh1, ↓rp1, ↓rv2, ↓ro2, ↓rb2, ↓rn2, ↓rs2, ↓rl2, ↓ra2, ↓rk2, ↓rx2, ↓rg2, ↓rh2, ↓rp2, ↓rv3, ↓ro3, ↓rb3, ↓rn3, ↓rs3, ↓rl3, ↓ra3, ↓rk3, ↓rx3, ↓rg3, ↓rh3, ↓rp3, ↓rv4, ↓ro4, ↓rb4, ↓rn4, ↓rs4, ↓rl4, ↓ra4, ↓rk4, ↓rx4, ↓rg4, ↓rh4, ↓rp4, ↓rv5, ↓ro5, ↓rb5, ↓rn5, ↓rs5, ↓rl5, ↓ra5, ↓rk5, ↓rx5, ↓rg5, ↓rh5, ↓rp5, ↓rv6, ↓ro6, ↓rb6, ↓rn6, ↓rs6, ↓rl6, ↓ra6, ↓rk6, ↓rx6, ↓rg6, ↓rh6, ↓rp6, ↓rv7, ↓ro7, ↓rb7, ↓rn7, ↓rs7, ↓rl7, ↓ra7, ↓rk7, ↓rx7, ↓rg7, ↓rh7, ↓rp7, ↓rv8, ↓ro8, ↓rb8, ↓rn8, ↓rs8, ↓rl8, ↓ra8, ↓rk8, ↓rx8, ↓rg8, ↓rh8, ↓rp8, ↓rv9, ↓ro9, ↓rb9, ↓rn9, ↓rs9, ↓rl9, ↓ra9, ↓rk9, ↓rx9, ↓rg9, ↓rh9, ↓rp9, ↓rv10, ↓ro10, ↓rb10, ↓rn10, ↓rs10, ↓rl10, ↓ra10, ↓rk10, ↓rx10, ↓rg10, ↓rh10, ↓rp10, ↓rv11, ↓ro11, ↓rb11, ↓rn11, ↓rs11, ↓rl11, ↓ra11, ↓rk11, ↓rx11, ↓rg11, ↓rh11, ↓rp11, ↓rv12, ↓ro12, ↓rb12, ↓rn12, ↓rs12, ↓rl12, ↓ra12, ↓rk12, ↓rx12, ↓rg12, ↓rh12, ↓rp12, ↓rv13, ↓ro13, ↓rb13, ↓rn13, ↓rs13, ↓rl13, ↓ra13, ↓rk13, ↓rx13, ↓rg13, ↓rh13, ↓rp13, ↓rv14, ↓ro14, ↓rb14, ↓rn14, ↓rs14, ↓rl14, ↓ra14, ↓rk14, ↓rx14, ↓rg14, ↓rh14, ↓rp14, ↓rv15, ↓ro15, ↓rb15, ↓rn15, ↓rs15, ↓rl15, ↓ra15, ↓rk15, ↓rx15, ↓rg15, ↓rh15, ↓rp15, ↓rv16, ↓ro16, ↓rb16, ↓rn16, ↓rs16, ↓rl16, ↓ra16, ↓rk16, ↓rx16, ↓rg16, ↓rh16, ↓rp16, ↓rv17, ↓ro17, ↓rb17, ↓rn17, ↓rs17, ↓rl17, ↓ra17, ↓rk17, ↓rx17, ↓rg17, ↓rh17, ↓rp17, rn_some, k_andT, k_andF, k_orT, k_orF, k_B, k_int, k_seqN, k_seqR, k_seqB, k_seqC, k_loopN, k_loopR, k_enum, k_fnN, k_fnD, k_fnNew, e_addI, e_subI, e_ltI, e_leI, e_gtI, e_geI, e_eqI, e_neI, e_abs, e_intI, e_intB, e_at0, e_at1, e_at2, e_ix30, e_ix32, List.set_cons_zero, List.set_cons_succ, f1, List.length_cons, List.length_nil, List.all_cons, List.all_nil, cold, hots, hot, List.map_cons, List.map_nil, List.cons_append, List.nil_append, List.append_nil, List.replicate_succ, List.replicate_zero, List.take_succ_cons, List.take_zero, wipeS, backS, noOwn, Nat.reduceAdd, Nat.reduceSub, Nat.reduceLeDiff, Nat.reduceEqDiff, Bool.and_true, Bool.true_and, Bool.and_false, Bool.false_and, Bool.not_true, Bool.not_false, Bool.false_eq_true, Bool.true_eq_false, reduceCtorEq, true_and, and_true, if_true, if_false, decide_true, decide_false, isOk, isA, String.reduceBEq, turn_f, cut_1, k_zipLL, k_zipTT, k_zipTL, e_isN, e_isNot, isNo, beq_self_eq_true, bne_self_eq_false, e_eqB, e_neB, e_eqX, List.any_cons, List.any_nil, Bool.or_true, Bool.true_or, Bool.or_self, reduceIte, Bool.or_false, Bool.false_or, ri0, rt0, ri1, rt1, ri2, rt2, ri3, rt3, ri4, rt4, ri5, rt5, ri6, rt6, ri7, rt7, ri8, rt8, ri9, rt9, ri10, rt10, ri11, rt11, ri12, rt12, ri13, rt13, ri14, rt14, ri15, rt15, ri16, rt16, ri17, rt17, cast0, cast1, Int.cast_ofNat_Int, Int.reduceEq, Int.reduceLT, Int.reduceLE, Int.reduceAdd, Int.reduceSub, Int.reduceMul, Nat.reduceLT, Int.reduceToNat, Int.reducePow, Int.reduceNeg, Int.reduceNegSucc, cp6, seqD, List.flatten_cons, List.flatten_nil, List.reduceReplicate, n_gt, n_tg, n_nt, n_ng, n_dt, n_dg, h, Ne.symm h])
theorem mv_gy (h : x ≠ y) : w_moves [.dat (aCode x y k), .dat (.str "give"), .dat (.str y)] = some (.d (.int 2), [.dat (aCode x y k), .dat (.str "give"), .dat (.str y)]) := rn_eq (by
  unfold w_moves
  simp (maxSteps := 20000000) only [↓u_C, ↓u_nil, ↓u_cons, ↓u_tup, ↓u_lst, ↓u_op, ↓u_and, ↓u_or, ↓u_test, ↓u_not, ↓u_notT, ↓u_andT, ↓u_orT, ↓u_ifE, ↓u_chain, ↓k_chT, ↓k_chF, ↓u_CB, ↓u_isi, ↓u_sl, ↓u_noPart, ↓u_part, ↓u_seq, ↓u_next, ↓u_retN, ↓u_bk, ↓u_ct, ↓u_drop, ↓u_ret, ↓u_if, ↓u_asg, ↓u_par, ↓u_prepN, ↓u_prepD, ↓u_prepO, ↓u_allN, ↓u_allC, ↓u_for, ↓u_loopN, ↓u_loopC, ↓u_it, ↓u_stoD, ↓u_stoN, ↓u_stosN, ↓u_stosC, ↓u_range1, ↓u_enum, ↓u_lc, ↓u_lcN, ↓u_lcC, ↓u_yes, ↓u_call, ↓u_argN, ↓u_argD, ↓u_argM, ↓u_argO, ↓u_argT, ↓u_backN, ↓u_backC, ↓u_fn, ↓k_fnO, ↓u_gtupD, ↓u_gtupN, ↓u_gtupL, ↓u_gtupT, ↓u_gN, ↓u_gC, ↓k_subL, ↓u_meth, ↓u_append, ↓u_popAt, ↓u_ixD, ↓u_ixN, ↓u_ixT, ↓u_ixS, ↓u_ixX, ↓u_mod, ↓u_div, ↓u_pow, ↓u_mul, ↓u_lenX, ↓u_lenL, ↓u_lenT, ↓u_lenC, ↓u_lenN, ↓u_addS, ↓u_isiD, ↓u_isiN, ↓u_zip, ↓u_argL, ↓u_argV, ↓u_dc, ↓u_dcN, ↓u_dcC, ↓k_dcX, ↓u_turn, ↓u_neg, ↓u_frz, ↓u_stoT, ↓u_stoL, ↓u_mulT, ↓u_addT, ↓u_listT, ↓u_listL, ↓u_slT, ↓rn_bind, ↓rn_some, ↓rn_iteT, ↓rn_iteF, ↓rv0, ↓ro0, ↓rb0, ↓rn0, ↓rs0, ↓rl0, ↓ra0, ↓rk0, ↓rx0, ↓rg0, ↓rh0, ↓rp0, ↓rv1, ↓ro1, ↓rb1, ↓rn1, ↓rs1, ↓rl1, ↓ra1, ↓rk1, ↓rx1, ↓rg1, ↓rh1, ↓rp1, ↓rv2, ↓ro2, ↓rb2, ↓rn2, ↓rs2, ↓rl2, ↓ra2, ↓rk2, ↓rx2, ↓rg2, ↓rh2, ↓rp2, ↓rv3, ↓ro3, ↓rb3, ↓rn3, ↓rs3, ↓rl3, ↓ra3, ↓rk3, ↓rx3, ↓rg3, ↓rh3, ↓rp3, ↓rv4, ↓ro4, ↓rb4, ↓rn4, ↓rs4, ↓rl4, ↓ra4, ↓rk4, ↓rx4, ↓rg4, ↓rh4, ↓rp4, ↓rv5, ↓ro5, ↓rb5, ↓rn5, ↓rs5, ↓rl5, ↓ra5, ↓rk5, ↓rx5, ↓rg5, ↓rh5, ↓rp5, ↓rv6, ↓ro6, ↓rb6, ↓rn6, ↓rs6, ↓rl6, ↓ra6, ↓rk6, ↓rx6, ↓rg6, ↓rh6, ↓rp6, ↓rv7, ↓ro7, ↓rb7, ↓rn7, ↓rs7, ↓rl7, ↓ra7, ↓rk7, ↓rx7, ↓rg7, ↓rh7, ↓rp7, ↓rv8, ↓ro8, ↓rb8, ↓rn8, ↓rs8, ↓rl8, ↓ra8, ↓rk8, ↓rx8, ↓rg8, ↓rh8, ↓rp8, ↓rv9, ↓ro9, ↓rb9, ↓rn9, ↓rs9, ↓rl9, ↓ra9, ↓rk9, ↓rx9, ↓rg9, ↓rh9, ↓rp9, ↓rv10, ↓ro10, ↓rb10, ↓rn10, ↓rs10, ↓rl10, ↓ra10, ↓rk10, ↓rx10, ↓rg10, ↓rh10, ↓rp10, ↓rv11, ↓ro11, ↓rb11, ↓rn11, ↓rs11, ↓rl11, ↓ra11, ↓rk11, ↓rx11, ↓rg11, ↓rh11, ↓rp11, ↓rv12, ↓ro12, ↓rb12, ↓rn12, ↓rs12, ↓rl12, ↓ra12, ↓rk12, ↓rx12, ↓rg12, ↓rh12, ↓rp12, ↓rv13, ↓ro13, ↓rb13, ↓rn13, ↓rs13, ↓rl13, ↓ra13, ↓rk13, ↓rx13, ↓rg13, ↓rh13, ↓rp13, ↓rv14, ↓ro14, ↓rb14, ↓rn14, ↓rs14, ↓rl14, ↓ra14, ↓rk14, ↓rx14, ↓rg14, ↓rh14, ↓rp14, ↓rv15, ↓ro15, ↓rb15, ↓rn15, ↓rs15, ↓rl15, ↓ra15, ↓rk15, ↓rx15, ↓rg15, ↓rh15, ↓rp15, ↓rv16, ↓ro16, ↓rb16, ↓rn16, ↓rs16, ↓rl16, ↓ra16, ↓rk16, ↓rx16, ↓rg16, ↓rh16, ↓rp16, ↓rv17, ↓ro17, ↓rb17, ↓rn17, ↓rs17, ↓rl17, ↓ra17, ↓rk17, ↓rx17, ↓rg17, ↓rh17, ↓rp17, rn_some, k_andT, k_andF, k_orT, k_orF, k_B, k_int, k_seqN, k_seqR, k_seqB, k_seqC, k_loopN, k_loopR, k_enum, k_fnN, k_fnD, k_fnNew, e_addI, e_subI, e_ltI, e_leI, e_gtI, e_geI, e_eqI, e_neI, e_abs, e_intI, e_intB, e_at0, e_at1, e_at2, e_ix30, e_ix32, List.set_cons_zero, List.set_cons_succ, f1, List.length_cons, List.length_nil, List.all_cons, List.all_nil, cold, hots, hot, List.map_cons, List.map_nil, List.cons_append, List.nil_append, List.append_nil, List.replicate_succ, List.replicate_zero, List.take_succ_cons, List.take_zero, wipeS, backS, noOwn, Nat.reduceAdd, Nat.reduceSub, Nat.reduceLeDiff, Nat.reduceEqDiff, Bool.and_true, Bool.true_and, Bool.and_false, Bool.false_and, Bool.not_true, Bool.not_false, Bool.false_eq_true, Bool.true_eq_false, reduceCtorEq, true_and, and_true, if_true, if_false, decide_true, decide_false, isOk, isA, String.reduceBEq, turn_f, cut_1, k_zipLL, k_zipTT, k_zipTL, e_isN, e_isNot, isNo, beq_self_eq_true, bne_self_eq_false, e_eqB, e_neB, e_eqX, List.any_cons, List.any_nil, Bool.or_true, Bool.true_or, Bool.or_self, reduceIte, Bool.or_false, Bool.false_or, ri0, rt0, ri1, rt1, ri2, rt2, ri3, rt3, ri4, rt4, ri5, rt5, ri6, rt6, ri7, rt7, ri8, rt8, ri9, rt9, ri10, rt10, ri11, rt11, ri12, rt12, ri13, rt13, ri14, rt14, ri15, rt15, ri16, rt16, ri17, rt17, cast0, cast1, Int.cast_ofNat_Int, Int.reduceEq, Int.reduceLT, Int.reduceLE, Int.reduceAdd, Int.reduceSub, Int.reduceMul, Nat.reduceLT, Int.reduceToNat, Int.reducePow, Int.reduceNeg, Int.reduceNegSucc, cp6, seqD, List.flatten_cons, List.flatten_nil, List.reduceReplicate, n_gt, n_tg, n_nt, n_ng, n_dt, n_dg, h, Ne.symm h])
theorem gp_x {i j : Int} : prDa (getP [(x, i), (y, j)] x) = .tup [.str x, .int i] := by
  simp [prDa, getP]
theorem gp_y {i j : Int} (h : x ≠ y) : prDa (getP [(x, i), (y, j)] y) = .tup [.str y, .int j] := by
  have : (y == x) = false := by simpa using Ne.symm h
  simp [prDa, getP, List.lookup_cons, this]
theorem takes_ok (h : x ≠ y) : w_takes_of [.dat (aCode x y k)] = some (.n (.lst ((two x y).map fun z => prDa (getP [(x, 2), (y, 1)] z))), [.dat (aCode x y k)]) := rn_eq (by
  unfold w_takes_of w_moves_all two
  by_cases hs : sLt y x = true
  · simp (maxSteps := 20000000) only [↓u_C, ↓u_nil, ↓u_cons, ↓u_tup, ↓u_lst, ↓u_op, ↓u_and, ↓u_or, ↓u_test, ↓u_not, ↓u_notT, ↓u_andT, ↓u_orT, ↓u_ifE, ↓u_chain, ↓k_chT, ↓k_chF, ↓u_CB, ↓u_isi, ↓u_sl, ↓u_noPart, ↓u_part, ↓u_seq, ↓u_next, ↓u_retN, ↓u_bk, ↓u_ct, ↓u_drop, ↓u_ret, ↓u_if, ↓u_asg, ↓u_par, ↓u_prepN, ↓u_prepD, ↓u_prepO, ↓u_allN, ↓u_allC, ↓u_for, ↓u_loopN, ↓u_loopC, ↓u_it, ↓u_stoD, ↓u_stoN, ↓u_stosN, ↓u_stosC, ↓u_range1, ↓u_enum, ↓u_lc, ↓u_lcN, ↓u_lcC, ↓u_yes, ↓u_call, ↓u_argN, ↓u_argD, ↓u_argM, ↓u_argO, ↓u_argT, ↓u_backN, ↓u_backC, ↓u_fn, ↓k_fnO, ↓u_gtupD, ↓u_gtupN, ↓u_gtupL, ↓u_gtupT, ↓u_gN, ↓u_gC, ↓k_subL, ↓u_meth, ↓u_append, ↓u_popAt, ↓u_ixD, ↓u_ixN, ↓u_ixT, ↓u_ixS, ↓u_ixX, ↓u_mod, ↓u_div, ↓u_pow, ↓u_mul, ↓u_lenX, ↓u_lenL, ↓u_lenT, ↓u_lenC, ↓u_lenN, ↓u_addS, ↓u_isiD, ↓u_isiN, ↓u_zip, ↓u_argL, ↓u_argV, ↓u_dc, ↓u_dcN, ↓u_dcC, ↓k_dcX, ↓u_turn, ↓u_neg, ↓u_frz, ↓u_stoT, ↓u_stoL, ↓u_mulT, ↓u_addT, ↓u_listT, ↓u_listL, ↓u_slT, ↓rn_bind, ↓rn_some, ↓rn_iteT, ↓rn_iteF, ↓rv0, ↓ro0, ↓rb0, ↓rn0, ↓rs0, ↓rl0, ↓ra0, ↓rk0, ↓rx0, ↓rg0, ↓rh0, ↓rp0, ↓rv1, ↓ro1, ↓rb1, ↓rn1, ↓rs1, ↓rl1, ↓ra1, ↓rk1, ↓rx1, ↓rg1, ↓rh1, ↓rp1, ↓rv2, ↓ro2, ↓rb2, ↓rn2, ↓rs2, ↓rl2, ↓ra2, ↓rk2, ↓rx2, ↓rg2, ↓rh2, ↓rp2, ↓rv3, ↓ro3, ↓rb3, ↓rn3, ↓rs3, ↓rl3, ↓ra3, ↓rk3, ↓rx3, ↓rg3, ↓rh3, ↓rp3, ↓rv4, ↓ro4, ↓rb4, ↓rn4, ↓rs4, ↓rl4, ↓ra4, ↓rk4, ↓rx4, ↓rg4, ↓rh4, ↓rp4, ↓rv5, ↓ro5, ↓rb5, ↓rn5, ↓rs5, ↓rl5, ↓ra5, ↓rk5, ↓rx5, ↓rg5, ↓rh5, ↓rp5, ↓rv6, ↓ro6, ↓rb6, ↓rn6, ↓rs6, ↓rl6, ↓ra6, ↓rk6, ↓rx6, ↓rg6, ↓rh6, ↓rp6, ↓rv7, ↓ro7, ↓rb7, ↓rn7, ↓rs7, ↓rl7, ↓ra7, ↓rk7, ↓rx7, ↓rg7, ↓rh7, ↓rp7, ↓rv8, ↓ro8, ↓rb8, ↓rn8, ↓rs8, ↓rl8, ↓ra8, ↓rk8, ↓rx8, ↓rg8, ↓rh8, ↓rp8, ↓rv9, ↓ro9, ↓rb9, ↓rn9, ↓rs9, ↓rl9, ↓ra9, ↓rk9, ↓rx9, ↓rg9, ↓rh9, ↓rp9, ↓rv10, ↓ro10, ↓rb10, ↓rn10, ↓rs10, ↓rl10, ↓ra10, ↓rk10, ↓rx10, ↓rg10, ↓rh10, ↓rp10, ↓rv11, ↓ro11, ↓rb11, ↓rn11, ↓rs11, ↓rl11, ↓ra11, ↓rk11, ↓rx11, ↓rg11, ↓rh11, ↓rp11, ↓rv12, ↓ro12, ↓rb12, ↓rn12, ↓rs12, ↓rl12, ↓ra12, ↓rk12, ↓rx12, ↓rg12, ↓rh12, ↓rp12, ↓rv13, ↓ro13, ↓rb13, ↓rn13, ↓rs13, ↓rl13, ↓ra13, ↓rk13, ↓rx13, ↓rg13, ↓rh13, ↓rp13, ↓rv14, ↓ro14, ↓rb14, ↓rn14, ↓rs14, ↓rl14, ↓ra14, ↓rk14, ↓rx14, ↓rg14, ↓rh14, ↓rp14, ↓rv15, ↓ro15, ↓rb15, ↓rn15, ↓rs15, ↓rl15, ↓ra15, ↓rk15, ↓rx15, ↓rg15, ↓rh15, ↓rp15, ↓rv16, ↓ro16, ↓rb16, ↓rn16, ↓rs16, ↓rl16, ↓ra16, ↓rk16, ↓rx16, ↓rg16, ↓rh16, ↓rp16, ↓rv17, ↓ro17, ↓rb17, ↓rn17, ↓rs17, ↓rl17, ↓ra17, ↓rk17, ↓rx17, ↓rg17, ↓rh17, ↓rp17, rn_some, k_andT, k_andF, k_orT, k_orF, k_B, k_int, k_seqN, k_seqR, k_seqB, k_seqC, k_loopN, k_loopR, k_enum, k_fnN, k_fnD, k_fnNew, e_addI, e_subI, e_ltI, e_leI, e_gtI, e_geI, e_eqI, e_neI, e_abs, e_intI, e_intB, e_at0, e_at1, e_at2, e_ix30, e_ix32, List.set_cons_zero, List.set_cons_succ, f1, List.length_cons, List.length_nil, List.all_cons, List.all_nil, cold, hots, hot, List.map_cons, List.map_nil, List.cons_append, List.nil_append, List.append_nil, List.replicate_succ, List.replicate_zero, List.take_succ_cons, List.take_zero, wipeS, backS, noOwn, Nat.reduceAdd, Nat.reduceSub, Nat.reduceLeDiff, Nat.reduceEqDiff, Bool.and_true, Bool.true_and, Bool.and_false, Bool.false_and, Bool.not_true, Bool.not_false, Bool.false_eq_true, Bool.true_eq_false, reduceCtorEq, true_and, and_true, if_true, if_false, decide_true, decide_false, isOk, isA, String.reduceBEq, turn_f, cut_1, k_zipLL, k_zipTT, k_zipTL, e_isN, e_isNot, isNo, beq_self_eq_true, bne_self_eq_false, e_eqB, e_neB, e_eqX, List.any_cons, List.any_nil, Bool.or_true, Bool.true_or, Bool.or_self, reduceIte, Bool.or_false, Bool.false_or, ri0, rt0, ri1, rt1, ri2, rt2, ri3, rt3, ri4, rt4, ri5, rt5, ri6, rt6, ri7, rt7, ri8, rt8, ri9, rt9, ri10, rt10, ri11, rt11, ri12, rt12, ri13, rt13, ri14, rt14, ri15, rt15, ri16, rt16, ri17, rt17, cast0, cast1, Int.cast_ofNat_Int, Int.reduceEq, Int.reduceLT, Int.reduceLE, Int.reduceAdd, Int.reduceSub, Int.reduceMul, Nat.reduceLT, Int.reduceToNat, Int.reducePow, Int.reduceNeg, Int.reduceNegSucc, cp6, seqD, List.flatten_cons, List.flatten_nil, List.reduceReplicate, n_gt, n_tg, n_nt, n_ng, n_dt, n_dg, h, Ne.symm h, put_nil, put_same, put_new h, put_two1 h, put_two2 h, sort_d2, two, hs, ↓rn_of (mv_tx h), ↓rn_of (mv_ty h), gp_x, gp_y h]
  · simp (maxSteps := 20000000) only [↓u_C, ↓u_nil, ↓u_cons, ↓u_tup, ↓u_lst, ↓u_op, ↓u_and, ↓u_or, ↓u_test, ↓u_not, ↓u_notT, ↓u_andT, ↓u_orT, ↓u_ifE, ↓u_chain, ↓k_chT, ↓k_chF, ↓u_CB, ↓u_isi, ↓u_sl, ↓u_noPart, ↓u_part, ↓u_seq, ↓u_next, ↓u_retN, ↓u_bk, ↓u_ct, ↓u_drop, ↓u_ret, ↓u_if, ↓u_asg, ↓u_par, ↓u_prepN, ↓u_prepD, ↓u_prepO, ↓u_allN, ↓u_allC, ↓u_for, ↓u_loopN, ↓u_loopC, ↓u_it, ↓u_stoD, ↓u_stoN, ↓u_stosN, ↓u_stosC, ↓u_range1, ↓u_enum, ↓u_lc, ↓u_lcN, ↓u_lcC, ↓u_yes, ↓u_call, ↓u_argN, ↓u_argD, ↓u_argM, ↓u_argO, ↓u_argT, ↓u_backN, ↓u_backC, ↓u_fn, ↓k_fnO, ↓u_gtupD, ↓u_gtupN, ↓u_gtupL, ↓u_gtupT, ↓u_gN, ↓u_gC, ↓k_subL, ↓u_meth, ↓u_append, ↓u_popAt, ↓u_ixD, ↓u_ixN, ↓u_ixT, ↓u_ixS, ↓u_ixX, ↓u_mod, ↓u_div, ↓u_pow, ↓u_mul, ↓u_lenX, ↓u_lenL, ↓u_lenT, ↓u_lenC, ↓u_lenN, ↓u_addS, ↓u_isiD, ↓u_isiN, ↓u_zip, ↓u_argL, ↓u_argV, ↓u_dc, ↓u_dcN, ↓u_dcC, ↓k_dcX, ↓u_turn, ↓u_neg, ↓u_frz, ↓u_stoT, ↓u_stoL, ↓u_mulT, ↓u_addT, ↓u_listT, ↓u_listL, ↓u_slT, ↓rn_bind, ↓rn_some, ↓rn_iteT, ↓rn_iteF, ↓rv0, ↓ro0, ↓rb0, ↓rn0, ↓rs0, ↓rl0, ↓ra0, ↓rk0, ↓rx0, ↓rg0, ↓rh0, ↓rp0, ↓rv1, ↓ro1, ↓rb1, ↓rn1, ↓rs1, ↓rl1, ↓ra1, ↓rk1, ↓rx1, ↓rg1, ↓rh1, ↓rp1, ↓rv2, ↓ro2, ↓rb2, ↓rn2, ↓rs2, ↓rl2, ↓ra2, ↓rk2, ↓rx2, ↓rg2, ↓rh2, ↓rp2, ↓rv3, ↓ro3, ↓rb3, ↓rn3, ↓rs3, ↓rl3, ↓ra3, ↓rk3, ↓rx3, ↓rg3, ↓rh3, ↓rp3, ↓rv4, ↓ro4, ↓rb4, ↓rn4, ↓rs4, ↓rl4, ↓ra4, ↓rk4, ↓rx4, ↓rg4, ↓rh4, ↓rp4, ↓rv5, ↓ro5, ↓rb5, ↓rn5, ↓rs5, ↓rl5, ↓ra5, ↓rk5, ↓rx5, ↓rg5, ↓rh5, ↓rp5, ↓rv6, ↓ro6, ↓rb6, ↓rn6, ↓rs6, ↓rl6, ↓ra6, ↓rk6, ↓rx6, ↓rg6, ↓rh6, ↓rp6, ↓rv7, ↓ro7, ↓rb7, ↓rn7, ↓rs7, ↓rl7, ↓ra7, ↓rk7, ↓rx7, ↓rg7, ↓rh7, ↓rp7, ↓rv8, ↓ro8, ↓rb8, ↓rn8, ↓rs8, ↓rl8, ↓ra8, ↓rk8, ↓rx8, ↓rg8, ↓rh8, ↓rp8, ↓rv9, ↓ro9, ↓rb9, ↓rn9, ↓rs9, ↓rl9, ↓ra9, ↓rk9, ↓rx9, ↓rg9, ↓rh9, ↓rp9, ↓rv10, ↓ro10, ↓rb10, ↓rn10, ↓rs10, ↓rl10, ↓ra10, ↓rk10, ↓rx10, ↓rg10, ↓rh10, ↓rp10, ↓rv11, ↓ro11, ↓rb11, ↓rn11, ↓rs11, ↓rl11, ↓ra11, ↓rk11, ↓rx11, ↓rg11, ↓rh11, ↓rp11, ↓rv12, ↓ro12, ↓rb12, ↓rn12, ↓rs12, ↓rl12, ↓ra12, ↓rk12, ↓rx12, ↓rg12, ↓rh12, ↓rp12, ↓rv13, ↓ro13, ↓rb13, ↓rn13, ↓rs13, ↓rl13, ↓ra13, ↓rk13, ↓rx13, ↓rg13, ↓rh13, ↓rp13, ↓rv14, ↓ro14, ↓rb14, ↓rn14, ↓rs14, ↓rl14, ↓ra14, ↓rk14, ↓rx14, ↓rg14, ↓rh14, ↓rp14, ↓rv15, ↓ro15, ↓rb15, ↓rn15, ↓rs15, ↓rl15, ↓ra15, ↓rk15, ↓rx15, ↓rg15, ↓rh15, ↓rp15, ↓rv16, ↓ro16, ↓rb16, ↓rn16, ↓rs16, ↓rl16, ↓ra16, ↓rk16, ↓rx16, ↓rg16, ↓rh16, ↓rp16, ↓rv17, ↓ro17, ↓rb17, ↓rn17, ↓rs17, ↓rl17, ↓ra17, ↓rk17, ↓rx17, ↓rg17, ↓rh17, ↓rp17, rn_some, k_andT, k_andF, k_orT, k_orF, k_B, k_int, k_seqN, k_seqR, k_seqB, k_seqC, k_loopN, k_loopR, k_enum, k_fnN, k_fnD, k_fnNew, e_addI, e_subI, e_ltI, e_leI, e_gtI, e_geI, e_eqI, e_neI, e_abs, e_intI, e_intB, e_at0, e_at1, e_at2, e_ix30, e_ix32, List.set_cons_zero, List.set_cons_succ, f1, List.length_cons, List.length_nil, List.all_cons, List.all_nil, cold, hots, hot, List.map_cons, List.map_nil, List.cons_append, List.nil_append, List.append_nil, List.replicate_succ, List.replicate_zero, List.take_succ_cons, List.take_zero, wipeS, backS, noOwn, Nat.reduceAdd, Nat.reduceSub, Nat.reduceLeDiff, Nat.reduceEqDiff, Bool.and_true, Bool.true_and, Bool.and_false, Bool.false_and, Bool.not_true, Bool.not_false, Bool.false_eq_true, Bool.true_eq_false, reduceCtorEq, true_and, and_true, if_true, if_false, decide_true, decide_false, isOk, isA, String.reduceBEq, turn_f, cut_1, k_zipLL, k_zipTT, k_zipTL, e_isN, e_isNot, isNo, beq_self_eq_true, bne_self_eq_false, e_eqB, e_neB, e_eqX, List.any_cons, List.any_nil, Bool.or_true, Bool.true_or, Bool.or_self, reduceIte, Bool.or_false, Bool.false_or, ri0, rt0, ri1, rt1, ri2, rt2, ri3, rt3, ri4, rt4, ri5, rt5, ri6, rt6, ri7, rt7, ri8, rt8, ri9, rt9, ri10, rt10, ri11, rt11, ri12, rt12, ri13, rt13, ri14, rt14, ri15, rt15, ri16, rt16, ri17, rt17, cast0, cast1, Int.cast_ofNat_Int, Int.reduceEq, Int.reduceLT, Int.reduceLE, Int.reduceAdd, Int.reduceSub, Int.reduceMul, Nat.reduceLT, Int.reduceToNat, Int.reducePow, Int.reduceNeg, Int.reduceNegSucc, cp6, seqD, List.flatten_cons, List.flatten_nil, List.reduceReplicate, n_gt, n_tg, n_nt, n_ng, n_dt, n_dg, h, Ne.symm h, put_nil, put_same, put_new h, put_two1 h, put_two2 h, sort_d2, two, hs, ↓rn_of (mv_tx h), ↓rn_of (mv_ty h), gp_x, gp_y h])
theorem gives_ok (h : x ≠ y) : w_gives_of [.dat (aCode x y k)] = some (.n (.lst ((two x y).map fun z => prDa (getP [(x, 1), (y, 2)] z))), [.dat (aCode x y k)]) := rn_eq (by
  unfold w_gives_of w_moves_all two
  by_cases hs : sLt y x = true
  · simp (maxSteps := 20000000) only [↓u_C, ↓u_nil, ↓u_cons, ↓u_tup, ↓u_lst, ↓u_op, ↓u_and, ↓u_or, ↓u_test, ↓u_not, ↓u_notT, ↓u_andT, ↓u_orT, ↓u_ifE, ↓u_chain, ↓k_chT, ↓k_chF, ↓u_CB, ↓u_isi, ↓u_sl, ↓u_noPart, ↓u_part, ↓u_seq, ↓u_next, ↓u_retN, ↓u_bk, ↓u_ct, ↓u_drop, ↓u_ret, ↓u_if, ↓u_asg, ↓u_par, ↓u_prepN, ↓u_prepD, ↓u_prepO, ↓u_allN, ↓u_allC, ↓u_for, ↓u_loopN, ↓u_loopC, ↓u_it, ↓u_stoD, ↓u_stoN, ↓u_stosN, ↓u_stosC, ↓u_range1, ↓u_enum, ↓u_lc, ↓u_lcN, ↓u_lcC, ↓u_yes, ↓u_call, ↓u_argN, ↓u_argD, ↓u_argM, ↓u_argO, ↓u_argT, ↓u_backN, ↓u_backC, ↓u_fn, ↓k_fnO, ↓u_gtupD, ↓u_gtupN, ↓u_gtupL, ↓u_gtupT, ↓u_gN, ↓u_gC, ↓k_subL, ↓u_meth, ↓u_append, ↓u_popAt, ↓u_ixD, ↓u_ixN, ↓u_ixT, ↓u_ixS, ↓u_ixX, ↓u_mod, ↓u_div, ↓u_pow, ↓u_mul, ↓u_lenX, ↓u_lenL, ↓u_lenT, ↓u_lenC, ↓u_lenN, ↓u_addS, ↓u_isiD, ↓u_isiN, ↓u_zip, ↓u_argL, ↓u_argV, ↓u_dc, ↓u_dcN, ↓u_dcC, ↓k_dcX, ↓u_turn, ↓u_neg, ↓u_frz, ↓u_stoT, ↓u_stoL, ↓u_mulT, ↓u_addT, ↓u_listT, ↓u_listL, ↓u_slT, ↓rn_bind, ↓rn_some, ↓rn_iteT, ↓rn_iteF, ↓rv0, ↓ro0, ↓rb0, ↓rn0, ↓rs0, ↓rl0, ↓ra0, ↓rk0, ↓rx0, ↓rg0, ↓rh0, ↓rp0, ↓rv1, ↓ro1, ↓rb1, ↓rn1, ↓rs1, ↓rl1, ↓ra1, ↓rk1, ↓rx1, ↓rg1, ↓rh1, ↓rp1, ↓rv2, ↓ro2, ↓rb2, ↓rn2, ↓rs2, ↓rl2, ↓ra2, ↓rk2, ↓rx2, ↓rg2, ↓rh2, ↓rp2, ↓rv3, ↓ro3, ↓rb3, ↓rn3, ↓rs3, ↓rl3, ↓ra3, ↓rk3, ↓rx3, ↓rg3, ↓rh3, ↓rp3, ↓rv4, ↓ro4, ↓rb4, ↓rn4, ↓rs4, ↓rl4, ↓ra4, ↓rk4, ↓rx4, ↓rg4, ↓rh4, ↓rp4, ↓rv5, ↓ro5, ↓rb5, ↓rn5, ↓rs5, ↓rl5, ↓ra5, ↓rk5, ↓rx5, ↓rg5, ↓rh5, ↓rp5, ↓rv6, ↓ro6, ↓rb6, ↓rn6, ↓rs6, ↓rl6, ↓ra6, ↓rk6, ↓rx6, ↓rg6, ↓rh6, ↓rp6, ↓rv7, ↓ro7, ↓rb7, ↓rn7, ↓rs7, ↓rl7, ↓ra7, ↓rk7, ↓rx7, ↓rg7, ↓rh7, ↓rp7, ↓rv8, ↓ro8, ↓rb8, ↓rn8, ↓rs8, ↓rl8, ↓ra8, ↓rk8, ↓rx8, ↓rg8, ↓rh8, ↓rp8, ↓rv9, ↓ro9, ↓rb9, ↓rn9, ↓rs9, ↓rl9, ↓ra9, ↓rk9, ↓rx9, ↓rg9, ↓rh9, ↓rp9, ↓rv10, ↓ro10, ↓rb10, ↓rn10, ↓rs10, ↓rl10, ↓ra10, ↓rk10, ↓rx10, ↓rg10, ↓rh10, ↓rp10, ↓rv11, ↓ro11, ↓rb11, ↓rn11, ↓rs11, ↓rl11, ↓ra11, ↓rk11, ↓rx11, ↓rg11, ↓rh11, ↓rp11, ↓rv12, ↓ro12, ↓rb12, ↓rn12, ↓rs12, ↓rl12, ↓ra12, ↓rk12, ↓rx12, ↓rg12, ↓rh12, ↓rp12, ↓rv13, ↓ro13, ↓rb13, ↓rn13, ↓rs13, ↓rl13, ↓ra13, ↓rk13, ↓rx13, ↓rg13, ↓rh13, ↓rp13, ↓rv14, ↓ro14, ↓rb14, ↓rn14, ↓rs14, ↓rl14, ↓ra14, ↓rk14, ↓rx14, ↓rg14, ↓rh14, ↓rp14, ↓rv15, ↓ro15, ↓rb15, ↓rn15, ↓rs15, ↓rl15, ↓ra15, ↓rk15, ↓rx15, ↓rg15, ↓rh15, ↓rp15, ↓rv16, ↓ro16, ↓rb16, ↓rn16, ↓rs16, ↓rl16, ↓ra16, ↓rk16, ↓rx16, ↓rg16, ↓rh16, ↓rp16, ↓rv17, ↓ro17, ↓rb17, ↓rn17, ↓rs17, ↓rl17, ↓ra17, ↓rk17, ↓rx17, ↓rg17, ↓rh17, ↓rp17, rn_some, k_andT, k_andF, k_orT, k_orF, k_B, k_int, k_seqN, k_seqR, k_seqB, k_seqC, k_loopN, k_loopR, k_enum, k_fnN, k_fnD, k_fnNew, e_addI, e_subI, e_ltI, e_leI, e_gtI, e_geI, e_eqI, e_neI, e_abs, e_intI, e_intB, e_at0, e_at1, e_at2, e_ix30, e_ix32, List.set_cons_zero, List.set_cons_succ, f1, List.length_cons, List.length_nil, List.all_cons, List.all_nil, cold, hots, hot, List.map_cons, List.map_nil, List.cons_append, List.nil_append, List.append_nil, List.replicate_succ, List.replicate_zero, List.take_succ_cons, List.take_zero, wipeS, backS, noOwn, Nat.reduceAdd, Nat.reduceSub, Nat.reduceLeDiff, Nat.reduceEqDiff, Bool.and_true, Bool.true_and, Bool.and_false, Bool.false_and, Bool.not_true, Bool.not_false, Bool.false_eq_true, Bool.true_eq_false, reduceCtorEq, true_and, and_true, if_true, if_false, decide_true, decide_false, isOk, isA, String.reduceBEq, turn_f, cut_1, k_zipLL, k_zipTT, k_zipTL, e_isN, e_isNot, isNo, beq_self_eq_true, bne_self_eq_false, e_eqB, e_neB, e_eqX, List.any_cons, List.any_nil, Bool.or_true, Bool.true_or, Bool.or_self, reduceIte, Bool.or_false, Bool.false_or, ri0, rt0, ri1, rt1, ri2, rt2, ri3, rt3, ri4, rt4, ri5, rt5, ri6, rt6, ri7, rt7, ri8, rt8, ri9, rt9, ri10, rt10, ri11, rt11, ri12, rt12, ri13, rt13, ri14, rt14, ri15, rt15, ri16, rt16, ri17, rt17, cast0, cast1, Int.cast_ofNat_Int, Int.reduceEq, Int.reduceLT, Int.reduceLE, Int.reduceAdd, Int.reduceSub, Int.reduceMul, Nat.reduceLT, Int.reduceToNat, Int.reducePow, Int.reduceNeg, Int.reduceNegSucc, cp6, seqD, List.flatten_cons, List.flatten_nil, List.reduceReplicate, n_gt, n_tg, n_nt, n_ng, n_dt, n_dg, h, Ne.symm h, put_nil, put_same, put_new h, put_two1 h, put_two2 h, sort_d2, two, hs, ↓rn_of (mv_gx h), ↓rn_of (mv_gy h), gp_x, gp_y h]
  · simp (maxSteps := 20000000) only [↓u_C, ↓u_nil, ↓u_cons, ↓u_tup, ↓u_lst, ↓u_op, ↓u_and, ↓u_or, ↓u_test, ↓u_not, ↓u_notT, ↓u_andT, ↓u_orT, ↓u_ifE, ↓u_chain, ↓k_chT, ↓k_chF, ↓u_CB, ↓u_isi, ↓u_sl, ↓u_noPart, ↓u_part, ↓u_seq, ↓u_next, ↓u_retN, ↓u_bk, ↓u_ct, ↓u_drop, ↓u_ret, ↓u_if, ↓u_asg, ↓u_par, ↓u_prepN, ↓u_prepD, ↓u_prepO, ↓u_allN, ↓u_allC, ↓u_for, ↓u_loopN, ↓u_loopC, ↓u_it, ↓u_stoD, ↓u_stoN, ↓u_stosN, ↓u_stosC, ↓u_range1, ↓u_enum, ↓u_lc, ↓u_lcN, ↓u_lcC, ↓u_yes, ↓u_call, ↓u_argN, ↓u_argD, ↓u_argM, ↓u_argO, ↓u_argT, ↓u_backN, ↓u_backC, ↓u_fn, ↓k_fnO, ↓u_gtupD, ↓u_gtupN, ↓u_gtupL, ↓u_gtupT, ↓u_gN, ↓u_gC, ↓k_subL, ↓u_meth, ↓u_append, ↓u_popAt, ↓u_ixD, ↓u_ixN, ↓u_ixT, ↓u_ixS, ↓u_ixX, ↓u_mod, ↓u_div, ↓u_pow, ↓u_mul, ↓u_lenX, ↓u_lenL, ↓u_lenT, ↓u_lenC, ↓u_lenN, ↓u_addS, ↓u_isiD, ↓u_isiN, ↓u_zip, ↓u_argL, ↓u_argV, ↓u_dc, ↓u_dcN, ↓u_dcC, ↓k_dcX, ↓u_turn, ↓u_neg, ↓u_frz, ↓u_stoT, ↓u_stoL, ↓u_mulT, ↓u_addT, ↓u_listT, ↓u_listL, ↓u_slT, ↓rn_bind, ↓rn_some, ↓rn_iteT, ↓rn_iteF, ↓rv0, ↓ro0, ↓rb0, ↓rn0, ↓rs0, ↓rl0, ↓ra0, ↓rk0, ↓rx0, ↓rg0, ↓rh0, ↓rp0, ↓rv1, ↓ro1, ↓rb1, ↓rn1, ↓rs1, ↓rl1, ↓ra1, ↓rk1, ↓rx1, ↓rg1, ↓rh1, ↓rp1, ↓rv2, ↓ro2, ↓rb2, ↓rn2, ↓rs2, ↓rl2, ↓ra2, ↓rk2, ↓rx2, ↓rg2, ↓rh2, ↓rp2, ↓rv3, ↓ro3, ↓rb3, ↓rn3, ↓rs3, ↓rl3, ↓ra3, ↓rk3, ↓rx3, ↓rg3, ↓rh3, ↓rp3, ↓rv4, ↓ro4, ↓rb4, ↓rn4, ↓rs4, ↓rl4, ↓ra4, ↓rk4, ↓rx4, ↓rg4, ↓rh4, ↓rp4, ↓rv5, ↓ro5, ↓rb5, ↓rn5, ↓rs5, ↓rl5, ↓ra5, ↓rk5, ↓rx5, ↓rg5, ↓rh5, ↓rp5, ↓rv6, ↓ro6, ↓rb6, ↓rn6, ↓rs6, ↓rl6, ↓ra6, ↓rk6, ↓rx6, ↓rg6, ↓rh6, ↓rp6, ↓rv7, ↓ro7, ↓rb7, ↓rn7, ↓rs7, ↓rl7, ↓ra7, ↓rk7, ↓rx7, ↓rg7, ↓rh7, ↓rp7, ↓rv8, ↓ro8, ↓rb8, ↓rn8, ↓rs8, ↓rl8, ↓ra8, ↓rk8, ↓rx8, ↓rg8, ↓rh8, ↓rp8, ↓rv9, ↓ro9, ↓rb9, ↓rn9, ↓rs9, ↓rl9, ↓ra9, ↓rk9, ↓rx9, ↓rg9, ↓rh9, ↓rp9, ↓rv10, ↓ro10, ↓rb10, ↓rn10, ↓rs10, ↓rl10, ↓ra10, ↓rk10, ↓rx10, ↓rg10, ↓rh10, ↓rp10, ↓rv11, ↓ro11, ↓rb11, ↓rn11, ↓rs11, ↓rl11, ↓ra11, ↓rk11, ↓rx11, ↓rg11, ↓rh11, ↓rp11, ↓rv12, ↓ro12, ↓rb12, ↓rn12, ↓rs12, ↓rl12, ↓ra12, ↓rk12, ↓rx12, ↓rg12, ↓rh12, ↓rp12, ↓rv13, ↓ro13, ↓rb13, ↓rn13, ↓rs13, ↓rl13, ↓ra13, ↓rk13, ↓rx13, ↓rg13, ↓rh13, ↓rp13, ↓rv14, ↓ro14, ↓rb14, ↓rn14, ↓rs14, ↓rl14, ↓ra14, ↓rk14, ↓rx14, ↓rg14, ↓rh14, ↓rp14, ↓rv15, ↓ro15, ↓rb15, ↓rn15, ↓rs15, ↓rl15, ↓ra15, ↓rk15, ↓rx15, ↓rg15, ↓rh15, ↓rp15, ↓rv16, ↓ro16, ↓rb16, ↓rn16, ↓rs16, ↓rl16, ↓ra16, ↓rk16, ↓rx16, ↓rg16, ↓rh16, ↓rp16, ↓rv17, ↓ro17, ↓rb17, ↓rn17, ↓rs17, ↓rl17, ↓ra17, ↓rk17, ↓rx17, ↓rg17, ↓rh17, ↓rp17, rn_some, k_andT, k_andF, k_orT, k_orF, k_B, k_int, k_seqN, k_seqR, k_seqB, k_seqC, k_loopN, k_loopR, k_enum, k_fnN, k_fnD, k_fnNew, e_addI, e_subI, e_ltI, e_leI, e_gtI, e_geI, e_eqI, e_neI, e_abs, e_intI, e_intB, e_at0, e_at1, e_at2, e_ix30, e_ix32, List.set_cons_zero, List.set_cons_succ, f1, List.length_cons, List.length_nil, List.all_cons, List.all_nil, cold, hots, hot, List.map_cons, List.map_nil, List.cons_append, List.nil_append, List.append_nil, List.replicate_succ, List.replicate_zero, List.take_succ_cons, List.take_zero, wipeS, backS, noOwn, Nat.reduceAdd, Nat.reduceSub, Nat.reduceLeDiff, Nat.reduceEqDiff, Bool.and_true, Bool.true_and, Bool.and_false, Bool.false_and, Bool.not_true, Bool.not_false, Bool.false_eq_true, Bool.true_eq_false, reduceCtorEq, true_and, and_true, if_true, if_false, decide_true, decide_false, isOk, isA, String.reduceBEq, turn_f, cut_1, k_zipLL, k_zipTT, k_zipTL, e_isN, e_isNot, isNo, beq_self_eq_true, bne_self_eq_false, e_eqB, e_neB, e_eqX, List.any_cons, List.any_nil, Bool.or_true, Bool.true_or, Bool.or_self, reduceIte, Bool.or_false, Bool.false_or, ri0, rt0, ri1, rt1, ri2, rt2, ri3, rt3, ri4, rt4, ri5, rt5, ri6, rt6, ri7, rt7, ri8, rt8, ri9, rt9, ri10, rt10, ri11, rt11, ri12, rt12, ri13, rt13, ri14, rt14, ri15, rt15, ri16, rt16, ri17, rt17, cast0, cast1, Int.cast_ofNat_Int, Int.reduceEq, Int.reduceLT, Int.reduceLE, Int.reduceAdd, Int.reduceSub, Int.reduceMul, Nat.reduceLT, Int.reduceToNat, Int.reducePow, Int.reduceNeg, Int.reduceNegSucc, cp6, seqD, List.flatten_cons, List.flatten_nil, List.reduceReplicate, n_gt, n_tg, n_nt, n_ng, n_dt, n_dg, h, Ne.symm h, put_nil, put_same, put_new h, put_two1 h, put_two2 h, sort_d2, two, hs, ↓rn_of (mv_gx h), ↓rn_of (mv_gy h), gp_x, gp_y h])
end
theorem right_ok {x y : Str} {k : Int} (h : x ≠ y) (hx : nameD (.str x) = true) (hy : nameD (.str y) = true) (hk : withinB (.int k) 0 999999 = true) : Rn (w_l_moves_right [.dat (.str x), .dat (.str y), .dat (.int k)]) fun p => p = (.d (.bl true), [.dat (.str x), .dat (.str y), .dat (.int k)]) := by
  have c1 : w_is_code [.dat (aCode x y k)] = some (.d (.bl true), [.dat (aCode x y k)]) := by
    have e := is_code_eq (d := aCode x y k) rfl
    have : codeB (aCode x y k) = true := by
      simp only [ab_take1, ab_take0, ab_take2, ab_give1, ab_give0, ab_give2, ab_number1, ab_number0, ab_number2, ab_keep1, ab_keep0, ab_keep2, ab_kept1, ab_kept0, ab_kept2, ab_plus0, ab_plus1, ab_less0, ab_less1, ab_times0, ab_times1, ab_below0, ab_below1, ab_twice0, ab_twice1, ab_swap0, ab_swap1, ab_drop0, ab_drop1, ab_pick0, ab_pick1, lb_take, lm_take, lb_give, lm_give, lb_number, lm_number, lb_keep, lm_keep, lb_kept, lm_kept, lb_plus, lm_plus, lb_less, lm_less, lb_times, lm_times, lb_below, lm_below, lb_twice, lm_twice, lb_swap, lm_swap, lb_drop, lm_drop, lb_pick, lm_pick, ab_put, ab_nil, ab_lst, pb_nil, pb_cons, cb_lst, cb_non, cb_str, cb_tup, hx, hy, hk, List.all_cons, List.all_nil, List.length_cons, List.length_nil, Bool.and_true, Bool.true_and, Nat.reduceAdd, Nat.reduceLeDiff, decide_true, Int.reduceLT, Int.reduceAdd, if_true, if_false, reduceIte, Bool.and_self, Int.reduceNeg]
    rw [this] at e
    exact e
  have ok : okS 6 (.lst [.bl true, .lst ((two x y).map fun z => prDa (getP [(x, 2), (y, 1)] z)), .lst ((two x y).map fun z => prDa (getP [(x, 1), (y, 2)] z))]) := by
    unfold two
    split <;> simp [okS, prDa, getP]
  have sm := same_refl 6 _ ok
  unfold w_l_moves_right
  simp (maxSteps := 20000000) only [↓u_C, ↓u_nil, ↓u_cons, ↓u_tup, ↓u_lst, ↓u_op, ↓u_and, ↓u_or, ↓u_test, ↓u_not, ↓u_notT, ↓u_andT, ↓u_orT, ↓u_ifE, ↓u_chain, ↓k_chT, ↓k_chF, ↓u_CB, ↓u_isi, ↓u_sl, ↓u_noPart, ↓u_part, ↓u_seq, ↓u_next, ↓u_retN, ↓u_bk, ↓u_ct, ↓u_drop, ↓u_ret, ↓u_if, ↓u_asg, ↓u_par, ↓u_prepN, ↓u_prepD, ↓u_prepO, ↓u_allN, ↓u_allC, ↓u_for, ↓u_loopN, ↓u_loopC, ↓u_it, ↓u_stoD, ↓u_stoN, ↓u_stosN, ↓u_stosC, ↓u_range1, ↓u_enum, ↓u_lc, ↓u_lcN, ↓u_lcC, ↓u_yes, ↓u_call, ↓u_argN, ↓u_argD, ↓u_argM, ↓u_argO, ↓u_argT, ↓u_backN, ↓u_backC, ↓u_fn, ↓k_fnO, ↓u_gtupD, ↓u_gtupN, ↓u_gtupL, ↓u_gtupT, ↓u_gN, ↓u_gC, ↓k_subL, ↓u_meth, ↓u_append, ↓u_popAt, ↓u_ixD, ↓u_ixN, ↓u_ixT, ↓u_ixS, ↓u_ixX, ↓u_mod, ↓u_div, ↓u_pow, ↓u_mul, ↓u_lenX, ↓u_lenL, ↓u_lenT, ↓u_lenC, ↓u_lenN, ↓u_addS, ↓u_isiD, ↓u_isiN, ↓u_zip, ↓u_argL, ↓u_argV, ↓u_dc, ↓u_dcN, ↓u_dcC, ↓k_dcX, ↓u_turn, ↓u_neg, ↓u_frz, ↓u_stoT, ↓u_stoL, ↓u_mulT, ↓u_addT, ↓u_listT, ↓u_listL, ↓u_slT, ↓rn_bind, ↓rn_some, ↓rn_iteT, ↓rn_iteF, ↓rv0, ↓ro0, ↓rb0, ↓rn0, ↓rs0, ↓rl0, ↓ra0, ↓rk0, ↓rx0, ↓rg0, ↓rh0, ↓rp0, ↓rv1, ↓ro1, ↓rb1, ↓rn1, ↓rs1, ↓rl1, ↓ra1, ↓rk1, ↓rx1, ↓rg1, ↓rh1, ↓rp1, ↓rv2, ↓ro2, ↓rb2, ↓rn2, ↓rs2, ↓rl2, ↓ra2, ↓rk2, ↓rx2, ↓rg2, ↓rh2, ↓rp2, ↓rv3, ↓ro3, ↓rb3, ↓rn3, ↓rs3, ↓rl3, ↓ra3, ↓rk3, ↓rx3, ↓rg3, ↓rh3, ↓rp3, ↓rv4, ↓ro4, ↓rb4, ↓rn4, ↓rs4, ↓rl4, ↓ra4, ↓rk4, ↓rx4, ↓rg4, ↓rh4, ↓rp4, ↓rv5, ↓ro5, ↓rb5, ↓rn5, ↓rs5, ↓rl5, ↓ra5, ↓rk5, ↓rx5, ↓rg5, ↓rh5, ↓rp5, ↓rv6, ↓ro6, ↓rb6, ↓rn6, ↓rs6, ↓rl6, ↓ra6, ↓rk6, ↓rx6, ↓rg6, ↓rh6, ↓rp6, ↓rv7, ↓ro7, ↓rb7, ↓rn7, ↓rs7, ↓rl7, ↓ra7, ↓rk7, ↓rx7, ↓rg7, ↓rh7, ↓rp7, ↓rv8, ↓ro8, ↓rb8, ↓rn8, ↓rs8, ↓rl8, ↓ra8, ↓rk8, ↓rx8, ↓rg8, ↓rh8, ↓rp8, ↓rv9, ↓ro9, ↓rb9, ↓rn9, ↓rs9, ↓rl9, ↓ra9, ↓rk9, ↓rx9, ↓rg9, ↓rh9, ↓rp9, ↓rv10, ↓ro10, ↓rb10, ↓rn10, ↓rs10, ↓rl10, ↓ra10, ↓rk10, ↓rx10, ↓rg10, ↓rh10, ↓rp10, ↓rv11, ↓ro11, ↓rb11, ↓rn11, ↓rs11, ↓rl11, ↓ra11, ↓rk11, ↓rx11, ↓rg11, ↓rh11, ↓rp11, ↓rv12, ↓ro12, ↓rb12, ↓rn12, ↓rs12, ↓rl12, ↓ra12, ↓rk12, ↓rx12, ↓rg12, ↓rh12, ↓rp12, ↓rv13, ↓ro13, ↓rb13, ↓rn13, ↓rs13, ↓rl13, ↓ra13, ↓rk13, ↓rx13, ↓rg13, ↓rh13, ↓rp13, ↓rv14, ↓ro14, ↓rb14, ↓rn14, ↓rs14, ↓rl14, ↓ra14, ↓rk14, ↓rx14, ↓rg14, ↓rh14, ↓rp14, ↓rv15, ↓ro15, ↓rb15, ↓rn15, ↓rs15, ↓rl15, ↓ra15, ↓rk15, ↓rx15, ↓rg15, ↓rh15, ↓rp15, ↓rv16, ↓ro16, ↓rb16, ↓rn16, ↓rs16, ↓rl16, ↓ra16, ↓rk16, ↓rx16, ↓rg16, ↓rh16, ↓rp16, ↓rv17, ↓ro17, ↓rb17, ↓rn17, ↓rs17, ↓rl17, ↓ra17, ↓rk17, ↓rx17, ↓rg17, ↓rh17, ↓rp17, rn_some, k_andT, k_andF, k_orT, k_orF, k_B, k_int, k_seqN, k_seqR, k_seqB, k_seqC, k_loopN, k_loopR, k_enum, k_fnN, k_fnD, k_fnNew, e_addI, e_subI, e_ltI, e_leI, e_gtI, e_geI, e_eqI, e_neI, e_abs, e_intI, e_intB, e_at0, e_at1, e_at2, e_ix30, e_ix32, List.set_cons_zero, List.set_cons_succ, f1, List.length_cons, List.length_nil, List.all_cons, List.all_nil, cold, hots, hot, List.map_cons, List.map_nil, List.cons_append, List.nil_append, List.append_nil, List.replicate_succ, List.replicate_zero, List.take_succ_cons, List.take_zero, wipeS, backS, noOwn, Nat.reduceAdd, Nat.reduceSub, Nat.reduceLeDiff, Nat.reduceEqDiff, Bool.and_true, Bool.true_and, Bool.and_false, Bool.false_and, Bool.not_true, Bool.not_false, Bool.false_eq_true, Bool.true_eq_false, reduceCtorEq, true_and, and_true, if_true, if_false, decide_true, decide_false, isOk, isA, String.reduceBEq, turn_f, cut_1, k_zipLL, k_zipTT, k_zipTL, e_isN, e_isNot, isNo, beq_self_eq_true, bne_self_eq_false, e_eqB, e_neB, e_eqX, List.any_cons, List.any_nil, Bool.or_true, Bool.true_or, Bool.or_self, reduceIte, Bool.or_false, Bool.false_or, ri0, rt0, ri1, rt1, ri2, rt2, ri3, rt3, ri4, rt4, ri5, rt5, ri6, rt6, ri7, rt7, ri8, rt8, ri9, rt9, ri10, rt10, ri11, rt11, ri12, rt12, ri13, rt13, ri14, rt14, ri15, rt15, ri16, rt16, ri17, rt17, cast0, cast1, Int.cast_ofNat_Int, Int.reduceEq, Int.reduceLT, Int.reduceLE, Int.reduceAdd, Int.reduceSub, Int.reduceMul, Nat.reduceLT, Int.reduceToNat, Int.reducePow, Int.reduceNeg, Int.reduceNegSucc, cp6, seqD, List.flatten_cons, List.flatten_nil, List.reduceReplicate, sort_p2 h, ↓rn_of c1, ↓rn_of (takes_ok h), ↓rn_of (gives_ok h), ↓rn_of sm]
end Tw

/-! the law k02, in plain terms -/
namespace Tw
open PySem PySem.Spec PyProof.Rows L2
theorem ints_plain : ∀ ns : List Int, plains (ns.map Da.int) = true
  | [] => rfl
  | n :: r => by
    show (plain (.int n) && plains (r.map Da.int)) = true
    rw [ints_plain r]
    rfl
theorem ints_depth : ∀ ns : List Int, PyData.depthAll (pys (ns.map Da.int)) ≤ 1
  | [] => by decide
  | n :: r => by
    show max (PyData.depth (.int n)) (PyData.depthAll (pys (r.map Da.int))) ≤ 1
    have := ints_depth r
    have h2 : PyData.depth (.int n) = 0 := rfl
    omega
theorem scr_ne {ns : List Int} {s : S} : fEq true (.d (.scr (ns.map Da.int))) (.n (.lst [])) s = some (.d (.bl (decide (ns ≠ []))), s) := by
  have ok : eqOk (.scr (ns.map Da.int)) (.lst []) = true := by
    unfold eqOk
    have h1 : plain (.scr (ns.map Da.int)) = true := ints_plain ns
    have h2 : PyData.depth (py (.scr (ns.map Da.int))) ≤ 64 := by
      show PyData.depthAll (pys (ns.map Da.int)) + 1 ≤ 64
      have := ints_depth ns
      omega
    rw [h1, decide_eq_true h2]
    decide
  show (if eqOk (.scr (ns.map Da.int)) (.lst []) = true then some (RV.d (.bl (!eqD (.scr (ns.map Da.int)) (.lst []))), s) else none) = _
  rw [if_pos ok]
  cases ns with
  | nil => rfl
  | cons n r => rfl
theorem scr_nil {s : S} : fEq true (.d (.scr [])) (.n (.lst [])) s = some (.d (.bl false), s) := rfl
theorem nm_name {z : Str} (h : IsNm z) : nameD (.str z) = true := by
  obtain ⟨h1, h2, h3⟩ := h
  show (decide (1 ≤ z.length) && decide (z.length ≤ 8) && z.cps.toList.all isLt) = true
  rw [decide_eq_true h1, decide_eq_true h2]
  refine List.all_eq_true.mpr fun c hc => ?_
  obtain ⟨a, b⟩ := h3 c hc
  have := (by decide +kernel : ∀ c, c < 123 → 97 ≤ c → isLt c = true)
  exact this c (by omega) a
theorem allG_mem : ∀ {ds : List Da}, allG ds → ∀ x ∈ ds, goodC x
  | [], _, x, h => by simp at h
  | d :: ds, q, x, h => (List.mem_cons.mp h).elim (fun e => by rw [e]; exact q.1) (allG_mem q.2 x)
theorem good_is {x : Da} (h : goodC x) : ∃ c b, x = .tup [c, .bl b] ∧ plain c = true ∧ codeB c = b := by
  unfold goodC at h
  split at h
  · exact ⟨_, _, rfl, h.1, h.2⟩
  · exact h.elim
/-- the codes of one turn -/
theorem codes_loop {a0 a1 a2 a3 a4 a5 a6 : SV} : ∀ (ds : List Da) (a7 a8 : SV), (∀ x ∈ ds, goodC x) → Rn (loopS (wgTup 2 (wgCons (bindV 7) (wgCons (bindV 8) wgNil)))
      (wIf (wNotT (wTest (wCall 2 [false, false] (w_l_same 6) (wCons (wCall 1 [false] w_is_code (wCons (wVar 7) wNil)) (wCons (wVar 8) wNil)))))
        (wRet (wC (.bl false)))
        wNext) ds [a0, a1, a2, a3, a4, a5, a6, a7, a8]) fun p => ∃ a7' a8' : SV, p = (.nx, [a0, a1, a2, a3, a4, a5, a6, a7', a8'])
  | [], a7, a8, _ => by
    show Rn (some _) _
    rw [rn_some]
    exact ⟨_, _, rfl⟩
  | x :: ds, a7, a8, h => by
    obtain ⟨c, b, rfl, hc, hb⟩ := good_is (h x (by simp))
    have e1 := is_code_eq hc
    rw [hb] at e1
    have e2 := same_refl 6 (.bl b) trivial
    rw [u_loopC]
    simp (maxSteps := 20000000) only [↓u_C, ↓u_nil, ↓u_cons, ↓u_tup, ↓u_lst, ↓u_op, ↓u_and, ↓u_or, ↓u_test, ↓u_not, ↓u_notT, ↓u_andT, ↓u_orT, ↓u_ifE, ↓u_chain, ↓k_chT, ↓k_chF, ↓u_CB, ↓u_isi, ↓u_sl, ↓u_noPart, ↓u_part, ↓u_seq, ↓u_next, ↓u_retN, ↓u_bk, ↓u_ct, ↓u_drop, ↓u_ret, ↓u_if, ↓u_asg, ↓u_par, ↓u_prepN, ↓u_prepD, ↓u_prepO, ↓u_allN, ↓u_allC, ↓u_for, ↓u_loopN, ↓u_loopC, ↓u_it, ↓u_stoD, ↓u_stoN, ↓u_stosN, ↓u_stosC, ↓u_range1, ↓u_enum, ↓u_lc, ↓u_lcN, ↓u_lcC, ↓u_yes, ↓u_call, ↓u_argN, ↓u_argD, ↓u_argM, ↓u_argO, ↓u_argT, ↓u_backN, ↓u_backC, ↓u_fn, ↓k_fnO, ↓u_gtupD, ↓u_gtupN, ↓u_gtupL, ↓u_gtupT, ↓u_gN, ↓u_gC, ↓k_subL, ↓u_meth, ↓u_append, ↓u_popAt, ↓u_ixD, ↓u_ixN, ↓u_ixT, ↓u_ixS, ↓u_ixX, ↓u_mod, ↓u_div, ↓u_pow, ↓u_mul, ↓u_lenX, ↓u_lenL, ↓u_lenT, ↓u_lenC, ↓u_lenN, ↓u_addS, ↓u_isiD, ↓u_isiN, ↓u_zip, ↓u_argL, ↓u_argV, ↓u_dc, ↓u_dcN, ↓u_dcC, ↓k_dcX, ↓u_turn, ↓u_neg, ↓u_frz, ↓u_stoT, ↓u_stoL, ↓u_mulT, ↓u_addT, ↓u_listT, ↓u_listL, ↓u_slT, ↓rn_bind, ↓rn_some, ↓rn_iteT, ↓rn_iteF, ↓rv0, ↓ro0, ↓rb0, ↓rn0, ↓rs0, ↓rl0, ↓ra0, ↓rk0, ↓rx0, ↓rg0, ↓rh0, ↓rp0, ↓rv1, ↓ro1, ↓rb1, ↓rn1, ↓rs1, ↓rl1, ↓ra1, ↓rk1, ↓rx1, ↓rg1, ↓rh1, ↓rp1, ↓rv2, ↓ro2, ↓rb2, ↓rn2, ↓rs2, ↓rl2, ↓ra2, ↓rk2, ↓rx2, ↓rg2, ↓rh2, ↓rp2, ↓rv3, ↓ro3, ↓rb3, ↓rn3, ↓rs3, ↓rl3, ↓ra3, ↓rk3, ↓rx3, ↓rg3, ↓rh3, ↓rp3, ↓rv4, ↓ro4, ↓rb4, ↓rn4, ↓rs4, ↓rl4, ↓ra4, ↓rk4, ↓rx4, ↓rg4, ↓rh4, ↓rp4, ↓rv5, ↓ro5, ↓rb5, ↓rn5, ↓rs5, ↓rl5, ↓ra5, ↓rk5, ↓rx5, ↓rg5, ↓rh5, ↓rp5, ↓rv6, ↓ro6, ↓rb6, ↓rn6, ↓rs6, ↓rl6, ↓ra6, ↓rk6, ↓rx6, ↓rg6, ↓rh6, ↓rp6, ↓rv7, ↓ro7, ↓rb7, ↓rn7, ↓rs7, ↓rl7, ↓ra7, ↓rk7, ↓rx7, ↓rg7, ↓rh7, ↓rp7, ↓rv8, ↓ro8, ↓rb8, ↓rn8, ↓rs8, ↓rl8, ↓ra8, ↓rk8, ↓rx8, ↓rg8, ↓rh8, ↓rp8, ↓rv9, ↓ro9, ↓rb9, ↓rn9, ↓rs9, ↓rl9, ↓ra9, ↓rk9, ↓rx9, ↓rg9, ↓rh9, ↓rp9, ↓rv10, ↓ro10, ↓rb10, ↓rn10, ↓rs10, ↓rl10, ↓ra10, ↓rk10, ↓rx10, ↓rg10, ↓rh10, ↓rp10, ↓rv11, ↓ro11, ↓rb11, ↓rn11, ↓rs11, ↓rl11, ↓ra11, ↓rk11, ↓rx11, ↓rg11, ↓rh11, ↓rp11, ↓rv12, ↓ro12, ↓rb12, ↓rn12, ↓rs12, ↓rl12, ↓ra12, ↓rk12, ↓rx12, ↓rg12, ↓rh12, ↓rp12, ↓rv13, ↓ro13, ↓rb13, ↓rn13, ↓rs13, ↓rl13, ↓ra13, ↓rk13, ↓rx13, ↓rg13, ↓rh13, ↓rp13, ↓rv14, ↓ro14, ↓rb14, ↓rn14, ↓rs14, ↓rl14, ↓ra14, ↓rk14, ↓rx14, ↓rg14, ↓rh14, ↓rp14, ↓rv15, ↓ro15, ↓rb15, ↓rn15, ↓rs15, ↓rl15, ↓ra15, ↓rk15, ↓rx15, ↓rg15, ↓rh15, ↓rp15, ↓rv16, ↓ro16, ↓rb16, ↓rn16, ↓rs16, ↓rl16, ↓ra16, ↓rk16, ↓rx16, ↓rg16, ↓rh16, ↓rp16, ↓rv17, ↓ro17, ↓rb17, ↓rn17, ↓rs17, ↓rl17, ↓ra17, ↓rk17, ↓rx17, ↓rg17, ↓rh17, ↓rp17, rn_some, k_andT, k_andF, k_orT, k_orF, k_B, k_int, k_seqN, k_seqR, k_seqB, k_seqC, k_loopN, k_loopR, k_enum, k_fnN, k_fnD, k_fnNew, e_addI, e_subI, e_ltI, e_leI, e_gtI, e_geI, e_eqI, e_neI, e_abs, e_intI, e_intB, e_at0, e_at1, e_at2, e_ix30, e_ix32, List.set_cons_zero, List.set_cons_succ, f1, List.length_cons, List.length_nil, List.all_cons, List.all_nil, cold, hots, hot, List.map_cons, List.map_nil, List.cons_append, List.nil_append, List.append_nil, List.replicate_succ, List.replicate_zero, List.take_succ_cons, List.take_zero, wipeS, backS, noOwn, Nat.reduceAdd, Nat.reduceSub, Nat.reduceLeDiff, Nat.reduceEqDiff, Bool.and_true, Bool.true_and, Bool.and_false, Bool.false_and, Bool.not_true, Bool.not_false, Bool.false_eq_true, Bool.true_eq_false, reduceCtorEq, true_and, and_true, if_true, if_false, decide_true, decide_false, isOk, isA, String.reduceBEq, turn_f, cut_1, k_zipLL, k_zipTT, k_zipTL, e_isN, e_isNot, isNo, beq_self_eq_true, bne_self_eq_false, e_eqB, e_neB, e_eqX, List.any_cons, List.any_nil, Bool.or_true, Bool.true_or, Bool.or_self, reduceIte, Bool.or_false, Bool.false_or, ri0, rt0, ri1, rt1, ri2, rt2, ri3, rt3, ri4, rt4, ri5, rt5, ri6, rt6, ri7, rt7, ri8, rt8, ri9, rt9, ri10, rt10, ri11, rt11, ri12, rt12, ri13, rt13, ri14, rt14, ri15, rt15, ri16, rt16, ri17, rt17, cast0, cast1, Int.cast_ofNat_Int, Int.reduceEq, Int.reduceLT, Int.reduceLE, Int.reduceAdd, Int.reduceSub, Int.reduceMul, Nat.reduceLT, Int.reduceToNat, Int.reducePow, Int.reduceNeg, Int.reduceNegSucc, cp6, seqD, List.flatten_cons, List.flatten_nil, List.reduceReplicate, ↓rn_of e1, ↓rn_of e2]
    exact codes_loop ds _ _ fun y hy => h y (List.mem_cons_of_mem _ hy)
theorem law_loop {ns cs : List Int} (hl : cs.length ≤ 4) : ∀ (ks : List Nat) (c1 a2 a3 a4 a5 a6 a7 a8 : SV), (c1 = .own (.lst (cs.map Da.int)) ∨ c1 = .dat (.lst (cs.map Da.int))) → (∀ k ∈ ks, k ≤ 4) → Rn (loopS (bindV 2)
    (wSeq (wAsg (wCall 2 [false, false] w_l_tape (wCons (wVar 1) (wCons (wVar 2) wNil))) (bindV 3))
    (wSeq (wAsg (wCall 2 [true, false] w_l_names (wCons (wVar 3) (wCons (wC (.int 2)) wNil))) (wgTup 2 (wgCons (bindV 4) (wgCons (bindV 5) wgNil))))
    (wSeq (wAsg (wCall 2 [false, false] w_l_cases (wCons (wVar 4) (wCons (wCall 2 [true, false] w_l_draw (wCons (wVar 3) (wCons (wOp fPow (wC (.int 10)) (wC (.int 6))) wNil))) wNil))) (bindV 6))
    (wSeq (wFor (wIt (wCall 3 [true, false, false] w_l_part (wCons (wVar 3) (wCons (wVar 6) (wCons (wCB (f1 fLen) (wCons (wVar 6) wNil)) wNil))))) (wgTup 2 (wgCons (bindV 7) (wgCons (bindV 8) wgNil)))
      (wIf (wNotT (wTest (wCall 2 [false, false] (w_l_same 6) (wCons (wCall 1 [false] w_is_code (wCons (wVar 7) wNil)) (wCons (wVar 8) wNil)))))
        (wRet (wC (.bl false)))
        wNext))
    (wIf (wOrT (wNotT (wTest (wCall 2 [false, false] (w_l_same 6) (wCons (wLst (wCons (wCall 1 [false] w_takes_of (wCons (wTup wNil) wNil)) (wCons (wCall 1 [false] w_gives_of (wTurn false (wCons (wTup wNil) wNil))) wNil))) (wCons (wLst (wCons (wLst wNil) (wCons (wLst wNil) wNil))) wNil))))) (wNotT (wTest (wCall 3 [false, false, false] w_l_moves_right (wCons (wVar 4) (wCons (wVar 5) (wCons (wC (.int 7)) wNil)))))))
      (wRet (wC (.bl false)))
      wNext))))) (ks.map fun k => Da.int (k : Nat)) [.dat (.scr (ns.map Da.int)), c1, a2, a3, a4, a5, a6, a7, a8]) fun p => ∃ s1 : List SV, p = (.nx, .dat (.scr (ns.map Da.int)) :: s1) ∧ s1.length = 8
  | [], c1, a2, a3, a4, a5, a6, a7, a8, _, _ => by
    show Rn (some _) _
    rw [rn_some]
    exact ⟨_, rfl, rfl⟩
  | k :: ks, c1, a2, a3, a4, a5, a6, a7, a8, hc, hk => by
    obtain ⟨tp, e1, t1⟩ := tape_eq (s1 := .dat (.lst (cs.map Da.int))) (cells := cs) (k := k) (.inl rfl) (by have := hk k (by simp); omega)
    obtain ⟨nm, tp2, e2, l2, nd, hn, t2⟩ := names_eq (n := 900000) (m := 2) (t1.le (by decide)) (by decide)
    obtain ⟨x, y, rfl⟩ : ∃ x y, nm = [x, y] := by
      match nm, l2 with
      | [x, y], _ => exact ⟨x, y, rfl⟩
    have hxy : x ≠ y := by
      simp at nd
      exact nd
    obtain ⟨nb, tp3, e3, n0, n1, t3⟩ := draw_eq (m := 1000000) t2 (by decide) (by decide)
    have hx := nm_name (hn x (by simp))
    have hy := nm_name (hn y (by simp))
    have hnb : withinB (.int nb) 0 999999 = true := by
      show (decide (0 ≤ nb) && decide (nb ≤ 999999)) = true
      rw [decide_eq_true n0, decide_eq_true (by omega)]
      rfl
    obtain ⟨_, e4, ds, rfl, l4, g4⟩ := cases_ok hx hnb
    obtain ⟨out, tp5, e5, m5, l5, t5⟩ := part_eq (n := 0) (m := ds.length) (ds := ds) (t3.le (by omega)) (Nat.le_refl _) (by omega)
    obtain ⟨_, e6, rfl⟩ := right_ok (k := 7) hxy hx hy rfl
    have e7 := same_refl 6 (.lst [.lst [], .lst []]) (by simp [okS])
    have cI : ((2 : Nat) : Int) = 2 := rfl
    rw [cI] at e2
    rw [List.map_cons, u_loopC]
    rcases hc with rfl | rfl
    · simp (maxSteps := 20000000) only [↓u_C, ↓u_nil, ↓u_cons, ↓u_tup, ↓u_lst, ↓u_op, ↓u_and, ↓u_or, ↓u_test, ↓u_not, ↓u_notT, ↓u_andT, ↓u_orT, ↓u_ifE, ↓u_chain, ↓k_chT, ↓k_chF, ↓u_CB, ↓u_isi, ↓u_sl, ↓u_noPart, ↓u_part, ↓u_seq, ↓u_next, ↓u_retN, ↓u_bk, ↓u_ct, ↓u_drop, ↓u_ret, ↓u_if, ↓u_asg, ↓u_par, ↓u_prepN, ↓u_prepD, ↓u_prepO, ↓u_allN, ↓u_allC, ↓u_for, ↓u_loopN, ↓u_loopC, ↓u_it, ↓u_stoD, ↓u_stoN, ↓u_stosN, ↓u_stosC, ↓u_range1, ↓u_enum, ↓u_lc, ↓u_lcN, ↓u_lcC, ↓u_yes, ↓u_call, ↓u_argN, ↓u_argD, ↓u_argM, ↓u_argO, ↓u_argT, ↓u_backN, ↓u_backC, ↓u_fn, ↓k_fnO, ↓u_gtupD, ↓u_gtupN, ↓u_gtupL, ↓u_gtupT, ↓u_gN, ↓u_gC, ↓k_subL, ↓u_meth, ↓u_append, ↓u_popAt, ↓u_ixD, ↓u_ixN, ↓u_ixT, ↓u_ixS, ↓u_ixX, ↓u_mod, ↓u_div, ↓u_pow, ↓u_mul, ↓u_lenX, ↓u_lenL, ↓u_lenT, ↓u_lenC, ↓u_lenN, ↓u_addS, ↓u_isiD, ↓u_isiN, ↓u_zip, ↓u_argL, ↓u_argV, ↓u_dc, ↓u_dcN, ↓u_dcC, ↓k_dcX, ↓u_turn, ↓u_neg, ↓u_frz, ↓u_stoT, ↓u_stoL, ↓u_mulT, ↓u_addT, ↓u_listT, ↓u_listL, ↓u_slT, ↓rn_bind, ↓rn_some, ↓rn_iteT, ↓rn_iteF, ↓rv0, ↓ro0, ↓rb0, ↓rn0, ↓rs0, ↓rl0, ↓ra0, ↓rk0, ↓rx0, ↓rg0, ↓rh0, ↓rp0, ↓rv1, ↓ro1, ↓rb1, ↓rn1, ↓rs1, ↓rl1, ↓ra1, ↓rk1, ↓rx1, ↓rg1, ↓rh1, ↓rp1, ↓rv2, ↓ro2, ↓rb2, ↓rn2, ↓rs2, ↓rl2, ↓ra2, ↓rk2, ↓rx2, ↓rg2, ↓rh2, ↓rp2, ↓rv3, ↓ro3, ↓rb3, ↓rn3, ↓rs3, ↓rl3, ↓ra3, ↓rk3, ↓rx3, ↓rg3, ↓rh3, ↓rp3, ↓rv4, ↓ro4, ↓rb4, ↓rn4, ↓rs4, ↓rl4, ↓ra4, ↓rk4, ↓rx4, ↓rg4, ↓rh4, ↓rp4, ↓rv5, ↓ro5, ↓rb5, ↓rn5, ↓rs5, ↓rl5, ↓ra5, ↓rk5, ↓rx5, ↓rg5, ↓rh5, ↓rp5, ↓rv6, ↓ro6, ↓rb6, ↓rn6, ↓rs6, ↓rl6, ↓ra6, ↓rk6, ↓rx6, ↓rg6, ↓rh6, ↓rp6, ↓rv7, ↓ro7, ↓rb7, ↓rn7, ↓rs7, ↓rl7, ↓ra7, ↓rk7, ↓rx7, ↓rg7, ↓rh7, ↓rp7, ↓rv8, ↓ro8, ↓rb8, ↓rn8, ↓rs8, ↓rl8, ↓ra8, ↓rk8, ↓rx8, ↓rg8, ↓rh8, ↓rp8, ↓rv9, ↓ro9, ↓rb9, ↓rn9, ↓rs9, ↓rl9, ↓ra9, ↓rk9, ↓rx9, ↓rg9, ↓rh9, ↓rp9, ↓rv10, ↓ro10, ↓rb10, ↓rn10, ↓rs10, ↓rl10, ↓ra10, ↓rk10, ↓rx10, ↓rg10, ↓rh10, ↓rp10, ↓rv11, ↓ro11, ↓rb11, ↓rn11, ↓rs11, ↓rl11, ↓ra11, ↓rk11, ↓rx11, ↓rg11, ↓rh11, ↓rp11, ↓rv12, ↓ro12, ↓rb12, ↓rn12, ↓rs12, ↓rl12, ↓ra12, ↓rk12, ↓rx12, ↓rg12, ↓rh12, ↓rp12, ↓rv13, ↓ro13, ↓rb13, ↓rn13, ↓rs13, ↓rl13, ↓ra13, ↓rk13, ↓rx13, ↓rg13, ↓rh13, ↓rp13, ↓rv14, ↓ro14, ↓rb14, ↓rn14, ↓rs14, ↓rl14, ↓ra14, ↓rk14, ↓rx14, ↓rg14, ↓rh14, ↓rp14, ↓rv15, ↓ro15, ↓rb15, ↓rn15, ↓rs15, ↓rl15, ↓ra15, ↓rk15, ↓rx15, ↓rg15, ↓rh15, ↓rp15, ↓rv16, ↓ro16, ↓rb16, ↓rn16, ↓rs16, ↓rl16, ↓ra16, ↓rk16, ↓rx16, ↓rg16, ↓rh16, ↓rp16, ↓rv17, ↓ro17, ↓rb17, ↓rn17, ↓rs17, ↓rl17, ↓ra17, ↓rk17, ↓rx17, ↓rg17, ↓rh17, ↓rp17, rn_some, k_andT, k_andF, k_orT, k_orF, k_B, k_int, k_seqN, k_seqR, k_seqB, k_seqC, k_loopN, k_loopR, k_enum, k_fnN, k_fnD, k_fnNew, e_addI, e_subI, e_ltI, e_leI, e_gtI, e_geI, e_eqI, e_neI, e_abs, e_intI, e_intB, e_at0, e_at1, e_at2, e_ix30, e_ix32, List.set_cons_zero, List.set_cons_succ, f1, List.length_cons, List.length_nil, List.all_cons, List.all_nil, cold, hots, hot, List.map_cons, List.map_nil, List.cons_append, List.nil_append, List.append_nil, List.replicate_succ, List.replicate_zero, List.take_succ_cons, List.take_zero, wipeS, backS, noOwn, Nat.reduceAdd, Nat.reduceSub, Nat.reduceLeDiff, Nat.reduceEqDiff, Bool.and_true, Bool.true_and, Bool.and_false, Bool.false_and, Bool.not_true, Bool.not_false, Bool.false_eq_true, Bool.true_eq_false, reduceCtorEq, true_and, and_true, if_true, if_false, decide_true, decide_false, isOk, isA, String.reduceBEq, turn_f, cut_1, k_zipLL, k_zipTT, k_zipTL, e_isN, e_isNot, isNo, beq_self_eq_true, bne_self_eq_false, e_eqB, e_neB, e_eqX, List.any_cons, List.any_nil, Bool.or_true, Bool.true_or, Bool.or_self, reduceIte, Bool.or_false, Bool.false_or, ri0, rt0, ri1, rt1, ri2, rt2, ri3, rt3, ri4, rt4, ri5, rt5, ri6, rt6, ri7, rt7, ri8, rt8, ri9, rt9, ri10, rt10, ri11, rt11, ri12, rt12, ri13, rt13, ri14, rt14, ri15, rt15, ri16, rt16, ri17, rt17, cast0, cast1, Int.cast_ofNat_Int, Int.reduceEq, Int.reduceLT, Int.reduceLE, Int.reduceAdd, Int.reduceSub, Int.reduceMul, Nat.reduceLT, Int.reduceToNat, Int.reducePow, Int.reduceNeg, Int.reduceNegSucc, cp6, seqD, List.flatten_cons, List.flatten_nil, List.reduceReplicate, ↓rn_of e1, ↓rn_of e2, ↓rn_of e3, ↓rn_of e4, ↓rn_of e5]
      refine rn_imp (codes_loop out _ _ fun z hz => allG_mem g4 z (m5 z hz)) fun p ⟨b7, b8, e⟩ => ?_
      subst e
      simp (maxSteps := 20000000) only [↓u_C, ↓u_nil, ↓u_cons, ↓u_tup, ↓u_lst, ↓u_op, ↓u_and, ↓u_or, ↓u_test, ↓u_not, ↓u_notT, ↓u_andT, ↓u_orT, ↓u_ifE, ↓u_chain, ↓k_chT, ↓k_chF, ↓u_CB, ↓u_isi, ↓u_sl, ↓u_noPart, ↓u_part, ↓u_seq, ↓u_next, ↓u_retN, ↓u_bk, ↓u_ct, ↓u_drop, ↓u_ret, ↓u_if, ↓u_asg, ↓u_par, ↓u_prepN, ↓u_prepD, ↓u_prepO, ↓u_allN, ↓u_allC, ↓u_for, ↓u_loopN, ↓u_loopC, ↓u_it, ↓u_stoD, ↓u_stoN, ↓u_stosN, ↓u_stosC, ↓u_range1, ↓u_enum, ↓u_lc, ↓u_lcN, ↓u_lcC, ↓u_yes, ↓u_call, ↓u_argN, ↓u_argD, ↓u_argM, ↓u_argO, ↓u_argT, ↓u_backN, ↓u_backC, ↓u_fn, ↓k_fnO, ↓u_gtupD, ↓u_gtupN, ↓u_gtupL, ↓u_gtupT, ↓u_gN, ↓u_gC, ↓k_subL, ↓u_meth, ↓u_append, ↓u_popAt, ↓u_ixD, ↓u_ixN, ↓u_ixT, ↓u_ixS, ↓u_ixX, ↓u_mod, ↓u_div, ↓u_pow, ↓u_mul, ↓u_lenX, ↓u_lenL, ↓u_lenT, ↓u_lenC, ↓u_lenN, ↓u_addS, ↓u_isiD, ↓u_isiN, ↓u_zip, ↓u_argL, ↓u_argV, ↓u_dc, ↓u_dcN, ↓u_dcC, ↓k_dcX, ↓u_turn, ↓u_neg, ↓u_frz, ↓u_stoT, ↓u_stoL, ↓u_mulT, ↓u_addT, ↓u_listT, ↓u_listL, ↓u_slT, ↓rn_bind, ↓rn_some, ↓rn_iteT, ↓rn_iteF, ↓rv0, ↓ro0, ↓rb0, ↓rn0, ↓rs0, ↓rl0, ↓ra0, ↓rk0, ↓rx0, ↓rg0, ↓rh0, ↓rp0, ↓rv1, ↓ro1, ↓rb1, ↓rn1, ↓rs1, ↓rl1, ↓ra1, ↓rk1, ↓rx1, ↓rg1, ↓rh1, ↓rp1, ↓rv2, ↓ro2, ↓rb2, ↓rn2, ↓rs2, ↓rl2, ↓ra2, ↓rk2, ↓rx2, ↓rg2, ↓rh2, ↓rp2, ↓rv3, ↓ro3, ↓rb3, ↓rn3, ↓rs3, ↓rl3, ↓ra3, ↓rk3, ↓rx3, ↓rg3, ↓rh3, ↓rp3, ↓rv4, ↓ro4, ↓rb4, ↓rn4, ↓rs4, ↓rl4, ↓ra4, ↓rk4, ↓rx4, ↓rg4, ↓rh4, ↓rp4, ↓rv5, ↓ro5, ↓rb5, ↓rn5, ↓rs5, ↓rl5, ↓ra5, ↓rk5, ↓rx5, ↓rg5, ↓rh5, ↓rp5, ↓rv6, ↓ro6, ↓rb6, ↓rn6, ↓rs6, ↓rl6, ↓ra6, ↓rk6, ↓rx6, ↓rg6, ↓rh6, ↓rp6, ↓rv7, ↓ro7, ↓rb7, ↓rn7, ↓rs7, ↓rl7, ↓ra7, ↓rk7, ↓rx7, ↓rg7, ↓rh7, ↓rp7, ↓rv8, ↓ro8, ↓rb8, ↓rn8, ↓rs8, ↓rl8, ↓ra8, ↓rk8, ↓rx8, ↓rg8, ↓rh8, ↓rp8, ↓rv9, ↓ro9, ↓rb9, ↓rn9, ↓rs9, ↓rl9, ↓ra9, ↓rk9, ↓rx9, ↓rg9, ↓rh9, ↓rp9, ↓rv10, ↓ro10, ↓rb10, ↓rn10, ↓rs10, ↓rl10, ↓ra10, ↓rk10, ↓rx10, ↓rg10, ↓rh10, ↓rp10, ↓rv11, ↓ro11, ↓rb11, ↓rn11, ↓rs11, ↓rl11, ↓ra11, ↓rk11, ↓rx11, ↓rg11, ↓rh11, ↓rp11, ↓rv12, ↓ro12, ↓rb12, ↓rn12, ↓rs12, ↓rl12, ↓ra12, ↓rk12, ↓rx12, ↓rg12, ↓rh12, ↓rp12, ↓rv13, ↓ro13, ↓rb13, ↓rn13, ↓rs13, ↓rl13, ↓ra13, ↓rk13, ↓rx13, ↓rg13, ↓rh13, ↓rp13, ↓rv14, ↓ro14, ↓rb14, ↓rn14, ↓rs14, ↓rl14, ↓ra14, ↓rk14, ↓rx14, ↓rg14, ↓rh14, ↓rp14, ↓rv15, ↓ro15, ↓rb15, ↓rn15, ↓rs15, ↓rl15, ↓ra15, ↓rk15, ↓rx15, ↓rg15, ↓rh15, ↓rp15, ↓rv16, ↓ro16, ↓rb16, ↓rn16, ↓rs16, ↓rl16, ↓ra16, ↓rk16, ↓rx16, ↓rg16, ↓rh16, ↓rp16, ↓rv17, ↓ro17, ↓rb17, ↓rn17, ↓rs17, ↓rl17, ↓ra17, ↓rk17, ↓rx17, ↓rg17, ↓rh17, ↓rp17, rn_some, k_andT, k_andF, k_orT, k_orF, k_B, k_int, k_seqN, k_seqR, k_seqB, k_seqC, k_loopN, k_loopR, k_enum, k_fnN, k_fnD, k_fnNew, e_addI, e_subI, e_ltI, e_leI, e_gtI, e_geI, e_eqI, e_neI, e_abs, e_intI, e_intB, e_at0, e_at1, e_at2, e_ix30, e_ix32, List.set_cons_zero, List.set_cons_succ, f1, List.length_cons, List.length_nil, List.all_cons, List.all_nil, cold, hots, hot, List.map_cons, List.map_nil, List.cons_append, List.nil_append, List.append_nil, List.replicate_succ, List.replicate_zero, List.take_succ_cons, List.take_zero, wipeS, backS, noOwn, Nat.reduceAdd, Nat.reduceSub, Nat.reduceLeDiff, Nat.reduceEqDiff, Bool.and_true, Bool.true_and, Bool.and_false, Bool.false_and, Bool.not_true, Bool.not_false, Bool.false_eq_true, Bool.true_eq_false, reduceCtorEq, true_and, and_true, if_true, if_false, decide_true, decide_false, isOk, isA, String.reduceBEq, turn_f, cut_1, k_zipLL, k_zipTT, k_zipTL, e_isN, e_isNot, isNo, beq_self_eq_true, bne_self_eq_false, e_eqB, e_neB, e_eqX, List.any_cons, List.any_nil, Bool.or_true, Bool.true_or, Bool.or_self, reduceIte, Bool.or_false, Bool.false_or, ri0, rt0, ri1, rt1, ri2, rt2, ri3, rt3, ri4, rt4, ri5, rt5, ri6, rt6, ri7, rt7, ri8, rt8, ri9, rt9, ri10, rt10, ri11, rt11, ri12, rt12, ri13, rt13, ri14, rt14, ri15, rt15, ri16, rt16, ri17, rt17, cast0, cast1, Int.cast_ofNat_Int, Int.reduceEq, Int.reduceLT, Int.reduceLE, Int.reduceAdd, Int.reduceSub, Int.reduceMul, Nat.reduceLT, Int.reduceToNat, Int.reducePow, Int.reduceNeg, Int.reduceNegSucc, cp6, seqD, List.flatten_cons, List.flatten_nil, List.reduceReplicate, ↓rn_of none_of.1, ↓rn_of none_of.2, ↓rn_of e7, ↓rn_of e6]
      exact law_loop hl ks _ _ _ _ _ _ _ _ (.inr rfl) fun j hj => hk j (List.mem_cons_of_mem _ hj)
    · simp (maxSteps := 20000000) only [↓u_C, ↓u_nil, ↓u_cons, ↓u_tup, ↓u_lst, ↓u_op, ↓u_and, ↓u_or, ↓u_test, ↓u_not, ↓u_notT, ↓u_andT, ↓u_orT, ↓u_ifE, ↓u_chain, ↓k_chT, ↓k_chF, ↓u_CB, ↓u_isi, ↓u_sl, ↓u_noPart, ↓u_part, ↓u_seq, ↓u_next, ↓u_retN, ↓u_bk, ↓u_ct, ↓u_drop, ↓u_ret, ↓u_if, ↓u_asg, ↓u_par, ↓u_prepN, ↓u_prepD, ↓u_prepO, ↓u_allN, ↓u_allC, ↓u_for, ↓u_loopN, ↓u_loopC, ↓u_it, ↓u_stoD, ↓u_stoN, ↓u_stosN, ↓u_stosC, ↓u_range1, ↓u_enum, ↓u_lc, ↓u_lcN, ↓u_lcC, ↓u_yes, ↓u_call, ↓u_argN, ↓u_argD, ↓u_argM, ↓u_argO, ↓u_argT, ↓u_backN, ↓u_backC, ↓u_fn, ↓k_fnO, ↓u_gtupD, ↓u_gtupN, ↓u_gtupL, ↓u_gtupT, ↓u_gN, ↓u_gC, ↓k_subL, ↓u_meth, ↓u_append, ↓u_popAt, ↓u_ixD, ↓u_ixN, ↓u_ixT, ↓u_ixS, ↓u_ixX, ↓u_mod, ↓u_div, ↓u_pow, ↓u_mul, ↓u_lenX, ↓u_lenL, ↓u_lenT, ↓u_lenC, ↓u_lenN, ↓u_addS, ↓u_isiD, ↓u_isiN, ↓u_zip, ↓u_argL, ↓u_argV, ↓u_dc, ↓u_dcN, ↓u_dcC, ↓k_dcX, ↓u_turn, ↓u_neg, ↓u_frz, ↓u_stoT, ↓u_stoL, ↓u_mulT, ↓u_addT, ↓u_listT, ↓u_listL, ↓u_slT, ↓rn_bind, ↓rn_some, ↓rn_iteT, ↓rn_iteF, ↓rv0, ↓ro0, ↓rb0, ↓rn0, ↓rs0, ↓rl0, ↓ra0, ↓rk0, ↓rx0, ↓rg0, ↓rh0, ↓rp0, ↓rv1, ↓ro1, ↓rb1, ↓rn1, ↓rs1, ↓rl1, ↓ra1, ↓rk1, ↓rx1, ↓rg1, ↓rh1, ↓rp1, ↓rv2, ↓ro2, ↓rb2, ↓rn2, ↓rs2, ↓rl2, ↓ra2, ↓rk2, ↓rx2, ↓rg2, ↓rh2, ↓rp2, ↓rv3, ↓ro3, ↓rb3, ↓rn3, ↓rs3, ↓rl3, ↓ra3, ↓rk3, ↓rx3, ↓rg3, ↓rh3, ↓rp3, ↓rv4, ↓ro4, ↓rb4, ↓rn4, ↓rs4, ↓rl4, ↓ra4, ↓rk4, ↓rx4, ↓rg4, ↓rh4, ↓rp4, ↓rv5, ↓ro5, ↓rb5, ↓rn5, ↓rs5, ↓rl5, ↓ra5, ↓rk5, ↓rx5, ↓rg5, ↓rh5, ↓rp5, ↓rv6, ↓ro6, ↓rb6, ↓rn6, ↓rs6, ↓rl6, ↓ra6, ↓rk6, ↓rx6, ↓rg6, ↓rh6, ↓rp6, ↓rv7, ↓ro7, ↓rb7, ↓rn7, ↓rs7, ↓rl7, ↓ra7, ↓rk7, ↓rx7, ↓rg7, ↓rh7, ↓rp7, ↓rv8, ↓ro8, ↓rb8, ↓rn8, ↓rs8, ↓rl8, ↓ra8, ↓rk8, ↓rx8, ↓rg8, ↓rh8, ↓rp8, ↓rv9, ↓ro9, ↓rb9, ↓rn9, ↓rs9, ↓rl9, ↓ra9, ↓rk9, ↓rx9, ↓rg9, ↓rh9, ↓rp9, ↓rv10, ↓ro10, ↓rb10, ↓rn10, ↓rs10, ↓rl10, ↓ra10, ↓rk10, ↓rx10, ↓rg10, ↓rh10, ↓rp10, ↓rv11, ↓ro11, ↓rb11, ↓rn11, ↓rs11, ↓rl11, ↓ra11, ↓rk11, ↓rx11, ↓rg11, ↓rh11, ↓rp11, ↓rv12, ↓ro12, ↓rb12, ↓rn12, ↓rs12, ↓rl12, ↓ra12, ↓rk12, ↓rx12, ↓rg12, ↓rh12, ↓rp12, ↓rv13, ↓ro13, ↓rb13, ↓rn13, ↓rs13, ↓rl13, ↓ra13, ↓rk13, ↓rx13, ↓rg13, ↓rh13, ↓rp13, ↓rv14, ↓ro14, ↓rb14, ↓rn14, ↓rs14, ↓rl14, ↓ra14, ↓rk14, ↓rx14, ↓rg14, ↓rh14, ↓rp14, ↓rv15, ↓ro15, ↓rb15, ↓rn15, ↓rs15, ↓rl15, ↓ra15, ↓rk15, ↓rx15, ↓rg15, ↓rh15, ↓rp15, ↓rv16, ↓ro16, ↓rb16, ↓rn16, ↓rs16, ↓rl16, ↓ra16, ↓rk16, ↓rx16, ↓rg16, ↓rh16, ↓rp16, ↓rv17, ↓ro17, ↓rb17, ↓rn17, ↓rs17, ↓rl17, ↓ra17, ↓rk17, ↓rx17, ↓rg17, ↓rh17, ↓rp17, rn_some, k_andT, k_andF, k_orT, k_orF, k_B, k_int, k_seqN, k_seqR, k_seqB, k_seqC, k_loopN, k_loopR, k_enum, k_fnN, k_fnD, k_fnNew, e_addI, e_subI, e_ltI, e_leI, e_gtI, e_geI, e_eqI, e_neI, e_abs, e_intI, e_intB, e_at0, e_at1, e_at2, e_ix30, e_ix32, List.set_cons_zero, List.set_cons_succ, f1, List.length_cons, List.length_nil, List.all_cons, List.all_nil, cold, hots, hot, List.map_cons, List.map_nil, List.cons_append, List.nil_append, List.append_nil, List.replicate_succ, List.replicate_zero, List.take_succ_cons, List.take_zero, wipeS, backS, noOwn, Nat.reduceAdd, Nat.reduceSub, Nat.reduceLeDiff, Nat.reduceEqDiff, Bool.and_true, Bool.true_and, Bool.and_false, Bool.false_and, Bool.not_true, Bool.not_false, Bool.false_eq_true, Bool.true_eq_false, reduceCtorEq, true_and, and_true, if_true, if_false, decide_true, decide_false, isOk, isA, String.reduceBEq, turn_f, cut_1, k_zipLL, k_zipTT, k_zipTL, e_isN, e_isNot, isNo, beq_self_eq_true, bne_self_eq_false, e_eqB, e_neB, e_eqX, List.any_cons, List.any_nil, Bool.or_true, Bool.true_or, Bool.or_self, reduceIte, Bool.or_false, Bool.false_or, ri0, rt0, ri1, rt1, ri2, rt2, ri3, rt3, ri4, rt4, ri5, rt5, ri6, rt6, ri7, rt7, ri8, rt8, ri9, rt9, ri10, rt10, ri11, rt11, ri12, rt12, ri13, rt13, ri14, rt14, ri15, rt15, ri16, rt16, ri17, rt17, cast0, cast1, Int.cast_ofNat_Int, Int.reduceEq, Int.reduceLT, Int.reduceLE, Int.reduceAdd, Int.reduceSub, Int.reduceMul, Nat.reduceLT, Int.reduceToNat, Int.reducePow, Int.reduceNeg, Int.reduceNegSucc, cp6, seqD, List.flatten_cons, List.flatten_nil, List.reduceReplicate, ↓rn_of e1, ↓rn_of e2, ↓rn_of e3, ↓rn_of e4, ↓rn_of e5]
      refine rn_imp (codes_loop out _ _ fun z hz => allG_mem g4 z (m5 z hz)) fun p ⟨b7, b8, e⟩ => ?_
      subst e
      simp (maxSteps := 20000000) only [↓u_C, ↓u_nil, ↓u_cons, ↓u_tup, ↓u_lst, ↓u_op, ↓u_and, ↓u_or, ↓u_test, ↓u_not, ↓u_notT, ↓u_andT, ↓u_orT, ↓u_ifE, ↓u_chain, ↓k_chT, ↓k_chF, ↓u_CB, ↓u_isi, ↓u_sl, ↓u_noPart, ↓u_part, ↓u_seq, ↓u_next, ↓u_retN, ↓u_bk, ↓u_ct, ↓u_drop, ↓u_ret, ↓u_if, ↓u_asg, ↓u_par, ↓u_prepN, ↓u_prepD, ↓u_prepO, ↓u_allN, ↓u_allC, ↓u_for, ↓u_loopN, ↓u_loopC, ↓u_it, ↓u_stoD, ↓u_stoN, ↓u_stosN, ↓u_stosC, ↓u_range1, ↓u_enum, ↓u_lc, ↓u_lcN, ↓u_lcC, ↓u_yes, ↓u_call, ↓u_argN, ↓u_argD, ↓u_argM, ↓u_argO, ↓u_argT, ↓u_backN, ↓u_backC, ↓u_fn, ↓k_fnO, ↓u_gtupD, ↓u_gtupN, ↓u_gtupL, ↓u_gtupT, ↓u_gN, ↓u_gC, ↓k_subL, ↓u_meth, ↓u_append, ↓u_popAt, ↓u_ixD, ↓u_ixN, ↓u_ixT, ↓u_ixS, ↓u_ixX, ↓u_mod, ↓u_div, ↓u_pow, ↓u_mul, ↓u_lenX, ↓u_lenL, ↓u_lenT, ↓u_lenC, ↓u_lenN, ↓u_addS, ↓u_isiD, ↓u_isiN, ↓u_zip, ↓u_argL, ↓u_argV, ↓u_dc, ↓u_dcN, ↓u_dcC, ↓k_dcX, ↓u_turn, ↓u_neg, ↓u_frz, ↓u_stoT, ↓u_stoL, ↓u_mulT, ↓u_addT, ↓u_listT, ↓u_listL, ↓u_slT, ↓rn_bind, ↓rn_some, ↓rn_iteT, ↓rn_iteF, ↓rv0, ↓ro0, ↓rb0, ↓rn0, ↓rs0, ↓rl0, ↓ra0, ↓rk0, ↓rx0, ↓rg0, ↓rh0, ↓rp0, ↓rv1, ↓ro1, ↓rb1, ↓rn1, ↓rs1, ↓rl1, ↓ra1, ↓rk1, ↓rx1, ↓rg1, ↓rh1, ↓rp1, ↓rv2, ↓ro2, ↓rb2, ↓rn2, ↓rs2, ↓rl2, ↓ra2, ↓rk2, ↓rx2, ↓rg2, ↓rh2, ↓rp2, ↓rv3, ↓ro3, ↓rb3, ↓rn3, ↓rs3, ↓rl3, ↓ra3, ↓rk3, ↓rx3, ↓rg3, ↓rh3, ↓rp3, ↓rv4, ↓ro4, ↓rb4, ↓rn4, ↓rs4, ↓rl4, ↓ra4, ↓rk4, ↓rx4, ↓rg4, ↓rh4, ↓rp4, ↓rv5, ↓ro5, ↓rb5, ↓rn5, ↓rs5, ↓rl5, ↓ra5, ↓rk5, ↓rx5, ↓rg5, ↓rh5, ↓rp5, ↓rv6, ↓ro6, ↓rb6, ↓rn6, ↓rs6, ↓rl6, ↓ra6, ↓rk6, ↓rx6, ↓rg6, ↓rh6, ↓rp6, ↓rv7, ↓ro7, ↓rb7, ↓rn7, ↓rs7, ↓rl7, ↓ra7, ↓rk7, ↓rx7, ↓rg7, ↓rh7, ↓rp7, ↓rv8, ↓ro8, ↓rb8, ↓rn8, ↓rs8, ↓rl8, ↓ra8, ↓rk8, ↓rx8, ↓rg8, ↓rh8, ↓rp8, ↓rv9, ↓ro9, ↓rb9, ↓rn9, ↓rs9, ↓rl9, ↓ra9, ↓rk9, ↓rx9, ↓rg9, ↓rh9, ↓rp9, ↓rv10, ↓ro10, ↓rb10, ↓rn10, ↓rs10, ↓rl10, ↓ra10, ↓rk10, ↓rx10, ↓rg10, ↓rh10, ↓rp10, ↓rv11, ↓ro11, ↓rb11, ↓rn11, ↓rs11, ↓rl11, ↓ra11, ↓rk11, ↓rx11, ↓rg11, ↓rh11, ↓rp11, ↓rv12, ↓ro12, ↓rb12, ↓rn12, ↓rs12, ↓rl12, ↓ra12, ↓rk12, ↓rx12, ↓rg12, ↓rh12, ↓rp12, ↓rv13, ↓ro13, ↓rb13, ↓rn13, ↓rs13, ↓rl13, ↓ra13, ↓rk13, ↓rx13, ↓rg13, ↓rh13, ↓rp13, ↓rv14, ↓ro14, ↓rb14, ↓rn14, ↓rs14, ↓rl14, ↓ra14, ↓rk14, ↓rx14, ↓rg14, ↓rh14, ↓rp14, ↓rv15, ↓ro15, ↓rb15, ↓rn15, ↓rs15, ↓rl15, ↓ra15, ↓rk15, ↓rx15, ↓rg15, ↓rh15, ↓rp15, ↓rv16, ↓ro16, ↓rb16, ↓rn16, ↓rs16, ↓rl16, ↓ra16, ↓rk16, ↓rx16, ↓rg16, ↓rh16, ↓rp16, ↓rv17, ↓ro17, ↓rb17, ↓rn17, ↓rs17, ↓rl17, ↓ra17, ↓rk17, ↓rx17, ↓rg17, ↓rh17, ↓rp17, rn_some, k_andT, k_andF, k_orT, k_orF, k_B, k_int, k_seqN, k_seqR, k_seqB, k_seqC, k_loopN, k_loopR, k_enum, k_fnN, k_fnD, k_fnNew, e_addI, e_subI, e_ltI, e_leI, e_gtI, e_geI, e_eqI, e_neI, e_abs, e_intI, e_intB, e_at0, e_at1, e_at2, e_ix30, e_ix32, List.set_cons_zero, List.set_cons_succ, f1, List.length_cons, List.length_nil, List.all_cons, List.all_nil, cold, hots, hot, List.map_cons, List.map_nil, List.cons_append, List.nil_append, List.append_nil, List.replicate_succ, List.replicate_zero, List.take_succ_cons, List.take_zero, wipeS, backS, noOwn, Nat.reduceAdd, Nat.reduceSub, Nat.reduceLeDiff, Nat.reduceEqDiff, Bool.and_true, Bool.true_and, Bool.and_false, Bool.false_and, Bool.not_true, Bool.not_false, Bool.false_eq_true, Bool.true_eq_false, reduceCtorEq, true_and, and_true, if_true, if_false, decide_true, decide_false, isOk, isA, String.reduceBEq, turn_f, cut_1, k_zipLL, k_zipTT, k_zipTL, e_isN, e_isNot, isNo, beq_self_eq_true, bne_self_eq_false, e_eqB, e_neB, e_eqX, List.any_cons, List.any_nil, Bool.or_true, Bool.true_or, Bool.or_self, reduceIte, Bool.or_false, Bool.false_or, ri0, rt0, ri1, rt1, ri2, rt2, ri3, rt3, ri4, rt4, ri5, rt5, ri6, rt6, ri7, rt7, ri8, rt8, ri9, rt9, ri10, rt10, ri11, rt11, ri12, rt12, ri13, rt13, ri14, rt14, ri15, rt15, ri16, rt16, ri17, rt17, cast0, cast1, Int.cast_ofNat_Int, Int.reduceEq, Int.reduceLT, Int.reduceLE, Int.reduceAdd, Int.reduceSub, Int.reduceMul, Nat.reduceLT, Int.reduceToNat, Int.reducePow, Int.reduceNeg, Int.reduceNegSucc, cp6, seqD, List.flatten_cons, List.flatten_nil, List.reduceReplicate, ↓rn_of none_of.1, ↓rn_of none_of.2, ↓rn_of e7, ↓rn_of e6]
      exact law_loop hl ks _ _ _ _ _ _ _ _ (.inr rfl) fun j hj => hk j (List.mem_cons_of_mem _ hj)
theorem law_pure (ns : List Int) (hn : ns.length ≤ 63) : ∃ as', w_law [.dat (.scr (ns.map Da.int))] = some (.d (.bl true), as') := by
  have main : Rn (w_law [.dat (.scr (ns.map Da.int))]) fun p => ∃ as', p = (.d (.bl true), as') := by
    unfold w_law
    have fin : ∀ cs : List Int, cs.length ≤ 4 → ∀ a2 a3 a4 a5 a6 a7 a8 : SV, ∀ Q : Fl × S → Prop, (∀ s1 : List SV, s1.length = 8 → Q (.nx, .dat (.scr (ns.map Da.int)) :: s1)) → Rn _ Q := fun cs hc a2 a3 a4 a5 a6 a7 a8 Q q => rn_imp (law_loop (ns := ns) hc (List.range cs.length) (.own (.lst (cs.map Da.int))) a2 a3 a4 a5 a6 a7 a8 (.inl rfl) fun k hk => by have := List.mem_range.mp hk; omega) fun p ⟨s1, e, l⟩ => by rw [e]; exact q s1 l
    have er : ∀ m : Nat, rngD 0 m = (List.range m).map fun k => Da.int ((k : Nat) : Int) := fun m => by simp [rngD]
    by_cases h0 : ns = []
    · subst h0
      simp (maxSteps := 20000000) only [↓u_C, ↓u_nil, ↓u_cons, ↓u_tup, ↓u_lst, ↓u_op, ↓u_and, ↓u_or, ↓u_test, ↓u_not, ↓u_notT, ↓u_andT, ↓u_orT, ↓u_ifE, ↓u_chain, ↓k_chT, ↓k_chF, ↓u_CB, ↓u_isi, ↓u_sl, ↓u_noPart, ↓u_part, ↓u_seq, ↓u_next, ↓u_retN, ↓u_bk, ↓u_ct, ↓u_drop, ↓u_ret, ↓u_if, ↓u_asg, ↓u_par, ↓u_prepN, ↓u_prepD, ↓u_prepO, ↓u_allN, ↓u_allC, ↓u_for, ↓u_loopN, ↓u_loopC, ↓u_it, ↓u_stoD, ↓u_stoN, ↓u_stosN, ↓u_stosC, ↓u_range1, ↓u_enum, ↓u_lc, ↓u_lcN, ↓u_lcC, ↓u_yes, ↓u_call, ↓u_argN, ↓u_argD, ↓u_argM, ↓u_argO, ↓u_argT, ↓u_backN, ↓u_backC, ↓u_fn, ↓k_fnO, ↓u_gtupD, ↓u_gtupN, ↓u_gtupL, ↓u_gtupT, ↓u_gN, ↓u_gC, ↓k_subL, ↓u_meth, ↓u_append, ↓u_popAt, ↓u_ixD, ↓u_ixN, ↓u_ixT, ↓u_ixS, ↓u_ixX, ↓u_mod, ↓u_div, ↓u_pow, ↓u_mul, ↓u_lenX, ↓u_lenL, ↓u_lenT, ↓u_lenC, ↓u_lenN, ↓u_addS, ↓u_isiD, ↓u_isiN, ↓u_zip, ↓u_argL, ↓u_argV, ↓u_dc, ↓u_dcN, ↓u_dcC, ↓k_dcX, ↓u_turn, ↓u_neg, ↓u_frz, ↓u_stoT, ↓u_stoL, ↓u_mulT, ↓u_addT, ↓u_listT, ↓u_listL, ↓u_slT, ↓rn_bind, ↓rn_some, ↓rn_iteT, ↓rn_iteF, ↓rv0, ↓ro0, ↓rb0, ↓rn0, ↓rs0, ↓rl0, ↓ra0, ↓rk0, ↓rx0, ↓rg0, ↓rh0, ↓rp0, ↓rv1, ↓ro1, ↓rb1, ↓rn1, ↓rs1, ↓rl1, ↓ra1, ↓rk1, ↓rx1, ↓rg1, ↓rh1, ↓rp1, ↓rv2, ↓ro2, ↓rb2, ↓rn2, ↓rs2, ↓rl2, ↓ra2, ↓rk2, ↓rx2, ↓rg2, ↓rh2, ↓rp2, ↓rv3, ↓ro3, ↓rb3, ↓rn3, ↓rs3, ↓rl3, ↓ra3, ↓rk3, ↓rx3, ↓rg3, ↓rh3, ↓rp3, ↓rv4, ↓ro4, ↓rb4, ↓rn4, ↓rs4, ↓rl4, ↓ra4, ↓rk4, ↓rx4, ↓rg4, ↓rh4, ↓rp4, ↓rv5, ↓ro5, ↓rb5, ↓rn5, ↓rs5, ↓rl5, ↓ra5, ↓rk5, ↓rx5, ↓rg5, ↓rh5, ↓rp5, ↓rv6, ↓ro6, ↓rb6, ↓rn6, ↓rs6, ↓rl6, ↓ra6, ↓rk6, ↓rx6, ↓rg6, ↓rh6, ↓rp6, ↓rv7, ↓ro7, ↓rb7, ↓rn7, ↓rs7, ↓rl7, ↓ra7, ↓rk7, ↓rx7, ↓rg7, ↓rh7, ↓rp7, ↓rv8, ↓ro8, ↓rb8, ↓rn8, ↓rs8, ↓rl8, ↓ra8, ↓rk8, ↓rx8, ↓rg8, ↓rh8, ↓rp8, ↓rv9, ↓ro9, ↓rb9, ↓rn9, ↓rs9, ↓rl9, ↓ra9, ↓rk9, ↓rx9, ↓rg9, ↓rh9, ↓rp9, ↓rv10, ↓ro10, ↓rb10, ↓rn10, ↓rs10, ↓rl10, ↓ra10, ↓rk10, ↓rx10, ↓rg10, ↓rh10, ↓rp10, ↓rv11, ↓ro11, ↓rb11, ↓rn11, ↓rs11, ↓rl11, ↓ra11, ↓rk11, ↓rx11, ↓rg11, ↓rh11, ↓rp11, ↓rv12, ↓ro12, ↓rb12, ↓rn12, ↓rs12, ↓rl12, ↓ra12, ↓rk12, ↓rx12, ↓rg12, ↓rh12, ↓rp12, ↓rv13, ↓ro13, ↓rb13, ↓rn13, ↓rs13, ↓rl13, ↓ra13, ↓rk13, ↓rx13, ↓rg13, ↓rh13, ↓rp13, ↓rv14, ↓ro14, ↓rb14, ↓rn14, ↓rs14, ↓rl14, ↓ra14, ↓rk14, ↓rx14, ↓rg14, ↓rh14, ↓rp14, ↓rv15, ↓ro15, ↓rb15, ↓rn15, ↓rs15, ↓rl15, ↓ra15, ↓rk15, ↓rx15, ↓rg15, ↓rh15, ↓rp15, ↓rv16, ↓ro16, ↓rb16, ↓rn16, ↓rs16, ↓rl16, ↓ra16, ↓rk16, ↓rx16, ↓rg16, ↓rh16, ↓rp16, ↓rv17, ↓ro17, ↓rb17, ↓rn17, ↓rs17, ↓rl17, ↓ra17, ↓rk17, ↓rx17, ↓rg17, ↓rh17, ↓rp17, rn_some, k_andT, k_andF, k_orT, k_orF, k_B, k_int, k_seqN, k_seqR, k_seqB, k_seqC, k_loopN, k_loopR, k_enum, k_fnN, k_fnD, k_fnNew, e_addI, e_subI, e_ltI, e_leI, e_gtI, e_geI, e_eqI, e_neI, e_abs, e_intI, e_intB, e_at0, e_at1, e_at2, e_ix30, e_ix32, List.set_cons_zero, List.set_cons_succ, f1, List.length_cons, List.length_nil, List.all_cons, List.all_nil, cold, hots, hot, List.map_cons, List.map_nil, List.cons_append, List.nil_append, List.append_nil, List.replicate_succ, List.replicate_zero, List.take_succ_cons, List.take_zero, wipeS, backS, noOwn, Nat.reduceAdd, Nat.reduceSub, Nat.reduceLeDiff, Nat.reduceEqDiff, Bool.and_true, Bool.true_and, Bool.and_false, Bool.false_and, Bool.not_true, Bool.not_false, Bool.false_eq_true, Bool.true_eq_false, reduceCtorEq, true_and, and_true, if_true, if_false, decide_true, decide_false, isOk, isA, String.reduceBEq, turn_f, cut_1, k_zipLL, k_zipTT, k_zipTL, e_isN, e_isNot, isNo, beq_self_eq_true, bne_self_eq_false, e_eqB, e_neB, e_eqX, List.any_cons, List.any_nil, Bool.or_true, Bool.true_or, Bool.or_self, reduceIte, Bool.or_false, Bool.false_or, ri0, rt0, ri1, rt1, ri2, rt2, ri3, rt3, ri4, rt4, ri5, rt5, ri6, rt6, ri7, rt7, ri8, rt8, ri9, rt9, ri10, rt10, ri11, rt11, ri12, rt12, ri13, rt13, ri14, rt14, ri15, rt15, ri16, rt16, ri17, rt17, cast0, cast1, Int.cast_ofNat_Int, Int.reduceEq, Int.reduceLT, Int.reduceLE, Int.reduceAdd, Int.reduceSub, Int.reduceMul, Nat.reduceLT, Int.reduceToNat, Int.reducePow, Int.reduceNeg, Int.reduceNegSucc, cp6, seqD, List.flatten_cons, List.flatten_nil, List.reduceReplicate, scr_nil, List.map_nil, k_rng (show small 1 = true by decide)]
      refine fin [0] (by decide) _ _ _ _ _ _ _ _ fun s1 l => ?_
      simp (maxSteps := 20000000) only [↓u_C, ↓u_nil, ↓u_cons, ↓u_tup, ↓u_lst, ↓u_op, ↓u_and, ↓u_or, ↓u_test, ↓u_not, ↓u_notT, ↓u_andT, ↓u_orT, ↓u_ifE, ↓u_chain, ↓k_chT, ↓k_chF, ↓u_CB, ↓u_isi, ↓u_sl, ↓u_noPart, ↓u_part, ↓u_seq, ↓u_next, ↓u_retN, ↓u_bk, ↓u_ct, ↓u_drop, ↓u_ret, ↓u_if, ↓u_asg, ↓u_par, ↓u_prepN, ↓u_prepD, ↓u_prepO, ↓u_allN, ↓u_allC, ↓u_for, ↓u_loopN, ↓u_loopC, ↓u_it, ↓u_stoD, ↓u_stoN, ↓u_stosN, ↓u_stosC, ↓u_range1, ↓u_enum, ↓u_lc, ↓u_lcN, ↓u_lcC, ↓u_yes, ↓u_call, ↓u_argN, ↓u_argD, ↓u_argM, ↓u_argO, ↓u_argT, ↓u_backN, ↓u_backC, ↓u_fn, ↓k_fnO, ↓u_gtupD, ↓u_gtupN, ↓u_gtupL, ↓u_gtupT, ↓u_gN, ↓u_gC, ↓k_subL, ↓u_meth, ↓u_append, ↓u_popAt, ↓u_ixD, ↓u_ixN, ↓u_ixT, ↓u_ixS, ↓u_ixX, ↓u_mod, ↓u_div, ↓u_pow, ↓u_mul, ↓u_lenX, ↓u_lenL, ↓u_lenT, ↓u_lenC, ↓u_lenN, ↓u_addS, ↓u_isiD, ↓u_isiN, ↓u_zip, ↓u_argL, ↓u_argV, ↓u_dc, ↓u_dcN, ↓u_dcC, ↓k_dcX, ↓u_turn, ↓u_neg, ↓u_frz, ↓u_stoT, ↓u_stoL, ↓u_mulT, ↓u_addT, ↓u_listT, ↓u_listL, ↓u_slT, ↓rn_bind, ↓rn_some, ↓rn_iteT, ↓rn_iteF, ↓rv0, ↓ro0, ↓rb0, ↓rn0, ↓rs0, ↓rl0, ↓ra0, ↓rk0, ↓rx0, ↓rg0, ↓rh0, ↓rp0, ↓rv1, ↓ro1, ↓rb1, ↓rn1, ↓rs1, ↓rl1, ↓ra1, ↓rk1, ↓rx1, ↓rg1, ↓rh1, ↓rp1, ↓rv2, ↓ro2, ↓rb2, ↓rn2, ↓rs2, ↓rl2, ↓ra2, ↓rk2, ↓rx2, ↓rg2, ↓rh2, ↓rp2, ↓rv3, ↓ro3, ↓rb3, ↓rn3, ↓rs3, ↓rl3, ↓ra3, ↓rk3, ↓rx3, ↓rg3, ↓rh3, ↓rp3, ↓rv4, ↓ro4, ↓rb4, ↓rn4, ↓rs4, ↓rl4, ↓ra4, ↓rk4, ↓rx4, ↓rg4, ↓rh4, ↓rp4, ↓rv5, ↓ro5, ↓rb5, ↓rn5, ↓rs5, ↓rl5, ↓ra5, ↓rk5, ↓rx5, ↓rg5, ↓rh5, ↓rp5, ↓rv6, ↓ro6, ↓rb6, ↓rn6, ↓rs6, ↓rl6, ↓ra6, ↓rk6, ↓rx6, ↓rg6, ↓rh6, ↓rp6, ↓rv7, ↓ro7, ↓rb7, ↓rn7, ↓rs7, ↓rl7, ↓ra7, ↓rk7, ↓rx7, ↓rg7, ↓rh7, ↓rp7, ↓rv8, ↓ro8, ↓rb8, ↓rn8, ↓rs8, ↓rl8, ↓ra8, ↓rk8, ↓rx8, ↓rg8, ↓rh8, ↓rp8, ↓rv9, ↓ro9, ↓rb9, ↓rn9, ↓rs9, ↓rl9, ↓ra9, ↓rk9, ↓rx9, ↓rg9, ↓rh9, ↓rp9, ↓rv10, ↓ro10, ↓rb10, ↓rn10, ↓rs10, ↓rl10, ↓ra10, ↓rk10, ↓rx10, ↓rg10, ↓rh10, ↓rp10, ↓rv11, ↓ro11, ↓rb11, ↓rn11, ↓rs11, ↓rl11, ↓ra11, ↓rk11, ↓rx11, ↓rg11, ↓rh11, ↓rp11, ↓rv12, ↓ro12, ↓rb12, ↓rn12, ↓rs12, ↓rl12, ↓ra12, ↓rk12, ↓rx12, ↓rg12, ↓rh12, ↓rp12, ↓rv13, ↓ro13, ↓rb13, ↓rn13, ↓rs13, ↓rl13, ↓ra13, ↓rk13, ↓rx13, ↓rg13, ↓rh13, ↓rp13, ↓rv14, ↓ro14, ↓rb14, ↓rn14, ↓rs14, ↓rl14, ↓ra14, ↓rk14, ↓rx14, ↓rg14, ↓rh14, ↓rp14, ↓rv15, ↓ro15, ↓rb15, ↓rn15, ↓rs15, ↓rl15, ↓ra15, ↓rk15, ↓rx15, ↓rg15, ↓rh15, ↓rp15, ↓rv16, ↓ro16, ↓rb16, ↓rn16, ↓rs16, ↓rl16, ↓ra16, ↓rk16, ↓rx16, ↓rg16, ↓rh16, ↓rp16, ↓rv17, ↓ro17, ↓rb17, ↓rn17, ↓rs17, ↓rl17, ↓ra17, ↓rk17, ↓rx17, ↓rg17, ↓rh17, ↓rp17, rn_some, k_andT, k_andF, k_orT, k_orF, k_B, k_int, k_seqN, k_seqR, k_seqB, k_seqC, k_loopN, k_loopR, k_enum, k_fnN, k_fnD, k_fnNew, e_addI, e_subI, e_ltI, e_leI, e_gtI, e_geI, e_eqI, e_neI, e_abs, e_intI, e_intB, e_at0, e_at1, e_at2, e_ix30, e_ix32, List.set_cons_zero, List.set_cons_succ, f1, List.length_cons, List.length_nil, List.all_cons, List.all_nil, cold, hots, hot, List.map_cons, List.map_nil, List.cons_append, List.nil_append, List.append_nil, List.replicate_succ, List.replicate_zero, List.take_succ_cons, List.take_zero, wipeS, backS, noOwn, Nat.reduceAdd, Nat.reduceSub, Nat.reduceLeDiff, Nat.reduceEqDiff, Bool.and_true, Bool.true_and, Bool.and_false, Bool.false_and, Bool.not_true, Bool.not_false, Bool.false_eq_true, Bool.true_eq_false, reduceCtorEq, true_and, and_true, if_true, if_false, decide_true, decide_false, isOk, isA, String.reduceBEq, turn_f, cut_1, k_zipLL, k_zipTT, k_zipTL, e_isN, e_isNot, isNo, beq_self_eq_true, bne_self_eq_false, e_eqB, e_neB, e_eqX, List.any_cons, List.any_nil, Bool.or_true, Bool.true_or, Bool.or_self, reduceIte, Bool.or_false, Bool.false_or, ri0, rt0, ri1, rt1, ri2, rt2, ri3, rt3, ri4, rt4, ri5, rt5, ri6, rt6, ri7, rt7, ri8, rt8, ri9, rt9, ri10, rt10, ri11, rt11, ri12, rt12, ri13, rt13, ri14, rt14, ri15, rt15, ri16, rt16, ri17, rt17, cast0, cast1, Int.cast_ofNat_Int, Int.reduceEq, Int.reduceLT, Int.reduceLE, Int.reduceAdd, Int.reduceSub, Int.reduceMul, Nat.reduceLT, Int.reduceToNat, Int.reducePow, Int.reduceNeg, Int.reduceNegSucc, cp6, seqD, List.flatten_cons, List.flatten_nil, List.reduceReplicate]
      exact ⟨_, rfl⟩
    · obtain ⟨cs, e1, l1⟩ := folded_eq (ns := ns) (m := 4) (by decide) (by decide)
      have c4 : ((4 : Nat) : Int) = 4 := rfl
      rw [c4] at e1
      simp (maxSteps := 20000000) only [↓u_C, ↓u_nil, ↓u_cons, ↓u_tup, ↓u_lst, ↓u_op, ↓u_and, ↓u_or, ↓u_test, ↓u_not, ↓u_notT, ↓u_andT, ↓u_orT, ↓u_ifE, ↓u_chain, ↓k_chT, ↓k_chF, ↓u_CB, ↓u_isi, ↓u_sl, ↓u_noPart, ↓u_part, ↓u_seq, ↓u_next, ↓u_retN, ↓u_bk, ↓u_ct, ↓u_drop, ↓u_ret, ↓u_if, ↓u_asg, ↓u_par, ↓u_prepN, ↓u_prepD, ↓u_prepO, ↓u_allN, ↓u_allC, ↓u_for, ↓u_loopN, ↓u_loopC, ↓u_it, ↓u_stoD, ↓u_stoN, ↓u_stosN, ↓u_stosC, ↓u_range1, ↓u_enum, ↓u_lc, ↓u_lcN, ↓u_lcC, ↓u_yes, ↓u_call, ↓u_argN, ↓u_argD, ↓u_argM, ↓u_argO, ↓u_argT, ↓u_backN, ↓u_backC, ↓u_fn, ↓k_fnO, ↓u_gtupD, ↓u_gtupN, ↓u_gtupL, ↓u_gtupT, ↓u_gN, ↓u_gC, ↓k_subL, ↓u_meth, ↓u_append, ↓u_popAt, ↓u_ixD, ↓u_ixN, ↓u_ixT, ↓u_ixS, ↓u_ixX, ↓u_mod, ↓u_div, ↓u_pow, ↓u_mul, ↓u_lenX, ↓u_lenL, ↓u_lenT, ↓u_lenC, ↓u_lenN, ↓u_addS, ↓u_isiD, ↓u_isiN, ↓u_zip, ↓u_argL, ↓u_argV, ↓u_dc, ↓u_dcN, ↓u_dcC, ↓k_dcX, ↓u_turn, ↓u_neg, ↓u_frz, ↓u_stoT, ↓u_stoL, ↓u_mulT, ↓u_addT, ↓u_listT, ↓u_listL, ↓u_slT, ↓rn_bind, ↓rn_some, ↓rn_iteT, ↓rn_iteF, ↓rv0, ↓ro0, ↓rb0, ↓rn0, ↓rs0, ↓rl0, ↓ra0, ↓rk0, ↓rx0, ↓rg0, ↓rh0, ↓rp0, ↓rv1, ↓ro1, ↓rb1, ↓rn1, ↓rs1, ↓rl1, ↓ra1, ↓rk1, ↓rx1, ↓rg1, ↓rh1, ↓rp1, ↓rv2, ↓ro2, ↓rb2, ↓rn2, ↓rs2, ↓rl2, ↓ra2, ↓rk2, ↓rx2, ↓rg2, ↓rh2, ↓rp2, ↓rv3, ↓ro3, ↓rb3, ↓rn3, ↓rs3, ↓rl3, ↓ra3, ↓rk3, ↓rx3, ↓rg3, ↓rh3, ↓rp3, ↓rv4, ↓ro4, ↓rb4, ↓rn4, ↓rs4, ↓rl4, ↓ra4, ↓rk4, ↓rx4, ↓rg4, ↓rh4, ↓rp4, ↓rv5, ↓ro5, ↓rb5, ↓rn5, ↓rs5, ↓rl5, ↓ra5, ↓rk5, ↓rx5, ↓rg5, ↓rh5, ↓rp5, ↓rv6, ↓ro6, ↓rb6, ↓rn6, ↓rs6, ↓rl6, ↓ra6, ↓rk6, ↓rx6, ↓rg6, ↓rh6, ↓rp6, ↓rv7, ↓ro7, ↓rb7, ↓rn7, ↓rs7, ↓rl7, ↓ra7, ↓rk7, ↓rx7, ↓rg7, ↓rh7, ↓rp7, ↓rv8, ↓ro8, ↓rb8, ↓rn8, ↓rs8, ↓rl8, ↓ra8, ↓rk8, ↓rx8, ↓rg8, ↓rh8, ↓rp8, ↓rv9, ↓ro9, ↓rb9, ↓rn9, ↓rs9, ↓rl9, ↓ra9, ↓rk9, ↓rx9, ↓rg9, ↓rh9, ↓rp9, ↓rv10, ↓ro10, ↓rb10, ↓rn10, ↓rs10, ↓rl10, ↓ra10, ↓rk10, ↓rx10, ↓rg10, ↓rh10, ↓rp10, ↓rv11, ↓ro11, ↓rb11, ↓rn11, ↓rs11, ↓rl11, ↓ra11, ↓rk11, ↓rx11, ↓rg11, ↓rh11, ↓rp11, ↓rv12, ↓ro12, ↓rb12, ↓rn12, ↓rs12, ↓rl12, ↓ra12, ↓rk12, ↓rx12, ↓rg12, ↓rh12, ↓rp12, ↓rv13, ↓ro13, ↓rb13, ↓rn13, ↓rs13, ↓rl13, ↓ra13, ↓rk13, ↓rx13, ↓rg13, ↓rh13, ↓rp13, ↓rv14, ↓ro14, ↓rb14, ↓rn14, ↓rs14, ↓rl14, ↓ra14, ↓rk14, ↓rx14, ↓rg14, ↓rh14, ↓rp14, ↓rv15, ↓ro15, ↓rb15, ↓rn15, ↓rs15, ↓rl15, ↓ra15, ↓rk15, ↓rx15, ↓rg15, ↓rh15, ↓rp15, ↓rv16, ↓ro16, ↓rb16, ↓rn16, ↓rs16, ↓rl16, ↓ra16, ↓rk16, ↓rx16, ↓rg16, ↓rh16, ↓rp16, ↓rv17, ↓ro17, ↓rb17, ↓rn17, ↓rs17, ↓rl17, ↓ra17, ↓rk17, ↓rx17, ↓rg17, ↓rh17, ↓rp17, rn_some, k_andT, k_andF, k_orT, k_orF, k_B, k_int, k_seqN, k_seqR, k_seqB, k_seqC, k_loopN, k_loopR, k_enum, k_fnN, k_fnD, k_fnNew, e_addI, e_subI, e_ltI, e_leI, e_gtI, e_geI, e_eqI, e_neI, e_abs, e_intI, e_intB, e_at0, e_at1, e_at2, e_ix30, e_ix32, List.set_cons_zero, List.set_cons_succ, f1, List.length_cons, List.length_nil, List.all_cons, List.all_nil, cold, hots, hot, List.map_cons, List.map_nil, List.cons_append, List.nil_append, List.append_nil, List.replicate_succ, List.replicate_zero, List.take_succ_cons, List.take_zero, wipeS, backS, noOwn, Nat.reduceAdd, Nat.reduceSub, Nat.reduceLeDiff, Nat.reduceEqDiff, Bool.and_true, Bool.true_and, Bool.and_false, Bool.false_and, Bool.not_true, Bool.not_false, Bool.false_eq_true, Bool.true_eq_false, reduceCtorEq, true_and, and_true, if_true, if_false, decide_true, decide_false, isOk, isA, String.reduceBEq, turn_f, cut_1, k_zipLL, k_zipTT, k_zipTL, e_isN, e_isNot, isNo, beq_self_eq_true, bne_self_eq_false, e_eqB, e_neB, e_eqX, List.any_cons, List.any_nil, Bool.or_true, Bool.true_or, Bool.or_self, reduceIte, Bool.or_false, Bool.false_or, ri0, rt0, ri1, rt1, ri2, rt2, ri3, rt3, ri4, rt4, ri5, rt5, ri6, rt6, ri7, rt7, ri8, rt8, ri9, rt9, ri10, rt10, ri11, rt11, ri12, rt12, ri13, rt13, ri14, rt14, ri15, rt15, ri16, rt16, ri17, rt17, cast0, cast1, Int.cast_ofNat_Int, Int.reduceEq, Int.reduceLT, Int.reduceLE, Int.reduceAdd, Int.reduceSub, Int.reduceMul, Nat.reduceLT, Int.reduceToNat, Int.reducePow, Int.reduceNeg, Int.reduceNegSucc, cp6, seqD, List.flatten_cons, List.flatten_nil, List.reduceReplicate, scr_ne, h0, ne_eq, not_false_eq_true, ↓rn_of e1, List.length_map, k_rng (show small (cs.length : Int) = true by simp [small]; omega), Int.toNat_natCast, er]
      refine fin cs (by omega) _ _ _ _ _ _ _ _ fun s1 l => ?_
      simp (maxSteps := 20000000) only [↓u_C, ↓u_nil, ↓u_cons, ↓u_tup, ↓u_lst, ↓u_op, ↓u_and, ↓u_or, ↓u_test, ↓u_not, ↓u_notT, ↓u_andT, ↓u_orT, ↓u_ifE, ↓u_chain, ↓k_chT, ↓k_chF, ↓u_CB, ↓u_isi, ↓u_sl, ↓u_noPart, ↓u_part, ↓u_seq, ↓u_next, ↓u_retN, ↓u_bk, ↓u_ct, ↓u_drop, ↓u_ret, ↓u_if, ↓u_asg, ↓u_par, ↓u_prepN, ↓u_prepD, ↓u_prepO, ↓u_allN, ↓u_allC, ↓u_for, ↓u_loopN, ↓u_loopC, ↓u_it, ↓u_stoD, ↓u_stoN, ↓u_stosN, ↓u_stosC, ↓u_range1, ↓u_enum, ↓u_lc, ↓u_lcN, ↓u_lcC, ↓u_yes, ↓u_call, ↓u_argN, ↓u_argD, ↓u_argM, ↓u_argO, ↓u_argT, ↓u_backN, ↓u_backC, ↓u_fn, ↓k_fnO, ↓u_gtupD, ↓u_gtupN, ↓u_gtupL, ↓u_gtupT, ↓u_gN, ↓u_gC, ↓k_subL, ↓u_meth, ↓u_append, ↓u_popAt, ↓u_ixD, ↓u_ixN, ↓u_ixT, ↓u_ixS, ↓u_ixX, ↓u_mod, ↓u_div, ↓u_pow, ↓u_mul, ↓u_lenX, ↓u_lenL, ↓u_lenT, ↓u_lenC, ↓u_lenN, ↓u_addS, ↓u_isiD, ↓u_isiN, ↓u_zip, ↓u_argL, ↓u_argV, ↓u_dc, ↓u_dcN, ↓u_dcC, ↓k_dcX, ↓u_turn, ↓u_neg, ↓u_frz, ↓u_stoT, ↓u_stoL, ↓u_mulT, ↓u_addT, ↓u_listT, ↓u_listL, ↓u_slT, ↓rn_bind, ↓rn_some, ↓rn_iteT, ↓rn_iteF, ↓rv0, ↓ro0, ↓rb0, ↓rn0, ↓rs0, ↓rl0, ↓ra0, ↓rk0, ↓rx0, ↓rg0, ↓rh0, ↓rp0, ↓rv1, ↓ro1, ↓rb1, ↓rn1, ↓rs1, ↓rl1, ↓ra1, ↓rk1, ↓rx1, ↓rg1, ↓rh1, ↓rp1, ↓rv2, ↓ro2, ↓rb2, ↓rn2, ↓rs2, ↓rl2, ↓ra2, ↓rk2, ↓rx2, ↓rg2, ↓rh2, ↓rp2, ↓rv3, ↓ro3, ↓rb3, ↓rn3, ↓rs3, ↓rl3, ↓ra3, ↓rk3, ↓rx3, ↓rg3, ↓rh3, ↓rp3, ↓rv4, ↓ro4, ↓rb4, ↓rn4, ↓rs4, ↓rl4, ↓ra4, ↓rk4, ↓rx4, ↓rg4, ↓rh4, ↓rp4, ↓rv5, ↓ro5, ↓rb5, ↓rn5, ↓rs5, ↓rl5, ↓ra5, ↓rk5, ↓rx5, ↓rg5, ↓rh5, ↓rp5, ↓rv6, ↓ro6, ↓rb6, ↓rn6, ↓rs6, ↓rl6, ↓ra6, ↓rk6, ↓rx6, ↓rg6, ↓rh6, ↓rp6, ↓rv7, ↓ro7, ↓rb7, ↓rn7, ↓rs7, ↓rl7, ↓ra7, ↓rk7, ↓rx7, ↓rg7, ↓rh7, ↓rp7, ↓rv8, ↓ro8, ↓rb8, ↓rn8, ↓rs8, ↓rl8, ↓ra8, ↓rk8, ↓rx8, ↓rg8, ↓rh8, ↓rp8, ↓rv9, ↓ro9, ↓rb9, ↓rn9, ↓rs9, ↓rl9, ↓ra9, ↓rk9, ↓rx9, ↓rg9, ↓rh9, ↓rp9, ↓rv10, ↓ro10, ↓rb10, ↓rn10, ↓rs10, ↓rl10, ↓ra10, ↓rk10, ↓rx10, ↓rg10, ↓rh10, ↓rp10, ↓rv11, ↓ro11, ↓rb11, ↓rn11, ↓rs11, ↓rl11, ↓ra11, ↓rk11, ↓rx11, ↓rg11, ↓rh11, ↓rp11, ↓rv12, ↓ro12, ↓rb12, ↓rn12, ↓rs12, ↓rl12, ↓ra12, ↓rk12, ↓rx12, ↓rg12, ↓rh12, ↓rp12, ↓rv13, ↓ro13, ↓rb13, ↓rn13, ↓rs13, ↓rl13, ↓ra13, ↓rk13, ↓rx13, ↓rg13, ↓rh13, ↓rp13, ↓rv14, ↓ro14, ↓rb14, ↓rn14, ↓rs14, ↓rl14, ↓ra14, ↓rk14, ↓rx14, ↓rg14, ↓rh14, ↓rp14, ↓rv15, ↓ro15, ↓rb15, ↓rn15, ↓rs15, ↓rl15, ↓ra15, ↓rk15, ↓rx15, ↓rg15, ↓rh15, ↓rp15, ↓rv16, ↓ro16, ↓rb16, ↓rn16, ↓rs16, ↓rl16, ↓ra16, ↓rk16, ↓rx16, ↓rg16, ↓rh16, ↓rp16, ↓rv17, ↓ro17, ↓rb17, ↓rn17, ↓rs17, ↓rl17, ↓ra17, ↓rk17, ↓rx17, ↓rg17, ↓rh17, ↓rp17, rn_some, k_andT, k_andF, k_orT, k_orF, k_B, k_int, k_seqN, k_seqR, k_seqB, k_seqC, k_loopN, k_loopR, k_enum, k_fnN, k_fnD, k_fnNew, e_addI, e_subI, e_ltI, e_leI, e_gtI, e_geI, e_eqI, e_neI, e_abs, e_intI, e_intB, e_at0, e_at1, e_at2, e_ix30, e_ix32, List.set_cons_zero, List.set_cons_succ, f1, List.length_cons, List.length_nil, List.all_cons, List.all_nil, cold, hots, hot, List.map_cons, List.map_nil, List.cons_append, List.nil_append, List.append_nil, List.replicate_succ, List.replicate_zero, List.take_succ_cons, List.take_zero, wipeS, backS, noOwn, Nat.reduceAdd, Nat.reduceSub, Nat.reduceLeDiff, Nat.reduceEqDiff, Bool.and_true, Bool.true_and, Bool.and_false, Bool.false_and, Bool.not_true, Bool.not_false, Bool.false_eq_true, Bool.true_eq_false, reduceCtorEq, true_and, and_true, if_true, if_false, decide_true, decide_false, isOk, isA, String.reduceBEq, turn_f, cut_1, k_zipLL, k_zipTT, k_zipTL, e_isN, e_isNot, isNo, beq_self_eq_true, bne_self_eq_false, e_eqB, e_neB, e_eqX, List.any_cons, List.any_nil, Bool.or_true, Bool.true_or, Bool.or_self, reduceIte, Bool.or_false, Bool.false_or, ri0, rt0, ri1, rt1, ri2, rt2, ri3, rt3, ri4, rt4, ri5, rt5, ri6, rt6, ri7, rt7, ri8, rt8, ri9, rt9, ri10, rt10, ri11, rt11, ri12, rt12, ri13, rt13, ri14, rt14, ri15, rt15, ri16, rt16, ri17, rt17, cast0, cast1, Int.cast_ofNat_Int, Int.reduceEq, Int.reduceLT, Int.reduceLE, Int.reduceAdd, Int.reduceSub, Int.reduceMul, Nat.reduceLT, Int.reduceToNat, Int.reducePow, Int.reduceNeg, Int.reduceNegSucc, cp6, seqD, List.flatten_cons, List.flatten_nil, List.reduceReplicate]
      exact ⟨_, rfl⟩
  obtain ⟨a, e, as', rfl⟩ := main
  exact ⟨as', e⟩
end Tw

/-! tables of the top; from a pure law to the law -/
namespace Tw
open PySem PySem.Spec PyProof.Rows L2
section
variable {K : PySem.W.Frag} {w : World} {a : Addr} {ks : List Str} {z : Str}
theorem keys_of (h : He.dicW K a = some (He.keysIn w.params ks)) : ∃ es n, KDict K w a es n ∧ es.toList.map He.keyOf = He.keysIn w.params ks := by
  obtain ⟨es, n, D⟩ := He.dicW_ok h
  refine ⟨es, n, D, ?_⟩
  unfold He.dicW at h
  rw [D.at_] at h
  have hl := D.low
  simp only [hl] at h
  exact Option.some.inj h
theorem tab_none (h : He.dicW K a = some (He.keysIn w.params ks)) (hz : z ∉ ks) : PySem.W.nsIn K a z = some none := by
  obtain ⟨es, n, D, hk⟩ := keys_of h
  have key : ∀ e ∈ es.toList, ∃ k t, k ∈ ks ∧ e.key = .str k t := fun e he => by
    have : He.keyOf e ∈ He.keysIn w.params ks := by
      rw [← hk]
      exact List.mem_map.mpr ⟨e, he, rfl⟩
    obtain ⟨k, hkm, hke⟩ := List.mem_map.mp this
    unfold He.keyOf at hke
    split at hke
    · rename_i x t q
      have e1 : k = x := congrArg Prod.fst (Option.some.inj hke)
      rw [← e1] at q
      exact ⟨k, t, hkm, q⟩
    · cases hke
  unfold PySem.W.nsIn
  rw [D.at_]
  have f : es.toList.find? (·.key.isStr z) = none := List.find?_eq_none.mpr fun e he => by
    obtain ⟨k, t, hkm, q⟩ := key e he
    rw [q]
    show ¬ (k == z) = true
    simp only [beq_iff_eq]
    exact fun e => hz (by rw [← e]; exact hkm)
  have g : es.toList.any (·.refKey) = false := List.any_eq_false.mpr fun e he => by
    obtain ⟨k, t, hkm, q⟩ := key e he
    unfold DictEntry.refKey
    rw [q]
    exact fun z => nomatch z
  simp only [f, g]
  rfl
inductive Ents (K : PySem.W.Frag) (a : Addr) : List Str → List V → Prop
  | nil : Ents K a [] []
  | cons {k : Str} {ks : List Str} {v : V} {vs : List V} {u : Value} : PySem.W.nsIn K a k = some (some u) → RelV v u → Ents K a ks vs → Ents K a (k :: ks) (v :: vs)
theorem ents_look {vs : List V} (e : Ents K a ks vs) : (∃ v u, (ks.zip vs).lookup z = some v ∧ PySem.W.nsIn K a z = some (some u) ∧ RelV v u) ∨ ((ks.zip vs).lookup z = none ∧ z ∉ ks) := by
  induction e with
  | nil => exact .inr ⟨rfl, fun h => by simp at h⟩
  | @cons k ks v vs u h r e ih =>
    rw [List.zip_cons_cons, List.lookup_cons]
    by_cases q : z = k
    · subst q
      rw [beq_self_eq_true]
      exact .inl ⟨v, u, rfl, h, r⟩
    · rw [show (z == k) = false by simpa using q]
      exact ih.imp id fun ⟨a, b⟩ => ⟨a, fun h => (List.mem_cons.mp h).elim q b⟩
theorem tabAt_of {P : Program} {mg : Str → Option Value} {vs : List V} (h : He.dicW K a = some (He.keysIn w.params ks)) (e : Ents K a ks vs) : TabAt ⟨P, w, K, mg⟩ a ks vs := by
  refine ⟨He.dicW_ok h, fun z => ?_⟩
  rcases ents_look (z := z) e with ⟨v, u, h1, h2, h3⟩ | ⟨h1, h2⟩
  · refine ⟨some u, h2, ?_⟩
    rw [h1]
    exact ⟨u, rfl, h3⟩
  · refine ⟨none, tab_none h h2, ?_⟩
    rw [h1]
theorem ents_ints : ∀ {l : List (Str × Int)}, (∀ p ∈ l, ∃ t, PySem.W.nsIn K a p.1 = some (some (.int p.2 t))) → Ents K a (l.map (·.1)) (l.map fun p => V.int p.2)
  | [], _ => .nil
  | p :: l, h => by
    obtain ⟨t, ht⟩ := h p (by simp)
    exact .cons ht ⟨t, rfl⟩ (ents_ints fun q hq => h q (List.mem_cons_of_mem _ hq))
end
def spLaw (K : PySem.W.Frag) : Sp := fun vs H Q _ => ∃ (a : Addr) (ns : List Int), vs = [.ref a] ∧ SqL K H a (ns.map V.int) ∧ ns.length ≤ 63 ∧ ∀ H', Q (.bl true) H'
theorem dxs_intsOf {M : Md} {D : Hp} : ∀ ns : List Int, Dxs M D (ns.map V.int) (ns.map Da.int)
  | [] => .nil
  | n :: r => .cons (.int n) (dxs_intsOf r)
/-- from the pure law -/
theorem law_end {P : Program} {w : World} {K : PySem.W.Frag} {mg : Str → Option Value} {base : Heap} {f : Addr} {fd : FuncData} {k : Nat} {ps : List Str} {F : WF} (h : FnOk P w K mg base CX0 k f fd ps (spV ⟨P, w, K, mg⟩ 1 F)) (q : ∀ ns : List Int, ns.length ≤ 63 → ∃ as', F [.dat (.scr (ns.map Da.int))] = some (.d (.bl true), as')) : FnOk P w K mg base CX0 k f fd ps (spLaw K) :=
  h.imp fun vs H Q E ⟨a, ns, e, hs, hl, hq⟩ => by
    subst e
    obtain ⟨as', e'⟩ := q ns hl
    refine ⟨rfl, H, [.dat (.scr (ns.map Da.int))], _, (envR_nil (fp := fun _ => []) (Same.refl H)).consD (.scr hs (dxs_intsOf ns)), .d (.bl true), as', e', fun v H' D' fp' f' e'' st hv hc hf hn => ?_⟩
    have := vr_dx hv
    cases this
    exact hq H'
end Tw

/-! what the top has written, and the end -/
namespace Tw
open PySem PySem.Spec PyProof.Rows L2
theorem all_mk {l : PySem.W.OpenLaw} {w : World} {K : PySem.W.Frag} {h : Heap} {mg : Str → Option Value} {fa : Addr} (X : K.In h) (G : h.Ns mainGlobals mg) (hfa : mg "law" = some (.ref fa))
    {f0 : Addr} {od0 an0 : Option Addr} {sl0 : Array (Option Value)} {oc0 kV0 dc0 pm0 cd0 ct0 : Value}
    {f1 : Addr} {od1 an1 : Option Addr} {sl1 : Array (Option Value)} {oc1 kV1 dc1 pm1 cd1 ct1 : Value}
    {f2 : Addr} {od2 an2 : Option Addr} {sl2 : Array (Option Value)} {oc2 kV2 dc2 pm2 cd2 ct2 : Value}
    {f3 : Addr} {od3 an3 : Option Addr} {sl3 : Array (Option Value)} {oc3 kV3 dc3 pm3 cd3 ct3 : Value}
    {f4 : Addr} {od4 an4 : Option Addr} {sl4 : Array (Option Value)} {oc4 kV4 dc4 pm4 cd4 ct4 : Value}
    {f5 : Addr} {od5 an5 : Option Addr} {sl5 : Array (Option Value)} {oc5 kV5 dc5 pm5 cd5 ct5 : Value}
    {f6 : Addr} {od6 an6 : Option Addr} {sl6 : Array (Option Value)} {oc6 kV6 dc6 pm6 cd6 ct6 : Value}
    {f7 : Addr} {od7 an7 : Option Addr} {sl7 : Array (Option Value)} {oc7 kV7 dc7 pm7 cd7 ct7 : Value}
    {f8 : Addr} {od8 an8 : Option Addr} {sl8 : Array (Option Value)} {oc8 kV8 dc8 pm8 cd8 ct8 : Value}
    {f9 : Addr} {od9 an9 : Option Addr} {sl9 : Array (Option Value)} {oc9 kV9 dc9 pm9 cd9 ct9 : Value}
    {f10 : Addr} {od10 an10 : Option Addr} {sl10 : Array (Option Value)} {oc10 kV10 dc10 pm10 cd10 ct10 : Value}
    {f11 : Addr} {od11 an11 : Option Addr} {sl11 : Array (Option Value)} {oc11 kV11 dc11 pm11 cd11 ct11 : Value}
    {f12 : Addr} {od12 an12 : Option Addr} {sl12 : Array (Option Value)} {oc12 kV12 dc12 pm12 cd12 ct12 : Value}
    {f13 : Addr} {od13 an13 : Option Addr} {sl13 : Array (Option Value)} {oc13 kV13 dc13 pm13 cd13 ct13 : Value}
    {f14 : Addr} {od14 an14 : Option Addr} {sl14 : Array (Option Value)} {oc14 kV14 dc14 pm14 cd14 ct14 : Value}
    {f15 : Addr} {od15 an15 : Option Addr} {sl15 : Array (Option Value)} {oc15 kV15 dc15 pm15 cd15 ct15 : Value}
    {f16 : Addr} {od16 an16 : Option Addr} {sl16 : Array (Option Value)} {oc16 kV16 dc16 pm16 cd16 ct16 : Value}
    {f17 : Addr} {od17 an17 : Option Addr} {sl17 : Array (Option Value)} {oc17 kV17 dc17 pm17 cd17 ct17 : Value}
    {f18 : Addr} {od18 an18 : Option Addr} {sl18 : Array (Option Value)} {oc18 kV18 dc18 pm18 cd18 ct18 : Value}
    {f19 : Addr} {od19 an19 : Option Addr} {sl19 : Array (Option Value)} {oc19 kV19 dc19 pm19 cd19 ct19 : Value}
    {f20 : Addr} {od20 an20 : Option Addr} {sl20 : Array (Option Value)} {oc20 kV20 dc20 pm20 cd20 ct20 : Value}
    {tk0 : Tok}
    {tk1 : Tok}
    {tk2 : Tok}
    {tk3 : Tok}
    {tk4 : Tok}
    {tk5 : Tok}
    {tk6 : Tok}
    {t_LOOKS : Addr}
    {ta_LOOKS_0 : Addr} {td_LOOKS_0 : Option Addr} {tn_LOOKS_0 : Nat} {ts_LOOKS_0 : Array (Option Value)}
    {ta_LOOKS_1 : Addr} {td_LOOKS_1 : Option Addr} {tn_LOOKS_1 : Nat} {ts_LOOKS_1 : Array (Option Value)}
    {ta_LOOKS_2 : Addr} {td_LOOKS_2 : Option Addr} {tn_LOOKS_2 : Nat} {ts_LOOKS_2 : Array (Option Value)}
    {ta_LOOKS_3 : Addr} {td_LOOKS_3 : Option Addr} {tn_LOOKS_3 : Nat} {ts_LOOKS_3 : Array (Option Value)}
    {ta_LOOKS_4 : Addr} {td_LOOKS_4 : Option Addr} {tn_LOOKS_4 : Nat} {ts_LOOKS_4 : Array (Option Value)}
    {ta_LOOKS_5 : Addr} {td_LOOKS_5 : Option Addr} {tn_LOOKS_5 : Nat} {ts_LOOKS_5 : Array (Option Value)}
    {ta_LOOKS_6 : Addr} {td_LOOKS_6 : Option Addr} {tn_LOOKS_6 : Nat} {ts_LOOKS_6 : Array (Option Value)}
    {ta_LOOKS_7 : Addr} {td_LOOKS_7 : Option Addr} {tn_LOOKS_7 : Nat} {ts_LOOKS_7 : Array (Option Value)}
    {ta_LOOKS_8 : Addr} {td_LOOKS_8 : Option Addr} {tn_LOOKS_8 : Nat} {ts_LOOKS_8 : Array (Option Value)}
    {ta_LOOKS_9 : Addr} {td_LOOKS_9 : Option Addr} {tn_LOOKS_9 : Nat} {ts_LOOKS_9 : Array (Option Value)}
    {ta_LOOKS_10 : Addr} {td_LOOKS_10 : Option Addr} {tn_LOOKS_10 : Nat} {ts_LOOKS_10 : Array (Option Value)}
    {ta_LOOKS_11 : Addr} {td_LOOKS_11 : Option Addr} {tn_LOOKS_11 : Nat} {ts_LOOKS_11 : Array (Option Value)}
    {ta_LOOKS_12 : Addr} {td_LOOKS_12 : Option Addr} {tn_LOOKS_12 : Nat} {ts_LOOKS_12 : Array (Option Value)}
    {t_LACKS_BELOW : Addr}
    {tt_LACKS_BELOW_0 : Tok}
    {tt_LACKS_BELOW_1 : Tok}
    {tt_LACKS_BELOW_2 : Tok}
    {tt_LACKS_BELOW_3 : Tok}
    {tt_LACKS_BELOW_4 : Tok}
    {tt_LACKS_BELOW_5 : Tok}
    {tt_LACKS_BELOW_6 : Tok}
    {tt_LACKS_BELOW_7 : Tok}
    {tt_LACKS_BELOW_8 : Tok}
    {tt_LACKS_BELOW_9 : Tok}
    {tt_LACKS_BELOW_10 : Tok}
    {tt_LACKS_BELOW_11 : Tok}
    {tt_LACKS_BELOW_12 : Tok}
    {t_LEAVES_MORE : Addr}
    {tt_LEAVES_MORE_0 : Tok}
    {tt_LEAVES_MORE_1 : Tok}
    {tt_LEAVES_MORE_2 : Tok}
    {tt_LEAVES_MORE_3 : Tok}
    {tt_LEAVES_MORE_4 : Tok}
    {tt_LEAVES_MORE_5 : Tok}
    {tt_LEAVES_MORE_6 : Tok}
    {tt_LEAVES_MORE_7 : Tok}
    {tt_LEAVES_MORE_8 : Tok}
    {tt_LEAVES_MORE_9 : Tok}
    {tt_LEAVES_MORE_10 : Tok}
    {tt_LEAVES_MORE_11 : Tok}
    {tt_LEAVES_MORE_12 : Tok}
    (a0 : PySem.W.nsIn K mainGlobals "is_number" = some (some (.ref f0))) (l0 : K.lookup f0 = some ⟨oc0, od0, .func (PySem.W.fnOf "is_number" "is_number" (defArgs (topS 6)) (defBody (topS 6)) (defScope (topS 6)) .none kV0 dc0 pm0 an0 cd0 ct0), sl0⟩) (c0 : PySem.W.codeIn K cd0 "is_number" = true) (k0 : PySem.W.keepIn K (.ref f0) = true)
    (a1 : PySem.W.nsIn K mainGlobals "is_within" = some (some (.ref f1))) (l1 : K.lookup f1 = some ⟨oc1, od1, .func (PySem.W.fnOf "is_within" "is_within" (defArgs (topS 7)) (defBody (topS 7)) (defScope (topS 7)) .none kV1 dc1 pm1 an1 cd1 ct1), sl1⟩) (c1 : PySem.W.codeIn K cd1 "is_within" = true) (k1 : PySem.W.keepIn K (.ref f1) = true)
    (a2 : PySem.W.nsIn K mainGlobals "is_item" = some (some (.ref f2))) (l2 : K.lookup f2 = some ⟨oc2, od2, .func (PySem.W.fnOf "is_item" "is_item" (defArgs (topS 8)) (defBody (topS 8)) (defScope (topS 8)) .none kV2 dc2 pm2 an2 cd2 ct2), sl2⟩) (c2 : PySem.W.codeIn K cd2 "is_item" = true) (k2 : PySem.W.keepIn K (.ref f2) = true)
    (a3 : PySem.W.nsIn K mainGlobals "is_name" = some (some (.ref f3))) (l3 : K.lookup f3 = some ⟨oc3, od3, .func (PySem.W.fnOf "is_name" "is_name" (defArgs (topS 9)) (defBody (topS 9)) (defScope (topS 9)) .none kV3 dc3 pm3 an3 cd3 ct3), sl3⟩) (c3 : PySem.W.codeIn K cd3 "is_name" = true) (k3 : PySem.W.keepIn K (.ref f3) = true)
    (a4 : PySem.W.nsIn K mainGlobals "is_tuple" = some (some (.ref f4))) (l4 : K.lookup f4 = some ⟨oc4, od4, .func (PySem.W.fnOf "is_tuple" "is_tuple" (defArgs (topS 10)) (defBody (topS 10)) (defScope (topS 10)) .none kV4 dc4 pm4 an4 cd4 ct4), sl4⟩) (c4 : PySem.W.codeIn K cd4 "is_tuple" = true) (k4 : PySem.W.keepIn K (.ref f4) = true)
    (a5 : PySem.W.nsIn K mainGlobals "is_place" = some (some (.ref f5))) (l5 : K.lookup f5 = some ⟨oc5, od5, .func (PySem.W.fnOf "is_place" "is_place" (defArgs (topS 16)) (defBody (topS 16)) (defScope (topS 16)) .none kV5 dc5 pm5 an5 cd5 ct5), sl5⟩) (c5 : PySem.W.codeIn K cd5 "is_place" = true) (k5 : PySem.W.keepIn K (.ref f5) = true)
    (a6 : PySem.W.nsIn K mainGlobals "is_act" = some (some (.ref f6))) (l6 : K.lookup f6 = some ⟨oc6, od6, .func (PySem.W.fnOf "is_act" "is_act" (defArgs (topS 20)) (defBody (topS 20)) (defScope (topS 20)) .none kV6 dc6 pm6 an6 cd6 ct6), sl6⟩) (c6 : PySem.W.codeIn K cd6 "is_act" = true) (k6 : PySem.W.keepIn K (.ref f6) = true)
    (a7 : PySem.W.nsIn K mainGlobals "is_code" = some (some (.ref f7))) (l7 : K.lookup f7 = some ⟨oc7, od7, .func (PySem.W.fnOf "is_code" "is_code" (defArgs (topS 21)) (defBody (topS 21)) (defScope (topS 21)) .none kV7 dc7 pm7 an7 cd7 ct7), sl7⟩) (c7 : PySem.W.codeIn K cd7 "is_code" = true) (k7 : PySem.W.keepIn K (.ref f7) = true)
    (a8 : PySem.W.nsIn K mainGlobals "moves" = some (some (.ref f8))) (l8 : K.lookup f8 = some ⟨oc8, od8, .func (PySem.W.fnOf "moves" "moves" (defArgs (topS 22)) (defBody (topS 22)) (defScope (topS 22)) .none kV8 dc8 pm8 an8 cd8 ct8), sl8⟩) (c8 : PySem.W.codeIn K cd8 "moves" = true) (k8 : PySem.W.keepIn K (.ref f8) = true)
    (a9 : PySem.W.nsIn K mainGlobals "moves_all" = some (some (.ref f9))) (l9 : K.lookup f9 = some ⟨oc9, od9, .func (PySem.W.fnOf "moves_all" "moves_all" (defArgs (topS 23)) (defBody (topS 23)) (defScope (topS 23)) .none kV9 dc9 pm9 an9 cd9 ct9), sl9⟩) (c9 : PySem.W.codeIn K cd9 "moves_all" = true) (k9 : PySem.W.keepIn K (.ref f9) = true)
    (a10 : PySem.W.nsIn K mainGlobals "takes_of" = some (some (.ref f10))) (l10 : K.lookup f10 = some ⟨oc10, od10, .func (PySem.W.fnOf "takes_of" "takes_of" (defArgs (topS 24)) (defBody (topS 24)) (defScope (topS 24)) .none kV10 dc10 pm10 an10 cd10 ct10), sl10⟩) (c10 : PySem.W.codeIn K cd10 "takes_of" = true) (k10 : PySem.W.keepIn K (.ref f10) = true)
    (a11 : PySem.W.nsIn K mainGlobals "gives_of" = some (some (.ref f11))) (l11 : K.lookup f11 = some ⟨oc11, od11, .func (PySem.W.fnOf "gives_of" "gives_of" (defArgs (topS 25)) (defBody (topS 25)) (defScope (topS 25)) .none kV11 dc11 pm11 an11 cd11 ct11), sl11⟩) (c11 : PySem.W.codeIn K cd11 "gives_of" = true) (k11 : PySem.W.keepIn K (.ref f11) = true)
    (a12 : PySem.W.nsIn K mainGlobals "_law_tape" = some (some (.ref f12))) (l12 : K.lookup f12 = some ⟨oc12, od12, .func (PySem.W.fnOf "_law_tape" "_law_tape" (defArgs (topS 27)) (defBody (topS 27)) (defScope (topS 27)) .none kV12 dc12 pm12 an12 cd12 ct12), sl12⟩) (c12 : PySem.W.codeIn K cd12 "_law_tape" = true) (k12 : PySem.W.keepIn K (.ref f12) = true)
    (a13 : PySem.W.nsIn K mainGlobals "_law_draw" = some (some (.ref f13))) (l13 : K.lookup f13 = some ⟨oc13, od13, .func (PySem.W.fnOf "_law_draw" "_law_draw" (defArgs (topS 28)) (defBody (topS 28)) (defScope (topS 28)) .none kV13 dc13 pm13 an13 cd13 ct13), sl13⟩) (c13 : PySem.W.codeIn K cd13 "_law_draw" = true) (k13 : PySem.W.keepIn K (.ref f13) = true)
    (a14 : PySem.W.nsIn K mainGlobals "_law_folded" = some (some (.ref f14))) (l14 : K.lookup f14 = some ⟨oc14, od14, .func (PySem.W.fnOf "_law_folded" "_law_folded" (defArgs (topS 29)) (defBody (topS 29)) (defScope (topS 29)) .none kV14 dc14 pm14 an14 cd14 ct14), sl14⟩) (c14 : PySem.W.codeIn K cd14 "_law_folded" = true) (k14 : PySem.W.keepIn K (.ref f14) = true)
    (a15 : PySem.W.nsIn K mainGlobals "_law_names" = some (some (.ref f15))) (l15 : K.lookup f15 = some ⟨oc15, od15, .func (PySem.W.fnOf "_law_names" "_law_names" (defArgs (topS 30)) (defBody (topS 30)) (defScope (topS 30)) .none kV15 dc15 pm15 an15 cd15 ct15), sl15⟩) (c15 : PySem.W.codeIn K cd15 "_law_names" = true) (k15 : PySem.W.keepIn K (.ref f15) = true)
    (a16 : PySem.W.nsIn K mainGlobals "_law_part" = some (some (.ref f16))) (l16 : K.lookup f16 = some ⟨oc16, od16, .func (PySem.W.fnOf "_law_part" "_law_part" (defArgs (topS 31)) (defBody (topS 31)) (defScope (topS 31)) .none kV16 dc16 pm16 an16 cd16 ct16), sl16⟩) (c16 : PySem.W.codeIn K cd16 "_law_part" = true) (k16 : PySem.W.keepIn K (.ref f16) = true)
    (a17 : PySem.W.nsIn K mainGlobals "_law_same" = some (some (.ref f17))) (l17 : K.lookup f17 = some ⟨oc17, od17, .func (PySem.W.fnOf "_law_same" "_law_same" (defArgs (topS 32)) (defBody (topS 32)) (defScope (topS 32)) .none kV17 dc17 pm17 an17 cd17 ct17), sl17⟩) (c17 : PySem.W.codeIn K cd17 "_law_same" = true) (k17 : PySem.W.keepIn K (.ref f17) = true)
    (a18 : PySem.W.nsIn K mainGlobals "_law_cases" = some (some (.ref f18))) (l18 : K.lookup f18 = some ⟨oc18, od18, .func (PySem.W.fnOf "_law_cases" "_law_cases" (defArgs (topS 33)) (defBody (topS 33)) (defScope (topS 33)) .none kV18 dc18 pm18 an18 cd18 ct18), sl18⟩) (c18 : PySem.W.codeIn K cd18 "_law_cases" = true) (k18 : PySem.W.keepIn K (.ref f18) = true)
    (a19 : PySem.W.nsIn K mainGlobals "_law_moves_right" = some (some (.ref f19))) (l19 : K.lookup f19 = some ⟨oc19, od19, .func (PySem.W.fnOf "_law_moves_right" "_law_moves_right" (defArgs (topS 34)) (defBody (topS 34)) (defScope (topS 34)) .none kV19 dc19 pm19 an19 cd19 ct19), sl19⟩) (c19 : PySem.W.codeIn K cd19 "_law_moves_right" = true) (k19 : PySem.W.keepIn K (.ref f19) = true)
    (a20 : PySem.W.nsIn K mainGlobals "law" = some (some (.ref f20))) (l20 : K.lookup f20 = some ⟨oc20, od20, .func (PySem.W.fnOf "law" "law" (defArgs (topS 35)) (defBody (topS 35)) (defScope (topS 35)) .none kV20 dc20 pm20 an20 cd20 ct20), sl20⟩) (c20 : PySem.W.codeIn K cd20 "law" = true) (k20 : PySem.W.keepIn K (.ref f20) = true)
    (q0 : PySem.W.nsIn K mainGlobals "WIDE" = some (some (.int 1000000 tk0)))
    (q1 : PySem.W.nsIn K mainGlobals "MOST_LETTERS" = some (some (.int 8 tk1)))
    (q2 : PySem.W.nsIn K mainGlobals "LETTERS" = some (some (.str "abcdefghijklmnopqrstuvwxyz" tk2)))
    (q3 : PySem.W.nsIn K mainGlobals "MOST_PLACES" = some (some (.int 4 tk3)))
    (q4 : PySem.W.nsIn K mainGlobals "MOST_ACTS" = some (some (.int 24 tk4)))
    (q5 : PySem.W.nsIn K mainGlobals "TAKE" = some (some (.str "take" tk5)))
    (q6 : PySem.W.nsIn K mainGlobals "GIVE" = some (some (.str "give" tk6)))
    (z_len : PySem.W.nsIn K mainGlobals "len" = some none)
    (z_abs : PySem.W.nsIn K mainGlobals "abs" = some none)
    (z_int : PySem.W.nsIn K mainGlobals "int" = some none)
    (z_list : PySem.W.nsIn K mainGlobals "list" = some none)
    (z_tuple : PySem.W.nsIn K mainGlobals "tuple" = some none)
    (z_str : PySem.W.nsIn K mainGlobals "str" = some none)
    (z_bool : PySem.W.nsIn K mainGlobals "bool" = some none)
    (z_range : PySem.W.nsIn K mainGlobals "range" = some none)
    (z_enumerate : PySem.W.nsIn K mainGlobals "enumerate" = some none)
    (z_zip : PySem.W.nsIn K mainGlobals "zip" = some none)
    (z_all : PySem.W.nsIn K mainGlobals "all" = some none)
    (z_any : PySem.W.nsIn K mainGlobals "any" = some none)
    (z_sum : PySem.W.nsIn K mainGlobals "sum" = some none)
    (z_min : PySem.W.nsIn K mainGlobals "min" = some none)
    (z_max : PySem.W.nsIn K mainGlobals "max" = some none)
    (z_sorted : PySem.W.nsIn K mainGlobals "sorted" = some none)
    (z_set : PySem.W.nsIn K mainGlobals "set" = some none)
    (z_dict : PySem.W.nsIn K mainGlobals "dict" = some none)
    (z_repr : PySem.W.nsIn K mainGlobals "repr" = some none)
    (z_reversed : PySem.W.nsIn K mainGlobals "reversed" = some none)
    (z_isinstance : PySem.W.nsIn K mainGlobals "isinstance" = some none)
    (tq_LOOKS : PySem.W.nsIn K mainGlobals "LOOKS" = some (some (.ref t_LOOKS))) (td_LOOKS : He.dicW K t_LOOKS = some (He.keysIn w.params ["take", "give", "number", "keep", "kept", "plus", "less", "times", "below", "twice", "swap", "drop", "pick"]))
    (te_LOOKS_0 : PySem.W.nsIn K t_LOOKS "take" = some (some (.ref ta_LOOKS_0))) (tl_LOOKS_0 : K.lookup ta_LOOKS_0 = some ⟨.type "tuple", td_LOOKS_0, .seq #[.ref f3] tn_LOOKS_0, ts_LOOKS_0⟩)
    (te_LOOKS_1 : PySem.W.nsIn K t_LOOKS "give" = some (some (.ref ta_LOOKS_1))) (tl_LOOKS_1 : K.lookup ta_LOOKS_1 = some ⟨.type "tuple", td_LOOKS_1, .seq #[.ref f3] tn_LOOKS_1, ts_LOOKS_1⟩)
    (te_LOOKS_2 : PySem.W.nsIn K t_LOOKS "number" = some (some (.ref ta_LOOKS_2))) (tl_LOOKS_2 : K.lookup ta_LOOKS_2 = some ⟨.type "tuple", td_LOOKS_2, .seq #[.ref f2] tn_LOOKS_2, ts_LOOKS_2⟩)
    (te_LOOKS_3 : PySem.W.nsIn K t_LOOKS "keep" = some (some (.ref ta_LOOKS_3))) (tl_LOOKS_3 : K.lookup ta_LOOKS_3 = some ⟨.type "tuple", td_LOOKS_3, .seq #[.ref f5] tn_LOOKS_3, ts_LOOKS_3⟩)
    (te_LOOKS_4 : PySem.W.nsIn K t_LOOKS "kept" = some (some (.ref ta_LOOKS_4))) (tl_LOOKS_4 : K.lookup ta_LOOKS_4 = some ⟨.type "tuple", td_LOOKS_4, .seq #[.ref f5] tn_LOOKS_4, ts_LOOKS_4⟩)
    (te_LOOKS_5 : PySem.W.nsIn K t_LOOKS "plus" = some (some (.ref ta_LOOKS_5))) (tl_LOOKS_5 : K.lookup ta_LOOKS_5 = some ⟨.type "tuple", td_LOOKS_5, .seq #[] tn_LOOKS_5, ts_LOOKS_5⟩)
    (te_LOOKS_6 : PySem.W.nsIn K t_LOOKS "less" = some (some (.ref ta_LOOKS_6))) (tl_LOOKS_6 : K.lookup ta_LOOKS_6 = some ⟨.type "tuple", td_LOOKS_6, .seq #[] tn_LOOKS_6, ts_LOOKS_6⟩)
    (te_LOOKS_7 : PySem.W.nsIn K t_LOOKS "times" = some (some (.ref ta_LOOKS_7))) (tl_LOOKS_7 : K.lookup ta_LOOKS_7 = some ⟨.type "tuple", td_LOOKS_7, .seq #[] tn_LOOKS_7, ts_LOOKS_7⟩)
    (te_LOOKS_8 : PySem.W.nsIn K t_LOOKS "below" = some (some (.ref ta_LOOKS_8))) (tl_LOOKS_8 : K.lookup ta_LOOKS_8 = some ⟨.type "tuple", td_LOOKS_8, .seq #[] tn_LOOKS_8, ts_LOOKS_8⟩)
    (te_LOOKS_9 : PySem.W.nsIn K t_LOOKS "twice" = some (some (.ref ta_LOOKS_9))) (tl_LOOKS_9 : K.lookup ta_LOOKS_9 = some ⟨.type "tuple", td_LOOKS_9, .seq #[] tn_LOOKS_9, ts_LOOKS_9⟩)
    (te_LOOKS_10 : PySem.W.nsIn K t_LOOKS "swap" = some (some (.ref ta_LOOKS_10))) (tl_LOOKS_10 : K.lookup ta_LOOKS_10 = some ⟨.type "tuple", td_LOOKS_10, .seq #[] tn_LOOKS_10, ts_LOOKS_10⟩)
    (te_LOOKS_11 : PySem.W.nsIn K t_LOOKS "drop" = some (some (.ref ta_LOOKS_11))) (tl_LOOKS_11 : K.lookup ta_LOOKS_11 = some ⟨.type "tuple", td_LOOKS_11, .seq #[] tn_LOOKS_11, ts_LOOKS_11⟩)
    (te_LOOKS_12 : PySem.W.nsIn K t_LOOKS "pick" = some (some (.ref ta_LOOKS_12))) (tl_LOOKS_12 : K.lookup ta_LOOKS_12 = some ⟨.type "tuple", td_LOOKS_12, .seq #[] tn_LOOKS_12, ts_LOOKS_12⟩)
    (tq_LACKS_BELOW : PySem.W.nsIn K mainGlobals "LACKS_BELOW" = some (some (.ref t_LACKS_BELOW))) (td_LACKS_BELOW : He.dicW K t_LACKS_BELOW = some (He.keysIn w.params ["take", "give", "number", "keep", "kept", "plus", "less", "times", "below", "twice", "swap", "drop", "pick"]))
    (te_LACKS_BELOW_0 : PySem.W.nsIn K t_LACKS_BELOW "take" = some (some (.int 0 tt_LACKS_BELOW_0)))
    (te_LACKS_BELOW_1 : PySem.W.nsIn K t_LACKS_BELOW "give" = some (some (.int 1 tt_LACKS_BELOW_1)))
    (te_LACKS_BELOW_2 : PySem.W.nsIn K t_LACKS_BELOW "number" = some (some (.int 0 tt_LACKS_BELOW_2)))
    (te_LACKS_BELOW_3 : PySem.W.nsIn K t_LACKS_BELOW "keep" = some (some (.int 1 tt_LACKS_BELOW_3)))
    (te_LACKS_BELOW_4 : PySem.W.nsIn K t_LACKS_BELOW "kept" = some (some (.int 0 tt_LACKS_BELOW_4)))
    (te_LACKS_BELOW_5 : PySem.W.nsIn K t_LACKS_BELOW "plus" = some (some (.int 2 tt_LACKS_BELOW_5)))
    (te_LACKS_BELOW_6 : PySem.W.nsIn K t_LACKS_BELOW "less" = some (some (.int 2 tt_LACKS_BELOW_6)))
    (te_LACKS_BELOW_7 : PySem.W.nsIn K t_LACKS_BELOW "times" = some (some (.int 2 tt_LACKS_BELOW_7)))
    (te_LACKS_BELOW_8 : PySem.W.nsIn K t_LACKS_BELOW "below" = some (some (.int 2 tt_LACKS_BELOW_8)))
    (te_LACKS_BELOW_9 : PySem.W.nsIn K t_LACKS_BELOW "twice" = some (some (.int 1 tt_LACKS_BELOW_9)))
    (te_LACKS_BELOW_10 : PySem.W.nsIn K t_LACKS_BELOW "swap" = some (some (.int 2 tt_LACKS_BELOW_10)))
    (te_LACKS_BELOW_11 : PySem.W.nsIn K t_LACKS_BELOW "drop" = some (some (.int 1 tt_LACKS_BELOW_11)))
    (te_LACKS_BELOW_12 : PySem.W.nsIn K t_LACKS_BELOW "pick" = some (some (.int 3 tt_LACKS_BELOW_12)))
    (tq_LEAVES_MORE : PySem.W.nsIn K mainGlobals "LEAVES_MORE" = some (some (.ref t_LEAVES_MORE))) (td_LEAVES_MORE : He.dicW K t_LEAVES_MORE = some (He.keysIn w.params ["take", "give", "number", "keep", "kept", "plus", "less", "times", "below", "twice", "swap", "drop", "pick"]))
    (te_LEAVES_MORE_0 : PySem.W.nsIn K t_LEAVES_MORE "take" = some (some (.int 1 tt_LEAVES_MORE_0)))
    (te_LEAVES_MORE_1 : PySem.W.nsIn K t_LEAVES_MORE "give" = some (some (.int (-1) tt_LEAVES_MORE_1)))
    (te_LEAVES_MORE_2 : PySem.W.nsIn K t_LEAVES_MORE "number" = some (some (.int 1 tt_LEAVES_MORE_2)))
    (te_LEAVES_MORE_3 : PySem.W.nsIn K t_LEAVES_MORE "keep" = some (some (.int (-1) tt_LEAVES_MORE_3)))
    (te_LEAVES_MORE_4 : PySem.W.nsIn K t_LEAVES_MORE "kept" = some (some (.int 1 tt_LEAVES_MORE_4)))
    (te_LEAVES_MORE_5 : PySem.W.nsIn K t_LEAVES_MORE "plus" = some (some (.int (-1) tt_LEAVES_MORE_5)))
    (te_LEAVES_MORE_6 : PySem.W.nsIn K t_LEAVES_MORE "less" = some (some (.int (-1) tt_LEAVES_MORE_6)))
    (te_LEAVES_MORE_7 : PySem.W.nsIn K t_LEAVES_MORE "times" = some (some (.int (-1) tt_LEAVES_MORE_7)))
    (te_LEAVES_MORE_8 : PySem.W.nsIn K t_LEAVES_MORE "below" = some (some (.int (-1) tt_LEAVES_MORE_8)))
    (te_LEAVES_MORE_9 : PySem.W.nsIn K t_LEAVES_MORE "twice" = some (some (.int 1 tt_LEAVES_MORE_9)))
    (te_LEAVES_MORE_10 : PySem.W.nsIn K t_LEAVES_MORE "swap" = some (some (.int 0 tt_LEAVES_MORE_10)))
    (te_LEAVES_MORE_11 : PySem.W.nsIn K t_LEAVES_MORE "drop" = some (some (.int (-1) tt_LEAVES_MORE_11)))
    (te_LEAVES_MORE_12 : PySem.W.nsIn K t_LEAVES_MORE "pick" = some (some (.int (-2) tt_LEAVES_MORE_12))) :
    ∃ fd : FuncData, (∀ (s : Shared) (v : Value), BindsTo s fd ⟨[v], []⟩ [("_law_script", v)]) ∧ ∀ base : Heap, K.In base → base.Ns mainGlobals mg → FnOk l.prog w K mg base CX0 9 fa fd ["_law_script"] (spLaw K) := by
  have e := hfa.symm.trans (PySem.W.mg_of X G a20)
  cases e
  have F0 := fun_mk (st := (topS 6)) l0 c0 k0
  have b0 := F0.binds (ps := ["thing"]) fun _ _ _ _ _ _ us hl => match us, hl with | [_], _ => rfl
  have g0 := PySem.W.mg_of X G a0
  have F1 := fun_mk (st := (topS 7)) l1 c1 k1
  have b1 := F1.binds (ps := ["thing", "least", "most"]) fun _ _ _ _ _ _ us hl => match us, hl with | [_, _, _], _ => rfl
  have g1 := PySem.W.mg_of X G a1
  have F2 := fun_mk (st := (topS 8)) l2 c2 k2
  have b2 := F2.binds (ps := ["thing"]) fun _ _ _ _ _ _ us hl => match us, hl with | [_], _ => rfl
  have g2 := PySem.W.mg_of X G a2
  have F3 := fun_mk (st := (topS 9)) l3 c3 k3
  have b3 := F3.binds (ps := ["thing"]) fun _ _ _ _ _ _ us hl => match us, hl with | [_], _ => rfl
  have g3 := PySem.W.mg_of X G a3
  have F4 := fun_mk (st := (topS 10)) l4 c4 k4
  have b4 := F4.binds (ps := ["thing", "least", "most"]) fun _ _ _ _ _ _ us hl => match us, hl with | [_, _, _], _ => rfl
  have g4 := PySem.W.mg_of X G a4
  have F5 := fun_mk (st := (topS 16)) l5 c5 k5
  have b5 := F5.binds (ps := ["thing"]) fun _ _ _ _ _ _ us hl => match us, hl with | [_], _ => rfl
  have g5 := PySem.W.mg_of X G a5
  have F6 := fun_mk (st := (topS 20)) l6 c6 k6
  have b6 := F6.binds (ps := ["thing"]) fun _ _ _ _ _ _ us hl => match us, hl with | [_], _ => rfl
  have g6 := PySem.W.mg_of X G a6
  have F7 := fun_mk (st := (topS 21)) l7 c7 k7
  have b7 := F7.binds (ps := ["thing"]) fun _ _ _ _ _ _ us hl => match us, hl with | [_], _ => rfl
  have g7 := PySem.W.mg_of X G a7
  have F8 := fun_mk (st := (topS 22)) l8 c8 k8
  have b8 := F8.binds (ps := ["code", "word", "tray"]) fun _ _ _ _ _ _ us hl => match us, hl with | [_, _, _], _ => rfl
  have g8 := PySem.W.mg_of X G a8
  have F9 := fun_mk (st := (topS 23)) l9 c9 k9
  have b9 := F9.binds (ps := ["code", "word"]) fun _ _ _ _ _ _ us hl => match us, hl with | [_, _], _ => rfl
  have g9 := PySem.W.mg_of X G a9
  have F10 := fun_mk (st := (topS 24)) l10 c10 k10
  have b10 := F10.binds (ps := ["code"]) fun _ _ _ _ _ _ us hl => match us, hl with | [_], _ => rfl
  have g10 := PySem.W.mg_of X G a10
  have F11 := fun_mk (st := (topS 25)) l11 c11 k11
  have b11 := F11.binds (ps := ["code"]) fun _ _ _ _ _ _ us hl => match us, hl with | [_], _ => rfl
  have g11 := PySem.W.mg_of X G a11
  have F12 := fun_mk (st := (topS 27)) l12 c12 k12
  have b12 := F12.binds (ps := ["_law_script", "_law_k"]) fun _ _ _ _ _ _ us hl => match us, hl with | [_, _], _ => rfl
  have g12 := PySem.W.mg_of X G a12
  have F13 := fun_mk (st := (topS 28)) l13 c13 k13
  have b13 := F13.binds (ps := ["_law_tape_here", "_law_many"]) fun _ _ _ _ _ _ us hl => match us, hl with | [_, _], _ => rfl
  have g13 := PySem.W.mg_of X G a13
  have F14 := fun_mk (st := (topS 29)) l14 c14 k14
  have b14 := F14.binds (ps := ["_law_script", "_law_many"]) fun _ _ _ _ _ _ us hl => match us, hl with | [_, _], _ => rfl
  have g14 := PySem.W.mg_of X G a14
  have F15 := fun_mk (st := (topS 30)) l15 c15 k15
  have b15 := F15.binds (ps := ["_law_tape_here", "_law_many"]) fun _ _ _ _ _ _ us hl => match us, hl with | [_, _], _ => rfl
  have g15 := PySem.W.mg_of X G a15
  have F16 := fun_mk (st := (topS 31)) l16 c16 k16
  have b16 := F16.binds (ps := ["_law_tape_here", "_law_some", "_law_many"]) fun _ _ _ _ _ _ us hl => match us, hl with | [_, _, _], _ => rfl
  have g16 := PySem.W.mg_of X G a16
  have F17 := fun_mk (st := (topS 32)) l17 c17 k17
  have b17 := F17.binds (ps := ["_law_found", "_law_due"]) fun _ _ _ _ _ _ us hl => match us, hl with | [_, _], _ => rfl
  have g17 := PySem.W.mg_of X G a17
  have F18 := fun_mk (st := (topS 33)) l18 c18 k18
  have b18 := F18.binds (ps := ["_law_name", "_law_number"]) fun _ _ _ _ _ _ us hl => match us, hl with | [_, _], _ => rfl
  have g18 := PySem.W.mg_of X G a18
  have F19 := fun_mk (st := (topS 34)) l19 c19 k19
  have b19 := F19.binds (ps := ["_law_name", "_law_other", "_law_number"]) fun _ _ _ _ _ _ us hl => match us, hl with | [_, _, _], _ => rfl
  have g19 := PySem.W.mg_of X G a19
  have F20 := fun_mk (st := (topS 35)) l20 c20 k20
  have b20 := F20.binds (ps := ["_law_script"]) fun _ _ _ _ _ _ us hl => match us, hl with | [_], _ => rfl
  have g20 := PySem.W.mg_of X G a20
  have B : Bi mg := ⟨PySem.W.mg_none_of X G z_len, PySem.W.mg_none_of X G z_abs, PySem.W.mg_none_of X G z_int, PySem.W.mg_none_of X G z_list, PySem.W.mg_none_of X G z_tuple, PySem.W.mg_none_of X G z_str, PySem.W.mg_none_of X G z_bool, PySem.W.mg_none_of X G z_range, PySem.W.mg_none_of X G z_enumerate, PySem.W.mg_none_of X G z_zip, PySem.W.mg_none_of X G z_all, PySem.W.mg_none_of X G z_any, PySem.W.mg_none_of X G z_sum, PySem.W.mg_none_of X G z_min, PySem.W.mg_none_of X G z_max, PySem.W.mg_none_of X G z_sorted, PySem.W.mg_none_of X G z_set, PySem.W.mg_none_of X G z_dict, PySem.W.mg_none_of X G z_repr, PySem.W.mg_none_of X G z_reversed, PySem.W.mg_none_of X G z_isinstance⟩
  have c_WIDE : GI ⟨l.prog, w, K, mg⟩ "WIDE" 1000000 := ⟨_, PySem.W.mg_of X G q0⟩
  have c_MOST_LETTERS : GI ⟨l.prog, w, K, mg⟩ "MOST_LETTERS" 8 := ⟨_, PySem.W.mg_of X G q1⟩
  have c_LETTERS : GS ⟨l.prog, w, K, mg⟩ "LETTERS" "abcdefghijklmnopqrstuvwxyz" := ⟨_, PySem.W.mg_of X G q2⟩
  have c_MOST_PLACES : GI ⟨l.prog, w, K, mg⟩ "MOST_PLACES" 4 := ⟨_, PySem.W.mg_of X G q3⟩
  have c_LOOKS : GD ⟨l.prog, w, K, mg⟩ "LOOKS" d_LOOKS := ⟨t_LOOKS, PySem.W.mg_of X G tq_LOOKS, fun _ => .tab (vs := [.ref ta_LOOKS_0, .ref ta_LOOKS_1, .ref ta_LOOKS_2, .ref ta_LOOKS_3, .ref ta_LOOKS_4, .ref ta_LOOKS_5, .ref ta_LOOKS_6, .ref ta_LOOKS_7, .ref ta_LOOKS_8, .ref ta_LOOKS_9, .ref ta_LOOKS_10, .ref ta_LOOKS_11, .ref ta_LOOKS_12]) (tabAt_of td_LOOKS (.cons te_LOOKS_0 rfl (.cons te_LOOKS_1 rfl (.cons te_LOOKS_2 rfl (.cons te_LOOKS_3 rfl (.cons te_LOOKS_4 rfl (.cons te_LOOKS_5 rfl (.cons te_LOOKS_6 rfl (.cons te_LOOKS_7 rfl (.cons te_LOOKS_8 rfl (.cons te_LOOKS_9 rfl (.cons te_LOOKS_10 rfl (.cons te_LOOKS_11 rfl (.cons te_LOOKS_12 rfl .nil)))))))))))))) rfl (.cons (.tup (.inr ⟨_, _, _, tl_LOOKS_0, rfl, rfl, (show 1 ≤ sizeLine by decide), (.cons (show RelV (.ref f3) (.ref f3) from rfl) .nil)⟩) (.cons (.fn g3) .nil)) (.cons (.tup (.inr ⟨_, _, _, tl_LOOKS_1, rfl, rfl, (show 1 ≤ sizeLine by decide), (.cons (show RelV (.ref f3) (.ref f3) from rfl) .nil)⟩) (.cons (.fn g3) .nil)) (.cons (.tup (.inr ⟨_, _, _, tl_LOOKS_2, rfl, rfl, (show 1 ≤ sizeLine by decide), (.cons (show RelV (.ref f2) (.ref f2) from rfl) .nil)⟩) (.cons (.fn g2) .nil)) (.cons (.tup (.inr ⟨_, _, _, tl_LOOKS_3, rfl, rfl, (show 1 ≤ sizeLine by decide), (.cons (show RelV (.ref f5) (.ref f5) from rfl) .nil)⟩) (.cons (.fn g5) .nil)) (.cons (.tup (.inr ⟨_, _, _, tl_LOOKS_4, rfl, rfl, (show 1 ≤ sizeLine by decide), (.cons (show RelV (.ref f5) (.ref f5) from rfl) .nil)⟩) (.cons (.fn g5) .nil)) (.cons (.tup (.inr ⟨_, _, _, tl_LOOKS_5, rfl, rfl, (show 0 ≤ sizeLine by decide), .nil⟩) .nil) (.cons (.tup (.inr ⟨_, _, _, tl_LOOKS_6, rfl, rfl, (show 0 ≤ sizeLine by decide), .nil⟩) .nil) (.cons (.tup (.inr ⟨_, _, _, tl_LOOKS_7, rfl, rfl, (show 0 ≤ sizeLine by decide), .nil⟩) .nil) (.cons (.tup (.inr ⟨_, _, _, tl_LOOKS_8, rfl, rfl, (show 0 ≤ sizeLine by decide), .nil⟩) .nil) (.cons (.tup (.inr ⟨_, _, _, tl_LOOKS_9, rfl, rfl, (show 0 ≤ sizeLine by decide), .nil⟩) .nil) (.cons (.tup (.inr ⟨_, _, _, tl_LOOKS_10, rfl, rfl, (show 0 ≤ sizeLine by decide), .nil⟩) .nil) (.cons (.tup (.inr ⟨_, _, _, tl_LOOKS_11, rfl, rfl, (show 0 ≤ sizeLine by decide), .nil⟩) .nil) (.cons (.tup (.inr ⟨_, _, _, tl_LOOKS_12, rfl, rfl, (show 0 ≤ sizeLine by decide), .nil⟩) .nil) .nil)))))))))))))⟩
  have c_MOST_ACTS : GI ⟨l.prog, w, K, mg⟩ "MOST_ACTS" 24 := ⟨_, PySem.W.mg_of X G q4⟩
  have c_LACKS_BELOW : GD ⟨l.prog, w, K, mg⟩ "LACKS_BELOW" d_LACKS_BELOW := ⟨t_LACKS_BELOW, PySem.W.mg_of X G tq_LACKS_BELOW, fun _ => .tab (vs := [.int 0, .int 1, .int 0, .int 1, .int 0, .int 2, .int 2, .int 2, .int 2, .int 1, .int 2, .int 1, .int 3]) (tabAt_of td_LACKS_BELOW (.cons te_LACKS_BELOW_0 ⟨_, rfl⟩ (.cons te_LACKS_BELOW_1 ⟨_, rfl⟩ (.cons te_LACKS_BELOW_2 ⟨_, rfl⟩ (.cons te_LACKS_BELOW_3 ⟨_, rfl⟩ (.cons te_LACKS_BELOW_4 ⟨_, rfl⟩ (.cons te_LACKS_BELOW_5 ⟨_, rfl⟩ (.cons te_LACKS_BELOW_6 ⟨_, rfl⟩ (.cons te_LACKS_BELOW_7 ⟨_, rfl⟩ (.cons te_LACKS_BELOW_8 ⟨_, rfl⟩ (.cons te_LACKS_BELOW_9 ⟨_, rfl⟩ (.cons te_LACKS_BELOW_10 ⟨_, rfl⟩ (.cons te_LACKS_BELOW_11 ⟨_, rfl⟩ (.cons te_LACKS_BELOW_12 ⟨_, rfl⟩ .nil)))))))))))))) rfl (.cons (.int _) (.cons (.int _) (.cons (.int _) (.cons (.int _) (.cons (.int _) (.cons (.int _) (.cons (.int _) (.cons (.int _) (.cons (.int _) (.cons (.int _) (.cons (.int _) (.cons (.int _) (.cons (.int _) .nil)))))))))))))⟩
  have c_LEAVES_MORE : GD ⟨l.prog, w, K, mg⟩ "LEAVES_MORE" d_LEAVES_MORE := ⟨t_LEAVES_MORE, PySem.W.mg_of X G tq_LEAVES_MORE, fun _ => .tab (vs := [.int 1, .int (-1), .int 1, .int (-1), .int 1, .int (-1), .int (-1), .int (-1), .int (-1), .int 1, .int 0, .int (-1), .int (-2)]) (tabAt_of td_LEAVES_MORE (.cons te_LEAVES_MORE_0 ⟨_, rfl⟩ (.cons te_LEAVES_MORE_1 ⟨_, rfl⟩ (.cons te_LEAVES_MORE_2 ⟨_, rfl⟩ (.cons te_LEAVES_MORE_3 ⟨_, rfl⟩ (.cons te_LEAVES_MORE_4 ⟨_, rfl⟩ (.cons te_LEAVES_MORE_5 ⟨_, rfl⟩ (.cons te_LEAVES_MORE_6 ⟨_, rfl⟩ (.cons te_LEAVES_MORE_7 ⟨_, rfl⟩ (.cons te_LEAVES_MORE_8 ⟨_, rfl⟩ (.cons te_LEAVES_MORE_9 ⟨_, rfl⟩ (.cons te_LEAVES_MORE_10 ⟨_, rfl⟩ (.cons te_LEAVES_MORE_11 ⟨_, rfl⟩ (.cons te_LEAVES_MORE_12 ⟨_, rfl⟩ .nil)))))))))))))) rfl (.cons (.int _) (.cons (.int _) (.cons (.int _) (.cons (.int _) (.cons (.int _) (.cons (.int _) (.cons (.int _) (.cons (.int _) (.cons (.int _) (.cons (.int _) (.cons (.int _) (.cons (.int _) (.cons (.int _) .nil)))))))))))))⟩
  have c_TAKE : GS ⟨l.prog, w, K, mg⟩ "TAKE" "take" := ⟨_, PySem.W.mg_of X G q5⟩
  have c_GIVE : GS ⟨l.prog, w, K, mg⟩ "GIVE" "give" := ⟨_, PySem.W.mg_of X G q6⟩
  have kb_gives_of : KBn K (PySem.W.fnOf "gives_of" "gives_of" (defArgs (topS 25)) (defBody (topS 25)) (defScope (topS 25)) .none kV11 dc11 pm11 an11 cd11 ct11) ["code"] 0 ["code"] (fun _ ws => ws) (fun _ zs => turnL false zs) := ⟨fun s us ws _ h1 h2 => match us, ws, h1, h2 with | [], [_], _, _ => .of_eq rfl, fun _ rz => rz⟩
  refine ⟨PySem.W.fnOf "law" "law" (defArgs (topS 35)) (defBody (topS 35)) (defScope (topS 35)) .none kV20 dc20 pm20 an20 cd20 ct20, fun s v => .of_eq rfl, fun base _ _ => ?_⟩
  have C_is_number : Cal l.prog w K mg base "is_number" 1 ["thing"] (spV ⟨l.prog, w, K, mg⟩ 1 w_is_number) := ⟨_, _, ok_is_number B F0, g0, k0, b0⟩
  have C_is_within : Cal l.prog w K mg base "is_within" 2 ["thing", "least", "most"] (spV ⟨l.prog, w, K, mg⟩ 3 w_is_within) := ⟨_, _, ok_is_within C_is_number F1, g1, k1, b1⟩
  have C_is_item : Cal l.prog w K mg base "is_item" 3 ["thing"] (spV ⟨l.prog, w, K, mg⟩ 1 w_is_item) := ⟨_, _, ok_is_item c_WIDE C_is_within F2, g2, k2, b2⟩
  have C_is_name : Cal l.prog w K mg base "is_name" 1 ["thing"] (spV ⟨l.prog, w, K, mg⟩ 1 w_is_name) := ⟨_, _, ok_is_name B c_MOST_LETTERS c_LETTERS F3, g3, k3, b3⟩
  have C_is_tuple : Cal l.prog w K mg base "is_tuple" 1 ["thing", "least", "most"] (spV ⟨l.prog, w, K, mg⟩ 3 w_is_tuple) := ⟨_, _, ok_is_tuple B F4, g4, k4, b4⟩
  have C_is_place : Cal l.prog w K mg base "is_place" 3 ["thing"] (spV ⟨l.prog, w, K, mg⟩ 1 w_is_place) := ⟨_, _, ok_is_place c_MOST_PLACES C_is_within F5, g5, k5, b5⟩
  have C_is_act : Cal l.prog w K mg base "is_act" 4 ["thing"] (spV ⟨l.prog, w, K, mg⟩ 1 w_is_act) := ⟨_, _, ok_is_act B c_LOOKS C_is_name C_is_item C_is_place F6, g6, k6, b6⟩
  have C_is_code : Cal l.prog w K mg base "is_code" 5 ["thing"] (spV ⟨l.prog, w, K, mg⟩ 1 w_is_code) := ⟨_, _, ok_is_code B C_is_act c_MOST_ACTS C_is_tuple c_LACKS_BELOW c_LEAVES_MORE F7, g7, k7, b7⟩
  have C_moves : Cal l.prog w K mg base "moves" 1 ["code", "word", "tray"] (spV ⟨l.prog, w, K, mg⟩ 3 w_moves) := ⟨_, _, ok_moves B F8, g8, k8, b8⟩
  have C_moves_all : Cal l.prog w K mg base "moves_all" 2 ["code", "word"] (spV ⟨l.prog, w, K, mg⟩ 2 w_moves_all) := ⟨_, _, ok_moves_all B C_moves F9, g9, k9, b9⟩
  have C_takes_of : Cal l.prog w K mg base "takes_of" 3 ["code"] (spV ⟨l.prog, w, K, mg⟩ 1 w_takes_of) := ⟨_, _, ok_takes_of c_TAKE C_moves_all F10, g10, k10, b10⟩
  have C_gives_of : Cal l.prog w K mg base "gives_of" 3 ["code"] (spV ⟨l.prog, w, K, mg⟩ 1 w_gives_of) := ⟨_, _, ok_gives_of c_GIVE C_moves_all F11, g11, k11, b11⟩
  have K_gives_of : CalK l.prog w K mg base "gives_of" 3 ["code"] ["code"] false (spV ⟨l.prog, w, K, mg⟩ 1 w_gives_of) := ⟨_, _, _, ok_gives_of c_GIVE C_moves_all F11, g11, k11, kb_gives_of⟩
  have C__law_tape : Cal l.prog w K mg base "_law_tape" 1 ["_law_script", "_law_k"] (spV ⟨l.prog, w, K, mg⟩ 2 w_l_tape) := ⟨_, _, ok__law_tape B F12, g12, k12, b12⟩
  have C__law_draw : Cal l.prog w K mg base "_law_draw" 1 ["_law_tape_here", "_law_many"] (spV ⟨l.prog, w, K, mg⟩ 2 w_l_draw) := ⟨_, _, ok__law_draw  F13, g13, k13, b13⟩
  have C__law_folded : Cal l.prog w K mg base "_law_folded" 1 ["_law_script", "_law_many"] (spV ⟨l.prog, w, K, mg⟩ 2 w_l_folded) := ⟨_, _, ok__law_folded B F14, g14, k14, b14⟩
  have C__law_names : Cal l.prog w K mg base "_law_names" 2 ["_law_tape_here", "_law_many"] (spV ⟨l.prog, w, K, mg⟩ 2 w_l_names) := ⟨_, _, ok__law_names B C__law_draw F15, g15, k15, b15⟩
  have C__law_part : Cal l.prog w K mg base "_law_part" 2 ["_law_tape_here", "_law_some", "_law_many"] (spV ⟨l.prog, w, K, mg⟩ 3 w_l_part) := ⟨_, _, ok__law_part B C__law_draw F16, g16, k16, b16⟩
  have C__law_same : Cal l.prog w K mg base "_law_same" 7 ["_law_found", "_law_due"] (spV ⟨l.prog, w, K, mg⟩ 2 (w_l_same 6)) := ⟨_, _, ok__law_same B F17 g17 k17 b17 6, g17, k17, b17⟩
  have C__law_cases : Cal l.prog w K mg base "_law_cases" 1 ["_law_name", "_law_number"] (spV ⟨l.prog, w, K, mg⟩ 2 w_l_cases) := ⟨_, _, ok__law_cases B F18, g18, k18, b18⟩
  have C__law_moves_right : Cal l.prog w K mg base "_law_moves_right" 8 ["_law_name", "_law_other", "_law_number"] (spV ⟨l.prog, w, K, mg⟩ 3 w_l_moves_right) := ⟨_, _, ok__law_moves_right B C_gives_of C_takes_of C_is_code C__law_same F19, g19, k19, b19⟩
  exact law_end (ok_law B C__law_folded C__law_tape C__law_names C__law_draw C__law_cases C__law_part C_is_code C__law_same C__law_moves_right K_gives_of C_takes_of F20) law_pure
end Tw
open PySem PySem.W PyProof.Rows
set_option maxRecDepth 100000 in
set_option maxHeartbeats 0 in
theorem PySem.Challenge.cw_trayworks_k02_codes_at_their_bounds_holds : PySem.Challenge.rw_trayworks_k02_codes_at_their_bounds.Holds := by
  w_on; o_law; k_head; (case hw => w_witness2)
  k_fill
  refine L2.walk_of (l := PySem.Challenge.rw_trayworks_k02_codes_at_their_bounds) (n := 63) (k := 9) (x := "_law_script") (CX := fun _ => L2.CX0) (sp := fun w => Tw.spLaw _) rfl (by decide) rfl ⟨rfl, by decide, by decide⟩ (fun w h Y => PySem.W.kIn_of Y) ?F (fun _ _ a ns hl _ hS => ⟨a, ns, rfl, hS, hl, fun _ => rfl⟩) (fun _ _ _ _ _ h => h)
  case F =>
    intro w mg fa h KX G hmg
    refine' Tw.all_mk KX G hmg ?a0 ?l0 ?c0 ?k0 ?a1 ?l1 ?c1 ?k1 ?a2 ?l2 ?c2 ?k2 ?a3 ?l3 ?c3 ?k3 ?a4 ?l4 ?c4 ?k4 ?a5 ?l5 ?c5 ?k5 ?a6 ?l6 ?c6 ?k6 ?a7 ?l7 ?c7 ?k7 ?a8 ?l8 ?c8 ?k8 ?a9 ?l9 ?c9 ?k9 ?a10 ?l10 ?c10 ?k10 ?a11 ?l11 ?c11 ?k11 ?a12 ?l12 ?c12 ?k12 ?a13 ?l13 ?c13 ?k13 ?a14 ?l14 ?c14 ?k14 ?a15 ?l15 ?c15 ?k15 ?a16 ?l16 ?c16 ?k16 ?a17 ?l17 ?c17 ?k17 ?a18 ?l18 ?c18 ?k18 ?a19 ?l19 ?c19 ?k19 ?a20 ?l20 ?c20 ?k20 ?q0 ?q1 ?q2 ?q3 ?q4 ?q5 ?q6 ?z_len ?z_abs ?z_int ?z_list ?z_tuple ?z_str ?z_bool ?z_range ?z_enumerate ?z_zip ?z_all ?z_any ?z_sum ?z_min ?z_max ?z_sorted ?z_set ?z_dict ?z_repr ?z_reversed ?z_isinstance ?tq_LOOKS ?td_LOOKS ?te_LOOKS_0 ?tl_LOOKS_0 ?te_LOOKS_1 ?tl_LOOKS_1 ?te_LOOKS_2 ?tl_LOOKS_2 ?te_LOOKS_3 ?tl_LOOKS_3 ?te_LOOKS_4 ?tl_LOOKS_4 ?te_LOOKS_5 ?tl_LOOKS_5 ?te_LOOKS_6 ?tl_LOOKS_6 ?te_LOOKS_7 ?tl_LOOKS_7 ?te_LOOKS_8 ?tl_LOOKS_8 ?te_LOOKS_9 ?tl_LOOKS_9 ?te_LOOKS_10 ?tl_LOOKS_10 ?te_LOOKS_11 ?tl_LOOKS_11 ?te_LOOKS_12 ?tl_LOOKS_12 ?tq_LACKS_BELOW ?td_LACKS_BELOW ?te_LACKS_BELOW_0 ?te_LACKS_BELOW_1 ?te_LACKS_BELOW_2 ?te_LACKS_BELOW_3 ?te_LACKS_BELOW_4 ?te_LACKS_BELOW_5 ?te_LACKS_BELOW_6 ?te_LACKS_BELOW_7 ?te_LACKS_BELOW_8 ?te_LACKS_BELOW_9 ?te_LACKS_BELOW_10 ?te_LACKS_BELOW_11 ?te_LACKS_BELOW_12 ?tq_LEAVES_MORE ?td_LEAVES_MORE ?te_LEAVES_MORE_0 ?te_LEAVES_MORE_1 ?te_LEAVES_MORE_2 ?te_LEAVES_MORE_3 ?te_LEAVES_MORE_4 ?te_LEAVES_MORE_5 ?te_LEAVES_MORE_6 ?te_LEAVES_MORE_7 ?te_LEAVES_MORE_8 ?te_LEAVES_MORE_9 ?te_LEAVES_MORE_10 ?te_LEAVES_MORE_11 ?te_LEAVES_MORE_12
    (case a0 => k_is); (case l0 => k_is); (case c0 => k_is); (case k0 => k_is); (case a1 => k_is); (case l1 => k_is)
    (case c1 => k_is); (case k1 => k_is); (case a2 => k_is); (case l2 => k_is); (case c2 => k_is); (case k2 => k_is)
    (case a3 => k_is); (case l3 => k_is); (case c3 => k_is); (case k3 => k_is); (case a4 => k_is); (case l4 => k_is)
    (case c4 => k_is); (case k4 => k_is); (case a5 => k_is); (case l5 => k_is); (case c5 => k_is); (case k5 => k_is)
    (case a6 => k_is); (case l6 => k_is); (case c6 => k_is); (case k6 => k_is); (case a7 => k_is); (case l7 => k_is)
    (case c7 => k_is); (case k7 => k_is); (case a8 => k_is); (case l8 => k_is); (case c8 => k_is); (case k8 => k_is)
    (case a9 => k_is); (case l9 => k_is); (case c9 => k_is); (case k9 => k_is); (case a10 => k_is); (case l10 => k_is)
    (case c10 => k_is); (case k10 => k_is); (case a11 => k_is); (case l11 => k_is); (case c11 => k_is); (case k11 => k_is)
    (case a12 => k_is); (case l12 => k_is); (case c12 => k_is); (case k12 => k_is); (case a13 => k_is); (case l13 => k_is)
    (case c13 => k_is); (case k13 => k_is); (case a14 => k_is); (case l14 => k_is); (case c14 => k_is); (case k14 => k_is)
    (case a15 => k_is); (case l15 => k_is); (case c15 => k_is); (case k15 => k_is); (case a16 => k_is); (case l16 => k_is)
    (case c16 => k_is); (case k16 => k_is); (case a17 => k_is); (case l17 => k_is); (case c17 => k_is); (case k17 => k_is)
    (case a18 => k_is); (case l18 => k_is); (case c18 => k_is); (case k18 => k_is); (case a19 => k_is); (case l19 => k_is)
    (case c19 => k_is); (case k19 => k_is); (case a20 => k_is); (case l20 => k_is); (case c20 => k_is); (case k20 => k_is)
    (case q0 => k_is); (case q1 => k_is); (case q2 => k_is); (case q3 => k_is); (case q4 => k_is); (case q5 => k_is)
    (case q6 => k_is); (case z_len => k_is); (case z_abs => k_is); (case z_int => k_is); (case z_list => k_is); (case z_tuple => k_is)
    (case z_str => k_is); (case z_bool => k_is); (case z_range => k_is); (case z_enumerate => k_is); (case z_zip => k_is); (case z_all => k_is)
    (case z_any => k_is); (case z_sum => k_is); (case z_min => k_is); (case z_max => k_is); (case z_sorted => k_is); (case z_set => k_is)
    (case z_dict => k_is); (case z_repr => k_is); (case z_reversed => k_is); (case z_isinstance => k_is); (case tq_LOOKS => k_is); (case td_LOOKS => exact rfl)
    (case te_LOOKS_0 => k_is); (case tl_LOOKS_0 => k_is); (case te_LOOKS_1 => k_is); (case tl_LOOKS_1 => k_is); (case te_LOOKS_2 => k_is); (case tl_LOOKS_2 => k_is)
    (case te_LOOKS_3 => k_is); (case tl_LOOKS_3 => k_is); (case te_LOOKS_4 => k_is); (case tl_LOOKS_4 => k_is); (case te_LOOKS_5 => k_is); (case tl_LOOKS_5 => k_is)
    (case te_LOOKS_6 => k_is); (case tl_LOOKS_6 => k_is); (case te_LOOKS_7 => k_is); (case tl_LOOKS_7 => k_is); (case te_LOOKS_8 => k_is); (case tl_LOOKS_8 => k_is)
    (case te_LOOKS_9 => k_is); (case tl_LOOKS_9 => k_is); (case te_LOOKS_10 => k_is); (case tl_LOOKS_10 => k_is); (case te_LOOKS_11 => k_is); (case tl_LOOKS_11 => k_is)
    (case te_LOOKS_12 => k_is); (case tl_LOOKS_12 => k_is); (case tq_LACKS_BELOW => k_is); (case td_LACKS_BELOW => exact rfl); (case te_LACKS_BELOW_0 => k_is); (case te_LACKS_BELOW_1 => k_is)
    (case te_LACKS_BELOW_2 => k_is); (case te_LACKS_BELOW_3 => k_is); (case te_LACKS_BELOW_4 => k_is); (case te_LACKS_BELOW_5 => k_is); (case te_LACKS_BELOW_6 => k_is); (case te_LACKS_BELOW_7 => k_is)
    (case te_LACKS_BELOW_8 => k_is); (case te_LACKS_BELOW_9 => k_is); (case te_LACKS_BELOW_10 => k_is); (case te_LACKS_BELOW_11 => k_is); (case te_LACKS_BELOW_12 => k_is); (case tq_LEAVES_MORE => k_is)
    (case td_LEAVES_MORE => exact rfl); (case te_LEAVES_MORE_0 => k_is); (case te_LEAVES_MORE_1 => k_is); (case te_LEAVES_MORE_2 => k_is); (case te_LEAVES_MORE_3 => k_is); (case te_LEAVES_MORE_4 => k_is)
    (case te_LEAVES_MORE_5 => k_is); (case te_LEAVES_MORE_6 => k_is); (case te_LEAVES_MORE_7 => k_is); (case te_LEAVES_MORE_8 => k_is); (case te_LEAVES_MORE_9 => k_is); (case te_LEAVES_MORE_10 => k_is)
    (case te_LEAVES_MORE_11 => k_is); (case te_LEAVES_MORE_12 => k_is)

