import PyProof.Rows.All
import Wide.All
import OpenK.AllK
import Wide.FinOn
import HandS.ForMost
import HandS.Wide
import PyProof.CollectIter
import HandS.IsInst
import HandS.Zip
import HandS.DictComp
import HandS.SetKeys
import HandS.DeepEq
import HandS.TupMul
import HandS.TupAny
import HandS.NoneIn
import HandS.Style
import HandS.Text
import PyProof.StrBlock2
import HandS.Evl
import HandS.Walk
import HandS.More
import PyProof.ReprRoads
import PyProof.Rows.RegFStrParts
import HandS.Ends
import PyProof.Rows.ReprShort
import HandS.Set
import HandS.SetFor
import HandS.Strs
import HandS.CallLocal
import HandS.Defaults
import PySem.Challenge.RW_trayworks_k03_what_codes_take_and_give
set_option Elab.async false
set_option linter.all false
set_option maxRecDepth 100000
set_option maxHeartbeats 4000000
/-! own words: a callee as one fact, the tape of draws -/
namespace Tw
open PySem PySem.Spec PyProof.Rows L2
/-- a def of the top, by its name: it stands there, and keeps its promise at level k -/
structure Cal (P : Program) (w : World) (K : PySem.W.Frag) (mg : Str → Option Value) (base : Heap) (x : Str) (k : Nat) (ps : List Str) (sp : Sp) : Prop where
  ex : ∃ (f : Addr) (fd : FuncData), FnOk P w K mg base CX0 k f fd ps sp ∧ mg x = some (.ref f) ∧ PySem.W.keepIn K (.ref f) = true ∧ Binds K fd ps []
section
variable {X : Cx} {x : Str} {j k : Nat} {ps : List Str} {sp : Sp} {e : Expr} {es : List Expr} {t : TA} {p pos : Pos}
theorem pe_c (C : Cal X.prog X.w X.K X.mg X.base x k ps sp) (hr : Room j X.A) (hk : k ≤ j := by decide) (hg : Gl X x := by rfl) (ha : PA X (e :: es) t)
    (hdb : (x == ("__debug__" : Str)) = false := by decide) (he : starEach (e :: es) X.env = (false, eval e X.env) :: starEach es X.env := by rfl) (hpl : (backTo pos (starEach es X.env)).any (·.1) = false := by rfl) :
    PE X (.Call (.Name x p) (e :: es) [] pos) (tCall sp [] E0 t) := by
  obtain ⟨f, fd, F, hm, hkp, hb⟩ := C.ex
  exact pe_call F (hr.mono hk) hg hm hkp hb .nil pass0 ha hdb he hpl
end
section
variable {X : Cx}
/-- a % b told by a letter and its bounds -/
def rModA : R2 := fun x y H Q => ∃ i j : Int, x = .int i ∧ y = .int j ∧ 0 < j ∧ ∀ o : Int, 0 ≤ o → o < j → o = i % j → Q (.int o) H
theorem op_modA : OpR X (binaryOp .Mod) rModA := fun pins s σ H x y u v Q I rx ry h => by
  obtain ⟨i, j, e1, e2, hj, q⟩ := h
  exact op_mod pins s σ H x y u v Q I rx ry ⟨i, j, e1, e2, hj, q _ (Int.emod_nonneg _ (by omega)) (Int.emod_lt_of_pos _ hj) rfl⟩
end
/-- the tape of draws at t, good for n draws more -/
def Tape (H : Hp) (t : Addr) (n : Nat) : Prop := ∃ a b c : Int, H t = some (.lst [.int a, .int b, .int c]) ∧ 0 ≤ b ∧ b < 4611686018427387904 ∧ 0 ≤ c ∧ c + (n : Int) ≤ 1000000000000
/-- all that was tracked stands, but for t -/
def Kp (t : Addr) (H H' : Hp) : Prop := ∀ b o, b ≠ t → H b = some o → H' b = some o
theorem Kp.refl (t : Addr) (H : Hp) : Kp t H H := fun _ _ _ h => h
theorem Kp.trans {t : Addr} {H H1 H2 : Hp} (a : Kp t H H1) (b : Kp t H1 H2) : Kp t H H2 := fun c o n h => b c o n (a c o n h)
theorem Kp.set {t : Addr} {H : Hp} {o : HO} : Kp t H (upd H t o) := fun b u n h => by
  rw [upd_ne n]
  exact h
theorem Kp.new {t p : Addr} {H : Hp} {o : HO} (h : H p = none) : Kp t H (upd H p o) := fun b u _ e => by
  rw [upd_ne (ne_of_none e h)]
  exact e
theorem Tape.mono {H : Hp} {t : Addr} {n m : Nat} (h : Tape H t n) (l : m ≤ n) : Tape H t m := by
  obtain ⟨a, b, c, e, h1, h2, h3, h4⟩ := h
  exact ⟨a, b, c, e, h1, h2, h3, by omega⟩
/-- a draw: below m, the tape alone changes -/
def spDraw : Sp := fun vs H Q _ => ∃ (t : Addr) (m : Int) (n : Nat), vs = [.ref t, .int m] ∧ 0 < m ∧ m < 1073741824 ∧ Tape H t (n + 1) ∧
  ∀ (i : Int) H', 0 ≤ i → i < m → Kp t H H' → Tape H' t n → Q (.int i) H'
end Tw

/-! word, *rest = a tuple -/
namespace Tw
open PySem PySem.Spec PyProof.Rows L2
theorem walksShift {prog : Program} {w : World} {A : Around} {I : Addr} {fp wr : List Addr} {G : Array GenState → Array GenState → Prop} {n : Nat} {P : Nat → Value → Prop} {St : Nat → Shared → Prop}
    (W : WalksS prog w A I fp wr G (n + 1) P St) : WalksS prog w A I fp wr G n (fun i v => P (i + 1) v) (fun i s => St (i + 1) s) where
  sub := W.sub
  grefl := W.grefl
  gtrans := W.gtrans
  frame := fun i s h' tk st ht hk => W.frame (i + 1) s h' tk st ht hk
  item := fun i s Q E hi st hQ => W.item (i + 1) s Q E (by omega) st hQ
  done := fun s Q E st hQ => W.done s Q E st hQ
  self := fun i s Q E st hQ => W.self (i + 1) s Q E st hQ
section
variable {prog : Program} {w : World} {A : Around} {E : Value → Shared → Prop} {s : Shared}
theorem unpackItems_star {t : Addr} {x : Value} {xs : List Value} {Q : List Value → Shared → Prop} (hh : A.handled = none) (ht : IsTup s.heap t (x :: xs).toArray) (hz : xs.length ≤ sizeLine)
    (hQ : ∀ (h1 : Heap) (tk : Nat), (∀ b o, s.heap.get? b = some o → h1.get? b = some o) → Q [x, .ref h1.objs.size] { s with heap := h1.push { cls := .type "list", data := .seq xs.toArray }, toks := tk }) :
    wpAny (model prog w) A (unpackItems (.ref t) 2 (some 1)) Q E s := by
  have hlt : t ≠ s.heap.objs.size := by obtain ⟨o, ho, _⟩ := ht; exact Nat.ne_of_lt (Heap.lt_size ho)
  unfold unpackItems
  refine wpAny_bind ?_
  unfold notIterableAtAll
  refine wpAny_bind (wpAny_specialOf ht.typeIs slot_tuple_iter.lookup ?_)
  refine wpAny_pure ?_
  simp only [Bool.false_eq_true, if_false]
  refine wpAny_bind (wpAny_holding (iter_tuple ht ?_))
  refine wpAny_bind (wpAny_holding (draw_tuple hlt 1 0 _ _ ⟨_, Heap.get?_push_size _ rfl, rfl, rfl⟩ (ht.push _) (by simp) fun h₁ hit₁ hs₁ => ?_))
  have e1 : List.take 1 (List.drop 0 (x :: xs).toArray.toList) = [x] := by simp
  rw [e1, if_neg (by simp)]
  have ht₁ : IsTup h₁ t (x :: xs).toArray := (ht.push _).extBut hs₁.extBut hlt
  have hA : A.in1.handled = none := hh
  have W := walksShift (n := xs.length) (Walks.toS (Walks.tuple (prog := prog) (w := w) hA s.heap.objs.size t hlt (x :: xs).toArray))
  have hI : s.heap.objs.size < h₁.objs.size := by obtain ⟨o, ho, _⟩ := hit₁; exact Heap.lt_size ho
  have ht2 : t < h₁.objs.size := ht₁.lt
  refine wpAny_bind (wpAny_holding (wpAny_collect_iter (T := "tuple_iterator") (.inr (.inr (.inr rfl))) W (fun i s st => ?_) ?_ ?_ (by simp) (fun s' acc hm hacc => ?_) hz))
  · obtain ⟨⟨o, ho, hc, _⟩, _⟩ := st
    exact ⟨o, ho, hc⟩
  · exact ⟨hit₁, ht₁⟩
  · intro b hb
    simp at hb
    rcases hb with rfl | rfl
    · exact hI
    · exact ht2
  · have ea : acc.toList = xs := by
      refine List.ext_getElem? fun j => ?_
      cases hj : acc.toList[j]? with
      | none =>
        have h1 : acc.toList.length ≤ j := List.getElem?_eq_none_iff.mp hj
        have h2 := hacc.1
        rw [← Array.length_toList] at h2
        exact (List.getElem?_eq_none_iff.mpr (by omega)).symm
      | some v =>
        have h1 := hacc.2 j v (by rw [← Array.getElem?_toList]; exact hj)
        have h2 : (x :: xs)[j + 1]? = some v := by simpa using h1
        rw [← h2]
        rfl
    rw [ea]

    rw [if_neg (by omega)]
    have e2 : 2 - 1 - 1 = 0 := rfl
    have e3 : xs.take (xs.length - (2 - 1 - 1)) = xs := by rw [e2, Nat.sub_zero]; exact List.take_length
    have e4 : xs.drop (xs.length - (2 - 1 - 1)) = [] := by rw [e2, Nat.sub_zero]; exact List.drop_length
    rw [e3, e4]
    have hg : s'.gens = s.gens := hm.gens
    refine wpAny_bind (wpAny_newList (wpAny_pure ?_) (by first | size_fits | exact hz))
    have hk : ∀ b o, s.heap.get? b = some o → s'.heap.get? b = some o := fun b o e => by
      have hb : b ≠ s.heap.objs.size := Nat.ne_of_lt (Heap.lt_size e)
      exact hm.heap b o (by simpa using hb) (hs₁.extBut b o hb (Heap.get?_push_of_some _ e))
    have q := hQ s'.heap s'.toks hk
    have es : ({ s with heap := s'.heap.push { cls := .type "list", data := .seq xs.toArray }, toks := s'.toks } : Shared) = { s' with heap := s'.heap.push { cls := .type "list", data := .seq xs.toArray } } := by
      have h1 := hm.drawn
      have h2 := hm.os
      cases s' with
      | mk hp g d tk os =>
        cases s with
        | mk hp0 g0 d0 tk0 os0 =>
          dsimp only at h1 h2 hg ⊢
          subst h1 h2 hg
          rfl
    rw [es] at q
    exact q
end
section
variable {X : Cx} {pos : Pos}
/-- a, *r = a tuple of one at least: r a new list of the others -/
def gStar (K : PySem.W.Frag) (i j : Nat) : TG := fun v σ H Q => ∃ a x xs, v = .ref a ∧ SqT K H a (x :: xs) ∧ ∀ p, H p = none → Q ((σ.set i (some x)).set j (some (.ref p))) (upd H p (.lst xs))
theorem pg_star {i j : Nat} {x y : Str} {px py ps : Pos} {k : Nat} (hc : X.calm = true) (hN : X.N.Nodup) (hi : X.N[i]? = some x) (hj : X.N[j]? = some y) (hx : Loc X.env.scope x) (hy : Loc X.env.scope y)
    (hfx : X.fn x = true ∨ X.env.scope.names.lookup x = some .local := by first | exact .inl rfl | exact .inr rfl | assumption) (hfy : X.fn y = true ∨ X.env.scope.names.lookup y = some .local := by first | exact .inl rfl | exact .inr rfl | assumption) :
    PG X (.Tuple [.Name x px, .Starred (.Name y py) ps] k pos) (gStar X.K i j) := by
  refine ⟨fun pins s σ H v u Q I r hw => ?_⟩
  obtain ⟨a, x0, xs, e1, hq, hw⟩ := hw
  subst e1
  cases r
  obtain ⟨its, rv, ht, hz⟩ := I.tuple hq
  cases rv with
  | cons rx rr =>
    rename_i ux us
    have hzu : us.length ≤ sizeLine := by
      have := rr.length
      rw [List.length_cons] at hz
      omega
    rw [PyProof.Rows.assign_Tuple]
    refine wpAny_bind (wpAny_standAt ?_)
    unfold unpack
    show wpAny _ _ (holding [Value.ref a] (unpackItems (.ref a) 2 (some 1)) >>= fun vs => assignInOrder [assign (.Name x px) X.env, assign (.Name y py) X.env] vs) _ _ s
    refine wpAny_bind (wpAny_holding (unpackItems_star (I.ok.hd hc) ht hzu fun h1 tk hk => ?_))
    have I1 : Inv X pins σ H { s with heap := h1, toks := tk } := I.kept hk
    have I2 : Inv X pins σ (upd H h1.objs.size (.lst xs)) { s with heap := h1.push { cls := .type "list", data := .seq us.toArray }, toks := tk } :=
      I1.laid (t' := tk) (fun b o e => Heap.get?_push_of_some _ e) (Nat.le_refl _) ⟨by rw [rr.length]; exact hzu, us, _, rr, Heap.get?_push_size _ rfl⟩
    have hn : H h1.objs.size = none := I1.hok.fresh (Nat.le_refl _)
    refine assignInOrder_cons (thn ((pg_name (pos := px) hN hi hx hfx).run pins _ σ _ x0 ux _ I2 rx (show gName i x0 σ _ (fun σ' H' => σ' = σ.set i (some x0) ∧ H' = upd H h1.objs.size (.lst xs)) from ⟨rfl, rfl⟩)) fun _ s3 ⟨σ3, H3, I3, q3⟩ => ?_)
    obtain ⟨rfl, rfl⟩ := q3
    refine assignInOrder_cons (thn ((pg_name (pos := py) hN hj hy hfy).run pins _ _ _ (.ref h1.objs.size) _ _ I3 rfl (show gName j (.ref h1.objs.size) _ _ (fun σ' H' => Q σ' H') from hw _ hn)) fun _ s4 q4 => ?_)
    exact assignInOrder_nil q4
end
end Tw

namespace Tw
open PySem PySem.Spec PyProof.Rows L2
/-- the built-in names that the top leaves alone -/
structure Bl (mg : Str → Option Value) : Prop where
  len : mg "len" = none
  abs : mg "abs" = none
  int : mg "int" = none
  list : mg "list" = none
  tuple : mg "tuple" = none
  str : mg "str" = none
  bool : mg "bool" = none
  range : mg "range" = none
  enumerate : mg "enumerate" = none
  zip : mg "zip" = none
  all : mg "all" = none
  isinstance : mg "isinstance" = none
/-! ### data -/
def tyN : PyData → String
  | .none => "NoneType" | .bool _ => "bool" | .int _ => "int" | .str _ => "str" | .list _ => "list" | .tuple _ => "tuple" | .dict _ => "dict"
/-- data of at most so many storeys, without dicts, no part longer than 100000 -/
def okD : Nat → PyData → Prop
  | _, .none => True | _, .bool _ => True | _, .int _ => True | _, .str _ => True
  | 0, .list _ => False | 0, .tuple _ => False | _, .dict _ => False
  | n + 1, .list ds => ds.length ≤ 100000 ∧ ∀ d ∈ ds, okD n d
  | n + 1, .tuple ds => ds.length ≤ 100000 ∧ ∀ d ∈ ds, okD n d
theorem same_sqt {K : PySem.W.Frag} {H H' : Hp} {a : Addr} {xs : List V} (e : Same H H') (h : SqT K H a xs) : SqT K H' a xs := by
  rcases h with (h | ⟨o, h⟩) | h
  · exact .inl (.inl (e _ _ h))
  · exact .inl (.inr ⟨o, e _ _ h⟩)
  · exact .inr h
theorem same_new {H : Hp} {p : Addr} {o : HO} (h : H p = none) : Same H (upd H p o) := fun b x e => by
  rw [upd_ne (ne_of_none e h)]
  exact e
/-- an object that H does not know may change -/
theorem same_mut {H H' : Hp} {p : Addr} {o : HO} (e : Same H H') (h : H p = none) : Same H (upd H' p o) := fun a u ha => by
  rw [upd_ne (ne_of_none ha h)]
  exact e a u ha
mutual
theorem dp_mono {K : PySem.W.Frag} {H H' : Hp} (e : Same H H') : ∀ {v : V} {d : PyData}, Dp K H v d → Dp K H' v d
  | _, _, .non => .non
  | _, _, .bl b => .bl b
  | _, _, .int i => .int i
  | _, _, .str x => .str x
  | _, _, .lst h a => .lst (e.seq h) (dpa_mono e a)
  | _, _, .tup h a => .tup (same_sqt e h) (dpa_mono e a)
theorem dpa_mono {K : PySem.W.Frag} {H H' : Hp} (e : Same H H') : ∀ {vs : List V} {ds : List PyData}, DpAll K H vs ds → DpAll K H' vs ds
  | _, _, .nil => .nil
  | _, _, .cons h a => .cons (dp_mono e h) (dpa_mono e a)
end
theorem dpa_len {K : PySem.W.Frag} {H : Hp} : ∀ {vs : List V} {ds : List PyData}, DpAll K H vs ds → vs.length = ds.length
  | _, _, .nil => rfl
  | _, _, .cons _ a => congrArg Nat.succ (dpa_len a)
theorem dpa_get {K : PySem.W.Frag} {H : Hp} : ∀ {vs : List V} {ds : List PyData} {i : Nat} {v : V}, DpAll K H vs ds → vs[i]? = some v → ∃ d, ds[i]? = some d ∧ Dp K H v d
  | _, _, _, _, .nil, e => by simp at e
  | _, _, 0, _, .cons h _, e => by
    simp at e
    subst e
    exact ⟨_, rfl, h⟩
  | _, _, i + 1, v, .cons _ a, e => by
    obtain ⟨d, h1, h2⟩ := dpa_get (i := i) (v := v) a (by simpa using e)
    exact ⟨d, by simpa using h1, h2⟩
theorem sqL_ty {K : PySem.W.Frag} {H : Hp} {a : Addr} {xs : List V} (h : SqL K H a xs) : TyX K H (.ref a) (.type "list") := by
  rcases h with (h | ⟨o, h⟩) | ⟨o, its, n, h, hc, _⟩
  · exact .base (.lst h)
  · exact .base (.frz h)
  · exact .kList h hc
theorem sqT_ty {K : PySem.W.Frag} {H : Hp} {a : Addr} {xs : List V} (h : SqT K H a xs) : TyX K H (.ref a) (.type "tuple") := by
  rcases h with (h | ⟨o, h⟩) | ⟨o, its, n, h, hc, _⟩
  · exact .base (.tup h)
  · exact .fTuple h
  · exact .kTuple h hc
theorem any2 {K : PySem.W.Frag} {t a b : String} {x y : Bool} (h1 : kitB t a = some x) (h2 : kitB t b = some y) : PySem.W.kitAny K (.type t) [.type a, .type b] = some (x || y) := by
  refine kitAny_cons (kit_ty h1) (fun e => ?_) (fun e => by rw [e]; rfl)
  subst e
  refine kitAny_cons (kit_ty h2) (fun e => ?_) (fun e => by rw [e]; rfl)
  subst e
  exact kitAny_nil
/-! ### a comprehension over zip -/
theorem lc_zipL {K : PySem.W.Frag} {a b : Addr} {xs ys : List V} {g : TG} {tt : TT} {te : TE} {vs : List Nat} {σ : L2.St} {H1 : Hp} {D : Addr} {Qd : Hp → Prop} (hl : xs.length = ys.length) (Pv : Nat → Hp → Prop) (h0 : Pv 0 (upd H1 D (.lst []))) (hq : ∀ i H, Pv i H → SqL K H a xs ∧ SqL K H b ys)
    (hs : ∀ (i : Nat) (x y : V) (T : Addr) (H : Hp), xs[i]? = some x → ys[i]? = some y → Pv i H → H T = none → g (.ref T) (wipe σ vs) (upd H T (.tup [x, y])) fun σ2 H2 => wipe σ2 vs = wipe σ vs ∧ tt σ2 H2 fun b H3 =>
      if b = true then te σ2 H3 fun y H4 => ∃ acc, H4 D = some (.lst acc) ∧ acc.length < sizeLine ∧ Pv (i + 1) (upd H4 D (.lst (acc ++ [y]))) else Pv (i + 1) H3) (hd : ∀ H, Pv xs.length H → Qd H) :
    ∃ W : Nat → Nat → Hp → Prop, (∃ m, W 0 m (upd H1 D (.lst []))) ∧ ∀ i m H, W i m H →
      ((Itz K a b).stop i H ∧ Qd H) ∨ ((Itz K a b).go i H ∧ ∃ Nx : Hp → Prop, (∀ H', Nx H' → ∃ m', m' < m ∧ W (i + 1) m' H') ∧ ∀ x H', (Itz K a b).yld i H x H' → g x (wipe σ vs) H' fun σ2 H2 => wipe σ2 vs = wipe σ vs ∧ tt σ2 H2 fun b H3 =>
        if b = true then te σ2 H3 fun y H4 => ∃ acc, H4 D = some (.lst acc) ∧ acc.length < sizeLine ∧ Nx (upd H4 D (.lst (acc ++ [y]))) else Nx H3) := by
  refine ⟨fun i m H => m = xs.length - i ∧ i ≤ xs.length ∧ Pv i H, ⟨xs.length, rfl, Nat.zero_le _, h0⟩, ?_⟩
  rintro i m H ⟨rfl, hi, p⟩
  obtain ⟨qx, qy⟩ := hq i H p
  by_cases hlt : i < xs.length
  · have hx : xs[i]? = some xs[i] := List.getElem?_eq_getElem hlt
    have hlt2 : i < ys.length := by omega
    have hy : ys[i]? = some ys[i] := List.getElem?_eq_getElem hlt2
    refine .inr ⟨⟨xs, ys, _, _, qx, qy, hx, hy⟩, Pv (i + 1), fun H' p' => ⟨xs.length - (i + 1), by omega, rfl, hlt, p'⟩, fun v H' y => ?_⟩
    obtain ⟨T, x', y', rfl, hT, rfl, f1, f2⟩ := y
    exact hs i x' y' T H (f1 xs qx) (f2 ys qy) p hT
  · have e : i = xs.length := by omega
    subst e
    exact .inl ⟨⟨xs, ys, qx, qy, Or.inl (Nat.le_refl _)⟩, hd H p⟩
theorem lc_zipT {K : PySem.W.Frag} {a b : Addr} {xs ys : List V} {g : TG} {tt : TT} {te : TE} {vs : List Nat} {σ : L2.St} {H1 : Hp} {D : Addr} {Qd : Hp → Prop} (hl : xs.length = ys.length) (Pv : Nat → Hp → Prop) (h0 : Pv 0 (upd H1 D (.lst []))) (hq : ∀ i H, Pv i H → SqT K H a xs ∧ SqT K H b ys)
    (hs : ∀ (i : Nat) (x y : V) (T : Addr) (H : Hp), xs[i]? = some x → ys[i]? = some y → Pv i H → H T = none → g (.ref T) (wipe σ vs) (upd H T (.tup [x, y])) fun σ2 H2 => wipe σ2 vs = wipe σ vs ∧ tt σ2 H2 fun b H3 =>
      if b = true then te σ2 H3 fun y H4 => ∃ acc, H4 D = some (.lst acc) ∧ acc.length < sizeLine ∧ Pv (i + 1) (upd H4 D (.lst (acc ++ [y]))) else Pv (i + 1) H3) (hd : ∀ H, Pv xs.length H → Qd H) :
    ∃ W : Nat → Nat → Hp → Prop, (∃ m, W 0 m (upd H1 D (.lst []))) ∧ ∀ i m H, W i m H →
      ((RZ.ItzT K a b).stop i H ∧ Qd H) ∨ ((RZ.ItzT K a b).go i H ∧ ∃ Nx : Hp → Prop, (∀ H', Nx H' → ∃ m', m' < m ∧ W (i + 1) m' H') ∧ ∀ x H', (RZ.ItzT K a b).yld i H x H' → g x (wipe σ vs) H' fun σ2 H2 => wipe σ2 vs = wipe σ vs ∧ tt σ2 H2 fun b H3 =>
        if b = true then te σ2 H3 fun y H4 => ∃ acc, H4 D = some (.lst acc) ∧ acc.length < sizeLine ∧ Nx (upd H4 D (.lst (acc ++ [y]))) else Nx H3) := by
  refine ⟨fun i m H => m = xs.length - i ∧ i ≤ xs.length ∧ Pv i H, ⟨xs.length, rfl, Nat.zero_le _, h0⟩, ?_⟩
  rintro i m H ⟨rfl, hi, p⟩
  obtain ⟨qx, qy⟩ := hq i H p
  by_cases hlt : i < xs.length
  · have hx : xs[i]? = some xs[i] := List.getElem?_eq_getElem hlt
    have hlt2 : i < ys.length := by omega
    have hy : ys[i]? = some ys[i] := List.getElem?_eq_getElem hlt2
    refine .inr ⟨⟨xs, ys, _, _, qx, qy, hx, hy⟩, Pv (i + 1), fun H' p' => ⟨xs.length - (i + 1), by omega, rfl, hlt, p'⟩, fun v H' y => ?_⟩
    obtain ⟨T, x', y', rfl, hT, rfl, f1, f2⟩ := y
    exact hs i x' y' T H (f1 xs qx) (f2 ys qy) p hT
  · have e : i = xs.length := by omega
    subst e
    exact .inl ⟨⟨xs, ys, qx, qy, Or.inl (Nat.le_refl _)⟩, hd H p⟩
/-- two things that are the same data, of at most n storeys: True -/
def spSame (K : PySem.W.Frag) (n : Nat) : Sp := fun vs H Q _ => ∃ (x y : V) (d : PyData), vs = [x, y] ∧ Dp K H x d ∧ Dp K H y d ∧ okD n d ∧ ∀ H', Same H H' → Q (.bl true) H'
end Tw

/-! a tuple times a number, from 0 on -/
namespace Tw
open PySem PySem.Spec PyProof.Rows L2
theorem tuple_mul1 (l : Addr) (items : Array Value) (n : Nat) (dd : Option Addr) (sl : Array (Option Value)) (x : Int) (u : Tok) (c0 : (decide (x < -(2 ^ 63)) || decide (x ≥ 2 ^ 63)) = false) (c1 : (items.isEmpty || x == 1) = true) :
    Meets (Builtin.«tuple.__mul__» ⟨[.ref l, .int x u], []⟩) (fun _ R s => s.heap.get? l = some { cls := .type "tuple", dict := dd, data := .seq items n, slots := sl } ∧ R (.ok (.ret (Value.ref l))) s) :=
  .of_wp fun prog w A R s h => by
    obtain ⟨hp, g, d, tk, os⟩ := s
    obtain ⟨hl, h⟩ := h
    have f1 := AutoSeq1.idx_int
    wp_walk using wpAny_loadPart' hl
    repeat (first
      | (refine wpAny_ite_false (decide_eq_false (by rw [c0]; exact Bool.false_ne_true)) ?_; wp_walk using wpAny_loadPart' hl)
      | (refine wpAny_ite_true (decide_eq_true c1) ?_; wp_walk using wpAny_loadPart' hl))
    exact ⟨_, rfl, h⟩
/-- t * 1: t itself -/
def rRep1 (K : PySem.W.Frag) : R2 := fun x y H Q => ∃ l xs, x = .ref l ∧ y = .int 1 ∧ SqT K H l xs ∧ Q (.ref l) H
theorem op_rep1 {X : Cx} : OpR X (binaryOp .Mult) (rRep1 X.K) := by
  intro pins s σ H x y v u Q I rx ry h
  obtain ⟨l, xs, rfl, rfl, hT, q⟩ := h
  cases rx
  obtain ⟨t, rfl⟩ := ry
  obtain ⟨its, r, ⟨⟨cls, dd, data, sl⟩, ho, hc, n, hd⟩, hs⟩ := I.tuple hT
  simp only at hc hd
  subst hc hd
  refine wpAny_binaryOp_repeat_ref (T := "tuple") (U := "int") (by decide) ⟨_, ho, rfl⟩ (fun s' => typeIs_int s' 1 t) noFill_tuple_mul F.fills_int_mul F.slot_int_rmul repeat_tuple F.slot_int_index.lookup
    (call_meets F.slot_int_rmul (typeIs_int s 1 t) F.entry_int_rmul (F.args_int_rmul_2 _ _) (int_rmul_tuple 1 t l its.toArray n dd sl)
      ⟨ho, rfl, ⟨_, ho, rfl⟩, call_meets F.slot_tuple_mul ⟨_, ho, rfl⟩ F.entry_tuple_mul (F.args_tuple_mul_2 _ _) (tuple_mul1 l its.toArray n dd sl 1 t (by decide) (by rw [Bool.or_comm]; rfl)) ⟨ho, ?_⟩⟩)
  exact ⟨.ref l, H, I, rfl, q⟩
section
variable {X : Cx}
/-- t + u, t * k, t[a:b], tuple(x): some tuple of that, all else as it was -/
def rCatU (K : PySem.W.Frag) : R2 := fun x y H Q => ∃ a b xs ys, x = .ref a ∧ y = .ref b ∧ SqT K H a xs ∧ SqT K H b ys ∧ xs.length + ys.length ≤ 100000 ∧ ∀ p H', Same H H' → SqT K H' p (xs ++ ys) → Q (.ref p) H'
theorem op_catU : OpR X (binaryOp .Add) (rCatU X.K) := fun pins s σ H x y v u Q I rx ry h => by
  obtain ⟨a, b, xs, ys, e1, e2, ha, hb, hz, q⟩ := h
  refine op_catA pins s σ H x y v u Q I rx ry ⟨a, b, xs, ys, e1, e2, ha, hb, Nat.le_trans hz (by decide), fun e => ?_, fun _ e => ?_, fun _ _ p np => ?_⟩
  · subst e
    exact q b H (Same.refl H) hb
  · subst e
    exact q a H (Same.refl H) (by rw [List.append_nil]; exact ha)
  · exact q p _ (same_new np) (SqT.of upd_same)
def rRepU (K : PySem.W.Frag) : R2 := fun x y H Q => ∃ (l : Addr) (k : Nat) (xs : List V), x = .ref l ∧ y = .int (k : Int) ∧ SqT K H l xs ∧ xs ≠ [] ∧ 1 ≤ k ∧ k ≤ 1000 ∧ xs.length ≤ 1000 ∧ ∀ p H', Same H H' → SqT K H' p (List.replicate k xs).flatten → Q (.ref p) H'
theorem op_repU : OpR X (binaryOp .Mult) (rRepU X.K) := fun pins s σ H x y v u Q I rx ry h => by
  obtain ⟨l, k, xs, e1, e2, hl, hne, hk1, hk2, hz, q⟩ := h
  by_cases h1 : k = 1
  · subst h1
    refine op_rep1 pins s σ H x y v u Q I rx ry ⟨l, xs, e1, e2, hl, q l H (Same.refl H) ?_⟩
    show SqT X.K H l (xs ++ [])
    rw [List.append_nil]
    exact hl
  · refine op_repT pins s σ H x y v u Q I rx ry ⟨l, (k : Int), xs, e1, e2, hl, hne, by omega, by omega, hz, fun p np => q p _ (same_new np) (SqT.of ?_)⟩
    rw [upd_same]
    rfl
def rSlU (K : PySem.W.Frag) : V → Option Int → Option Int → Hp → VK → Prop := fun x lo hi H Q => ∃ a xs, x = .ref a ∧ SqT K H a xs ∧ ∀ p H', Same H H' → SqT K H' p (cutV xs lo hi) → Q (.ref p) H'
theorem cut_whole {xs : List V} {lo hi : Option Int} (h : HT.sIx xs.length 0 lo = 0 ∧ HT.sIx xs.length xs.length hi = xs.length) : cutV xs lo hi = xs := by
  unfold cutV
  rw [h.1, h.2, List.drop_zero, Nat.sub_zero, List.take_length]
theorem sl_tupU : SlR X (rSlU X.K) := fun pins s σ H x v vl vu lo hi sl Q I rx hs pl pu h => by
  obtain ⟨a, xs, e1, ha, q⟩ := h
  refine sl_tupA pins s σ H x v vl vu lo hi sl Q I rx hs pl pu ⟨a, xs, e1, ha, fun hw => ?_, fun _ p np => q p _ (same_new np) (SqT.of upd_same)⟩
  exact q a H (Same.refl H) (by rw [cut_whole hw]; exact ha)
def rTupU (K : PySem.W.Frag) : List V → Hp → VK → Prop := fun xs H Q => ∃ p ys, xs = [.ref p] ∧ (SqL K H p ys ∨ SqT K H p ys) ∧ ∀ l H', Same H H' → SqT K H' l ys → Q (.ref l) H'
theorem call_tupU : CallR X (.type "tuple") (rTupU X.K) := fun pins s σ H xs us Q I r h => by
  obtain ⟨p, ys, e1, h1, q⟩ := h
  refine call_tuple_of pins s σ H xs us Q I r ⟨p, ys, e1, ?_⟩
  rcases h1 with h1 | h1
  · exact .inl ⟨h1, fun l nl => q l _ (same_new nl) (SqT.of upd_same)⟩
  · exact .inr ⟨h1, q p H (Same.refl H) h1⟩
end
/-- what an expression comes to is told by R, then gone on with -/
def tCutE (te : TE) : TE := fun σ H Q => ∃ R : VK, te σ H R ∧ ∀ v H', R v H' → Q v H'
theorem pe_cut {X : Cx} {e : Expr} {te : TE} (he : PE X e te) : PE X e (tCutE te) := by
  refine ⟨fun pins s σ H Q I h => ?_⟩
  obtain ⟨R, h1, h2⟩ := h
  exact thn (he.run pins s σ H R I h1) fun v s1 ⟨x, H1, I1, r1, q1⟩ => ⟨x, H1, I1, r1, h2 x H1 q1⟩
/-- displays, without naming the heap -/
def tTupU (ta : TA) : TE := fun σ H Q => ta σ H fun vs H1 => vs.length ≤ 100000 ∧ ∀ p H', H1 p = none → Same H1 H' → H' p = some (.tup vs) → Q (.ref p) H'
def tLstU (ta : TA) : TE := fun σ H Q => ta σ H fun vs H1 => vs.length ≤ 100000 ∧ ∀ p H', H1 p = none → Same H1 H' → H' p = some (.lst vs) → Q (.ref p) H'
section
variable {X : Cx} {es : List Expr} {ta : TA} {pos : Pos} {k : Nat}
theorem pe_tupU (ha : PA X es ta) : PE X (.Tuple es k pos) (tTupU ta) := by
  refine ⟨fun pins s σ H Q I hq => wpAny_Tuple_spliced ?_⟩
  refine thn (ha.run pos pins s σ H _ I hq) fun us s1 ⟨vs, H1, I1, r, z, q⟩ => ?_
  have z' : vs.length ≤ sizeLine := Nat.le_trans z (by decide)
  have fr := I1.hok.fresh (Nat.le_refl s1.heap.objs.size)
  have new : Inv X pins σ (upd H1 s1.heap.objs.size (.tup vs)) _ := I1.laid (h' := s1.heap.push { cls := .type "tuple", data := .seq us.toArray }) (t' := s1.toks)
    (fun b u e => Heap.get?_push_of_some _ e) (Nat.le_refl _) ⟨z', us, r, ⟨_, Heap.get?_push_size _ rfl, rfl, _, rfl⟩⟩
  exact ⟨by rw [← r.length]; exact z', .ref s1.heap.objs.size, _, new, rfl, q _ _ fr (same_new fr) upd_same⟩
theorem pe_lstU (ha : PA X es ta) : PE X (.List es pos) (tLstU ta) := by
  refine ⟨fun pins s σ H Q I hq => wpAny_List_spliced ?_⟩
  refine thn (ha.run pos pins s σ H _ I hq) fun us s1 ⟨vs, H1, I1, r, z, q⟩ => ?_
  have z' : vs.length ≤ sizeLine := Nat.le_trans z (by decide)
  have fr := I1.hok.fresh (Nat.le_refl s1.heap.objs.size)
  have new : Inv X pins σ (upd H1 s1.heap.objs.size (.lst vs)) _ := I1.laid (h' := s1.heap.push { cls := .type "list", data := .seq us.toArray }) (t' := s1.toks)
    (fun b u e => Heap.get?_push_of_some _ e) (Nat.le_refl _) ⟨z', us, _, r, Heap.get?_push_size _ rfl⟩
  exact ⟨by rw [← r.length]; exact z', .ref s1.heap.objs.size, _, new, rfl, q _ _ fr (same_new fr) upd_same⟩
end
/-! lists: +, list(x), slices -/
section
variable {X : Cx}
def rCatL (K : PySem.W.Frag) : R2 := fun x y H Q => ∃ l b xs zs, x = .ref l ∧ y = .ref b ∧ H l = some (.lst xs) ∧ H b = some (.lst zs) ∧ xs.length + zs.length ≤ 100000 ∧ ∀ p H', H p = none → Same H H' → H' p = some (.lst (xs ++ zs)) → Q (.ref p) H'
theorem op_catL : OpR X (binaryOp .Add) (rCatL X.K) := fun pins s σ H x y v u Q I rx ry h => by
  obtain ⟨l, b, xs, zs, e1, e2, hl, hb, hz, q⟩ := h
  exact op_cat pins s σ H x y v u Q I rx ry ⟨l, b, xs, zs, e1, e2, hl, hb, Nat.le_trans hz (by decide), fun p np => q p _ np (same_new np) upd_same⟩
def rLstU (K : PySem.W.Frag) : List V → Hp → VK → Prop := fun xs H Q => ∃ p ys, xs = [.ref p] ∧ (SqL K H p ys ∨ SqT K H p ys) ∧ ∀ l H', H l = none → Same H H' → H' l = some (.lst ys) → Q (.ref l) H'
theorem call_lstU : CallR X (.type "list") (rLstU X.K) := fun pins s σ H xs us Q I r h => by
  obtain ⟨p, ys, e1, h1, q⟩ := h
  exact call_list_of pins s σ H xs us Q I r ⟨p, ys, e1, h1, fun l nl => q l _ nl (same_new nl) upd_same⟩
def rSlLU (K : PySem.W.Frag) : V → Option Int → Option Int → Hp → VK → Prop := fun x lo hi H Q => ∃ a xs, x = .ref a ∧ SqL K H a xs ∧ ∀ p H', H p = none → Same H H' → H' p = some (.lst (cutV xs lo hi)) → Q (.ref p) H'
theorem sl_lstU : SlR X (rSlLU X.K) := fun pins s σ H x v vl vu lo hi sl Q I rx hs pl pu h => by
  obtain ⟨a, xs, e1, ha, q⟩ := h
  exact sl_list pins s σ H x v vl vu lo hi sl Q I rx hs pl pu ⟨a, xs, e1, ha, fun p np => q p _ np (same_new np) upd_same⟩
end
def rRepA (K : PySem.W.Frag) : R2 := fun x y H Q => rRepT K x y H Q ∨ rRep1 K x y H Q
theorem op_repA {X : Cx} : OpR X (binaryOp .Mult) (rRepA X.K) := OpR.or op_repT op_rep1
end Tw

/-! drawn names: the plain law; a text times a number -/
namespace Tw
open PySem PySem.Spec PyProof.Rows L2
def sgn (c : Nat) : Str := ⟨#[c]⟩
def mkS (cs : List Nat) : Str := ⟨cs.toArray⟩
theorem mkS_len (cs : List Nat) : (mkS cs).length = cs.length := by
  show cs.toArray.size = cs.length
  simp
theorem mkS_app (a b : List Nat) : mkS a ++ mkS b = mkS (a ++ b) := by
  show Str.mk (a.toArray ++ b.toArray) = Str.mk (a ++ b).toArray
  simp
theorem mkS_inj {a b : List Nat} (h : mkS a = mkS b) : a = b := by
  have := congrArg (fun z => z.cps.toList) h
  simpa [mkS] using this
theorem joinL_nil : ∀ ps : List (List Nat), TL.joinL [] ps = ps.flatten
  | [] => rfl
  | [p] => by simp [TL.joinL]
  | p :: q :: r => by
    show p ++ ([] ++ TL.joinL [] (q :: r)) = _
    rw [joinL_nil (q :: r)]
    simp
theorem join_sgn (cs : List Nat) : Txt.join "" (cs.map sgn) = mkS cs := by
  rw [TL.join_eq]
  refine TL.ext_tl ?_
  rw [TL.tl_join]
  show TL.joinL [] _ = cs
  rw [joinL_nil, List.map_map]
  induction cs with
  | nil => rfl
  | cons c r ih =>
    rw [List.map_cons, List.flatten_cons, ih]
    rfl
theorem cut_take {cs : List Nat} {k : Nat} (h : k ≤ cs.length) : cutS (mkS cs) none (some (k : Int)) = mkS (cs.take k) := by
  unfold cutS
  rw [mkS_len, HT.sIx_none, HT.sIx_nat, Nat.min_eq_left h, List.drop_zero, Nat.sub_zero]
  rfl
theorem cut_drop {cs : List Nat} {k : Nat} (h : k ≤ cs.length) : cutS (mkS cs) (some (k : Int)) none = mkS (cs.drop k) := by
  unfold cutS
  rw [mkS_len, HT.sIx_none, HT.sIx_nat, Nat.min_eq_left h]
  show mkS ((cs.drop k).take (cs.length - k)) = _
  rw [List.take_of_length_le (by rw [List.length_drop]; exact Nat.le_refl _)]
/-- a text, none or one time -/
def rMulS : R2 := fun x y H Q => ∃ (z : Str) (n : Nat), x = .str z ∧ y = .int (n : Int) ∧ n ≤ 1 ∧ Q (.str (if n = 0 then ("" : Str) else z)) H
theorem op_mulS {X : Cx} : OpR X (binaryOp .Mult) rMulS := by
  intro pins s σ H x y v u Q I rx ry h
  obtain ⟨z, n, rfl, rfl, hn, q⟩ := h
  obtain ⟨t, rfl⟩ := rx
  obtain ⟨t2, rfl⟩ := ry
  have hok : MulOk z (n : Int) := by
    refine ⟨?_, fun h1 h2 => ?_, fun h1 h2 => ?_⟩
    · rw [decide_eq_false (by omega), decide_eq_false (by omega)]
      rfl
    · have : n = 1 := by omega
      subst this
      rw [show (((1 : Nat) : Int) == 1) = true from rfl, Bool.true_or] at h2
      cases h2
    · have : n = 1 := by omega
      subst this
      rw [show (((1 : Nat) : Int) == 1) = true from rfl, Bool.true_or] at h2
      cases h2
  refine SB.mul hok fun t' k => ⟨.str (if n = 0 then ("" : Str) else z), H, I.tok k, ⟨t', ?_⟩, q⟩
  have e : Txt.mul z (n : Int) = (if n = 0 then ("" : Str) else z) := by
    unfold Txt.mul
    by_cases h0 : n = 0
    · subst h0
      rfl
    · have : n = 1 := by omega
      subst this
      rfl
  rw [e]
/-! ### the names -/
def nmOf (hd tl : List Nat) (sh st way k : Nat) : List Nat :=
  hd ++ [97 + (sh + st * (if way = 1 then k / 2 else k)) % 26] ++ (if way = 0 then tl else if way = 1 then (if k % 2 = 0 then [] else tl) else tl.take (k % (tl.length + 1)))
def IsNm (z : Str) : Prop := 1 ≤ z.length ∧ z.length ≤ 8 ∧ ∀ c ∈ z.cps.toList, 97 ≤ c ∧ c ≤ 122
theorem nm_is {hd tl : List Nat} {sh st way k : Nat} (hl : hd.length + tl.length ≤ 7) (h1 : ∀ c ∈ hd, 97 ≤ c ∧ c ≤ 122) (h2 : ∀ c ∈ tl, 97 ≤ c ∧ c ≤ 122) : IsNm (mkS (nmOf hd tl sh st way k)) := by
  have ht : ∀ c ∈ (if way = 0 then tl else if way = 1 then (if k % 2 = 0 then [] else tl) else tl.take (k % (tl.length + 1))), 97 ≤ c ∧ c ≤ 122 := fun c hc => by
    split at hc
    · exact h2 c hc
    · split at hc
      · split at hc
        · cases hc
        · exact h2 c hc
      · exact h2 c (List.mem_of_mem_take hc)
  have hlen : (if way = 0 then tl else if way = 1 then (if k % 2 = 0 then [] else tl) else tl.take (k % (tl.length + 1))).length ≤ tl.length := by
    split
    · exact Nat.le_refl _
    · split
      · split
        · exact Nat.zero_le _
        · exact Nat.le_refl _
      · rw [List.length_take]
        exact Nat.min_le_right _ _
  refine ⟨?_, ?_, fun c hc => ?_⟩
  · rw [mkS_len]
    unfold nmOf
    simp only [List.length_append, List.length_singleton]
    omega
  · rw [mkS_len]
    unfold nmOf
    simp only [List.length_append, List.length_singleton]
    omega
  · have hc : c ∈ nmOf hd tl sh st way k := hc
    unfold nmOf at hc
    rcases List.mem_append.mp hc with hc | hc
    · rcases List.mem_append.mp hc with hc | hc
      · exact h1 c hc
      · rw [List.mem_singleton.mp hc]
        omega
    · exact ht c hc
theorem nm_ne {hd tl : List Nat} {sh st way j k : Nat} (hst : st = 1 ∨ st = 7 ∨ st = 25) (hw : way ≠ 0 → tl ≠ []) (hj : j < 26) (hk : k < 26) (e : nmOf hd tl sh st way j = nmOf hd tl sh st way k) : j = k := by
  unfold nmOf at e
  rw [List.append_assoc, List.append_assoc] at e
  have e1 := List.append_cancel_left e
  rw [List.singleton_append, List.singleton_append] at e1
  injection e1 with e2 e3
  by_cases w1 : way = 1
  · rw [if_pos w1, if_pos w1] at e2
    have e4 : j / 2 = k / 2 := by rcases hst with rfl | rfl | rfl <;> omega
    have w0 : ¬ way = 0 := by omega
    rw [if_neg w0, if_pos w1, if_neg w0, if_pos w1] at e3
    have ht : tl ≠ [] := hw (by omega)
    by_cases hj0 : j % 2 = 0
    · rw [if_pos hj0] at e3
      by_cases hk0 : k % 2 = 0
      · omega
      · rw [if_neg hk0] at e3
        exact absurd e3.symm ht
    · rw [if_neg hj0] at e3
      by_cases hk0 : k % 2 = 0
      · rw [if_pos hk0] at e3
        exact absurd e3 ht
      · omega
  · rw [if_neg w1, if_neg w1] at e2
    rcases hst with rfl | rfl | rfl <;> omega
theorem letter_at {i : Int} (h0 : 0 ≤ i) (h1 : i < 26) : atI ("abcdefghijklmnopqrstuvwxyz" : Str).cps.toList i = some (97 + i.toNat) := by
  obtain ⟨j, rfl⟩ := Int.eq_ofNat_of_zero_le h0
  have hj : j < 26 := by omega
  refine atI_nat ?_
  have key : ∀ j : Fin 26, ("abcdefghijklmnopqrstuvwxyz" : Str).cps.toList[j.val]? = some (97 + j.val) := by decide +kernel
  exact key ⟨j, hj⟩
theorem letters_len : ("abcdefghijklmnopqrstuvwxyz" : Str).length ≤ sizeLine := by decide +kernel
end Tw

namespace Tw
open PySem PySem.Spec PyProof.Rows L2
def topS (i : Nat) : Stmt := PySem.Challenge.pw_trayworks_k03_what_codes_take_and_give.main.body.getD i (.Pass ⟨0, 0, 0, 0⟩)
abbrev sDraw : Stmt := topS 9
theorem scDraw : FnScope ["_law_tape_here", "_law_many_here", "_law_found", "_law_once", "_law_twice", "_law_wide"] ["_law_tape_here", "_law_many_here"] (defScope sDraw) := ⟨rfl, rfl, rfl, by decide +kernel, rfl, by decide +kernel, by decide +kernel⟩
section
variable {P : Program} {w : World} {K : PySem.W.Frag} {mg : Str → Option Value} {base : Heap}
theorem ok_draw {f : Addr} {fd : FuncData} {k : Nat} (F : Fun K "_law_draw" "_law_draw" sDraw f fd) : FnOk P w K mg base CX0 (k + 1) f fd ["_law_tape_here", "_law_many_here"] spDraw := by
  refine F.ok scDraw (fun vs H Q E h => ?_) (fun cdv A outer s H vs Q E hr h => ?_)
  · obtain ⟨t, m, n, rfl, _⟩ := h
    rfl
  · obtain ⟨t, m, n, rfl, hm0, hm1, ⟨a, b, c, hT, hb0, hb1, hc0, hc1⟩, q⟩ := h
    refine ⟨_, (pss_cons (ps_if (pt_cmpR op_gt (pe_ix ix_list (pv 0) pe_int (fun _ _ => rfl)) pe_int (nomark _))
    (pss_cons (ps_set (i := 2) scDraw.nd rfl (Or.inl rfl) (pe_op op_mod (pe_ix ix_list (pv 0) pe_int (fun _ _ => rfl)) (pv 1)))
    (pss_cons (ps_asg (pe_op op_fdiv (pe_ix ix_list (pv 0) pe_int (fun _ _ => rfl)) (pv 1)) (pg_sub (pv 0) pe_int set_list))
    (pss_one (ps_ret (pv 2)))))
    pss_nil)
  (pss_cons (ps_asg (pe_op op_add (pe_ix ix_list (pv 0) pe_int (fun _ _ => rfl)) pe_int) (pg_sub (pv 0) pe_int set_list))
  (pss_cons (ps_set (i := 3) scDraw.nd rfl (Or.inl rfl) (pe_op op_modA (pe_op op_pow (pe_op op_add (pe_ix ix_list (pv 0) pe_int (fun _ _ => rfl)) (pe_op op_mul pe_int (pe_ix ix_list (pv 0) pe_int (fun _ _ => rfl)))) pe_int) pe_int))
  (pss_cons (ps_set (i := 4) scDraw.nd rfl (Or.inl rfl) (pe_op op_modA (pe_op op_mul (pe_op op_add (pv 3) (pe_ix ix_list (pv 0) pe_int (fun _ _ => rfl))) (pe_op op_add (pe_op op_add (pe_op op_mod (pv 3) pe_int) pe_int) (pe_ix ix_list (pv 0) pe_int (fun _ _ => rfl)))) pe_int))
  (pss_cons (ps_set (i := 5) scDraw.nd rfl (Or.inl rfl) (pe_op op_modA (pe_op op_add (pe_op op_add (pe_op op_fdivW (pe_ix ix_list (pv 0) pe_int (fun _ _ => rfl)) pe_int) (pe_op op_mul (pv 4) pe_int)) (pe_ix ix_list (pv 0) pe_int (fun _ _ => rfl))) pe_int))
  (pss_one (ps_ret (pe_op op_mod (pe_op op_fdiv (pe_op op_mod (pe_op op_add (pe_op op_add (pe_op op_mul (pv 4) pe_int) (pe_op op_mul (pv 5) pe_int)) (pv 3)) pe_int) pe_int) (pv 1))))))))), ?_⟩
    have hS : SqL K H t [.int a, .int b, .int c] := .inl (.inl hT)
    refine ⟨.ref t, rfl, t, [.int a, .int b, .int c], 0, .int a, rfl, rfl, hS, rfl, a, 0, rfl, rfl, _, rfl, ite2 (fun e => ?_) (fun e => ?_)⟩
    · -- its own digits
      refine ⟨.ref t, rfl, t, _, 0, .int a, rfl, rfl, hS, rfl, .int m, rfl, a, m, rfl, rfl, hm0, ?_⟩
      refine ⟨.ref t, rfl, t, _, 0, .int a, rfl, rfl, hS, rfl, .int m, rfl, a, m, rfl, rfl, ⟨hm0, hm1⟩, ?_⟩
      refine ⟨.ref t, rfl, t, _, 0, 0, rfl, rfl, hT, rfl, ?_⟩
      refine ⟨.int (a % m), rfl, ?_⟩
      exact q _ _ (Int.emod_nonneg _ (by omega)) (Int.emod_lt_of_pos _ hm0) Kp.set ⟨a / m, b, c, upd_same, hb0, hb1, hc0, by omega⟩
    · -- mixed
      refine ⟨.ref t, rfl, t, _, 2, .int c, rfl, rfl, hS, rfl, c, 1, rfl, rfl, ?_⟩
      refine ⟨.ref t, rfl, t, _, 2, 2, rfl, rfl, hT, rfl, ?_⟩
      have hT2 : (upd H t (.lst [.int a, .int b, .int (c + 1)])) t = some (.lst [.int a, .int b, .int (c + 1)]) := upd_same
      have hS2 : SqL K (upd H t (.lst [.int a, .int b, .int (c + 1)])) t [.int a, .int b, .int (c + 1)] := .inl (.inl hT2)
      refine ⟨.ref t, rfl, t, _, 1, .int b, rfl, rfl, hS2, rfl, .ref t, rfl, t, _, 2, .int (c + 1), rfl, rfl, hS2, rfl, 39373, c + 1, rfl, rfl, .inl ⟨by decide, by decide⟩, b, 39373 * (c + 1), rfl, rfl, _, 5, rfl, rfl, ⟨by decide, by decide, ?_⟩, _, 2147483647, rfl, rfl, by decide, fun o ho0 ho1 _ => ?_⟩
      · show (b + 39373 * (c + 1)).natAbs < 2 ^ 64
        omega
      · refine ⟨.int o, rfl, .ref t, rfl, t, _, 2, .int (c + 1), rfl, rfl, hS2, rfl, o, c + 1, rfl, rfl, .int o, rfl, o, 40009, rfl, rfl, (show (0 : Int) < _ by decide), _, 7, rfl, rfl, .ref t, rfl, t, _, 2, .int (c + 1), rfl, rfl, hS2, rfl, _, c + 1, rfl, rfl, _, _, rfl, rfl, .inl ⟨by omega, by omega⟩, _, 2147483629, rfl, rfl, by decide, fun w2 hw0 hw1 _ => ?_⟩
        refine ⟨.ref t, rfl, t, _, 1, .int b, rfl, rfl, hS2, rfl, b, 2147483647, rfl, rfl, wide_div (b := 32) (by decide) (by decide) (by decide) (by decide), .int w2, rfl, w2, 40009, rfl, rfl, .inl ⟨by omega, by omega⟩, _, _, rfl, rfl, .ref t, rfl, t, _, 2, .int (c + 1), rfl, rfl, hS2, rfl, _, c + 1, rfl, rfl, _, 2305843009213693951, rfl, rfl, by decide, fun w3 hv0 hv1 _ => ?_⟩
        refine ⟨.int w2, rfl, w2, 48271, rfl, rfl, .inl ⟨by omega, by omega⟩, .int w3, rfl, w3, 39373, rfl, rfl, .inl ⟨by omega, by omega⟩, _, _, rfl, rfl, .int o, rfl, _, o, rfl, rfl, _, 2305843009213693921, rfl, rfl, (show (0 : Int) < _ by decide), _, 64, rfl, rfl, ⟨by decide, by decide⟩, .int m, rfl, _, m, rfl, rfl, hm0, ?_⟩
        exact q _ _ (Int.emod_nonneg _ (by omega)) (Int.emod_lt_of_pos _ hm0) Kp.set ⟨a, b, c + 1, upd_same, hb0, hb1, by omega, by omega⟩
end
end Tw

/-! _law_names -/
namespace Tw
open PySem PySem.Spec PyProof.Rows L2
theorem tape_same {H H' : Hp} {t : Addr} {n : Nat} (k : Same H H') (h : Tape H t n) : Tape H' t n := by
  obtain ⟨a, b, c, e, r⟩ := h
  exact ⟨a, b, c, k _ _ e, r⟩
theorem kp_same {t : Addr} {H H' : Hp} (k : Same H H') : Kp t H H' := fun b o _ h => k b o h
theorem tape_ne {H : Hp} {t p : Addr} {n : Nat} (h : Tape H t n) (hp : H p = none) : p ≠ t := fun e => by
  obtain ⟨_, _, _, e', _⟩ := h
  rw [e, e'] at hp
  cases hp
theorem nodup_rmap {α : Type} {f : Nat → α} {m : Nat} (h : ∀ j k, j < m → k < m → f j = f k → j = k) : ((List.range m).map f).Nodup := by
  unfold List.Nodup
  rw [List.pairwise_map]
  exact List.Pairwise.imp_of_mem (fun {a b} ha hb hne e => hne (h a b (List.mem_range.mp ha) (List.mem_range.mp hb) e)) List.nodup_range
abbrev sNames : Stmt := topS 11
theorem scNames : FnScope ["_law_tape_here", "_law_many_here", "_law_letters", "_law_shift", "_law_stem", "_law_k", "_law_at", "_law_step", "_law_found", "_law_head", "_law_tail", "_law_way", "_law_sign"] ["_law_tape_here", "_law_many_here"] (defScope sNames) := ⟨rfl, rfl, rfl, by decide +kernel, rfl, by decide +kernel, by decide +kernel⟩
def spNames : Sp := fun vs H Q _ => ∃ (t : Addr) (m n : Nat), vs = [.ref t, .int (m : Int)] ∧ m ≤ 26 ∧ Tape H t (n + 11) ∧
  ∀ p H' (nm : List Str), H p = none → Kp t H H' → Tape H' t n → H' p = some (.lst (nm.map V.str)) → nm.length = m → nm.Nodup → (∀ z ∈ nm, IsNm z) → Q (.ref p) H'
section
variable {P : Program} {w : World} {K : PySem.W.Frag} {mg : Str → Option Value} {base : Heap}
theorem ok_names {f : Addr} {fd : FuncData} {k k1 : Nat} (g : Bl mg) (C_law_draw : Cal P w K mg base "_law_draw" k1 ["_law_tape_here", "_law_many_here"] spDraw) (hk : k1 ≤ k) (F : Fun K "_law_names" "_law_names" sNames f fd) : FnOk P w K mg base CX0 (k + 1) f fd ["_law_tape_here", "_law_many_here"] spNames := by
  refine F.ok scNames (fun vs H Q E h => ?_) (fun cdv A outer s H vs Q E hr h => ?_)
  · obtain ⟨t, m, n, rfl, _⟩ := h
    rfl
  · obtain ⟨t, m, n, rfl, hm, hT, q⟩ := h
    refine ⟨_, (pss_cons (ps_asg (pe_tupU (pa_cons pe_str (pa_cons (pe_c C_law_draw hr hk (ha := (pa_cons (pv 0) (pa_cons pe_int pa_nil)))) pa_nil))) (pg_tup rfl (pgs_cons (pg_name (i := 2) scNames.nd rfl (Or.inr rfl)) (pgs_cons (pg_name (i := 3) scNames.nd rfl (Or.inl rfl)) pgs_nil))))
  (pss_cons (ps_set (i := 4) scNames.nd rfl (Or.inl rfl) (pe_join pe_str (pe_lc (own := [("_law_k", 5)]) (g := (gName 5)) (tt := tYes) rfl scNames.nd (pi_range1 (by rfl) g.range (pa_cons (pe_c C_law_draw hr hk (ha := (pa_cons (pv 0) (pa_cons pe_int pa_nil)))) pa_nil)) (blkOk_by (own := [("_law_k", 5)]) (N := ["_law_tape_here", "_law_many_here", "_law_letters", "_law_shift", "_law_stem", "_law_k", "_law_at", "_law_step", "_law_found", "_law_head", "_law_tail", "_law_way", "_law_sign"]) (sc := defScope sNames) (by decide +kernel)) (fun _ _ _ _ _ => (pg_name (i := 5) scNames.nd rfl (Or.inl rfl))) (fun _ _ _ _ _ => pts_nil) (fun _ _ _ _ _ => (pe_ix ix_str (pv 2) (pe_c C_law_draw hr hk (ha := (pa_cons (pv 0) (pa_cons pe_int pa_nil)))) (fun _ _ => rfl))))))
  (pss_cons (ps_par3 (i := 6) (j := 7) (l := 8) rfl scNames.nd rfl rfl rfl (by decide) (by decide) (by decide) rfl rfl rfl (pa_cons (pe_c C_law_draw hr hk (ha := (pa_cons (pv 0) (pa_cons (pe_op op_add (pe_callB call_len_str (by rfl) g.len PySem.boot_len (pa_cons (pv 4) pa_nil)) pe_int) pa_nil)))) (pa_cons (pe_ix ix_list (pe_lstU (pa_cons pe_int (pa_cons pe_int (pa_cons pe_int pa_nil)))) (pe_c C_law_draw hr hk (ha := (pa_cons (pv 0) (pa_cons pe_int pa_nil)))) (fun _ _ => rfl)) (pa_cons (pe_lstU pa_nil) pa_nil))) rfl)
  (pss_cons (ps_par (i := 9) (j := 10) rfl scNames.nd rfl rfl (by decide) rfl rfl (pa_cons (pe_slice sl_str (pv 4) po_none (po_some (pv 6))) (pa_cons (pe_slice sl_str (pv 4) (po_some (pv 6)) po_none) pa_nil)) rfl)
  (pss_cons (ps_for PassesOwn.never rfl (pi_range1 (by rfl) g.range (pa_cons (pv 1) pa_nil)) (pg_name (i := 5) scNames.nd rfl (Or.inl rfl))
    (pss_cons (ps_set (i := 11) scNames.nd rfl (Or.inl rfl) (pe_cut (pe_op op_mul (pe_op op_mod (pe_op op_add (pe_op op_add (pv 3) (pv 6)) (pe_callB call_len_str (by rfl) g.len PySem.boot_len (pa_cons (pv 4) pa_nil))) pe_int) (pe_callTy call_int1 (by rfl) g.int PyProof.Rows.boot_int (pa_cons (pe_cmpR op_ne (pv 10) pe_str (nomark _)) pa_nil)))))
    (pss_cons (ps_set (i := 12) scNames.nd rfl (Or.inl rfl) (pe_ix ix_str (pv 2) (pe_op op_mod (pe_op op_add (pv 3) (pe_op op_mul (pv 7) (pe_ix ix_list (pe_lstU (pa_cons (pv 5) (pa_cons (pe_op op_fdiv (pv 5) pe_int) (pa_cons (pv 5) pa_nil)))) (pv 11) (fun _ _ => rfl)))) pe_int) (fun _ _ => rfl)))
    (pss_one (ps_expr (pe_bm PySem.F.plainAttrs_list PySem.F.slot_list_append PySem.F.type_list_append mt_append (pv 8) (pa_cons (pe_cut (pe_op op_add_str (pe_op op_add_str (pv 9) (pv 12)) (pe_ix ix_list (pe_lstU (pa_cons (pv 10) (pa_cons (pe_op op_mulS (pv 10) (pe_op op_mod (pv 5) pe_int)) (pa_cons (pe_slice sl_str (pv 10) po_none (po_some (pe_op op_mod (pv 5) (pe_op op_add (pe_callB call_len_str (by rfl) g.len PySem.boot_len (pa_cons (pv 10) pa_nil)) pe_int)))) pa_nil)))) (pv 11) (fun _ _ => rfl)))) pa_nil)))))))
  (pss_one (ps_ret (pv 8)))))))), ?_⟩
    have z2 : 2 ≤ 100000 := by decide
    have z3 : 3 ≤ 100000 := by decide
    -- letters, shift
    refine ⟨_, rfl, t, 26, n + 10, rfl, by decide, by decide, hT, fun sh H1 sh0 sh1 kp1 tp1 => ⟨z2, fun p1 H2 np1 s2 c2 => ⟨p1, _, rfl, SqT.of c2, rfl, _, _, rfl, _, _, rfl, rfl, ?_⟩⟩⟩
    obtain ⟨sh, rfl⟩ := Int.eq_ofNat_of_zero_le sh0
    have tp2 := tape_same s2 tp1
    have k02 : Kp t H H2 := kp1.trans (kp_same s2)
    -- stem
    refine ⟨⟨_, rfl⟩, _, rfl, t, 8, n + 9, rfl, by decide, by decide, tp2, fun m1 H3 m10 m11 kp3 tp3 => ⟨m1, rfl, by omega, by omega, fun D nD => ?_⟩⟩
    obtain ⟨m1, rfl⟩ := Int.eq_ofNat_of_zero_le m10
    have k03 : Kp t H H3 := k02.trans kp3
    have hDt : D ≠ t := tape_ne tp3 nD
    refine lc_range (lo := 0) (n := (m1 : Int).toNat) (fun i H4 => Kp t H3 H4 ∧ Tape H4 t (n + 2 + (7 - i)) ∧ ∃ cs : List Nat, cs.length = i ∧ (∀ c ∈ cs, 97 ≤ c ∧ c ≤ 122) ∧ H4 D = some (.lst (cs.map fun c => V.str (sgn c)))) ⟨Kp.new nD, tape_same (same_new nD) (tp3.mono (by omega)), [], rfl, (fun c hc => nomatch hc), upd_same⟩ ?_ ?_
    · rintro i H4 hi ⟨k4, t4, cs, l1, l2, l3⟩
      have hi7 : i < 7 := by omega
      refine ⟨rfl, ?_⟩
      refine ⟨_, rfl, _, rfl, t, 26, n + 2 + (7 - (i + 1)), rfl, by decide, by decide, t4.mono (by omega), fun c H5 c0 c1 kp5 tp5 => ?_⟩
      obtain ⟨c, rfl⟩ := Int.eq_ofNat_of_zero_le c0
      refine ⟨_, (c : Int), 97 + (c : Int).toNat, rfl, rfl, letters_len, letter_at c0 c1, ?_⟩
      have l5 := kp5 _ _ hDt l3
      refine ⟨_, l5, ?_, fun b o hb h => ?_, ?_, cs ++ [97 + (c : Int).toNat], ?_, ?_, ?_⟩
      · rw [List.length_map, l1]
        exact Nat.lt_trans hi7 (by decide)
      · rw [upd_ne (ne_of_none h nD)]
        exact (k4.trans kp5) b o hb h
      · obtain ⟨x, y, z, e, r⟩ := tp5
        exact ⟨x, y, z, by rw [upd_ne hDt.symm]; exact e, r⟩
      · rw [List.length_append, l1]
        rfl
      · intro x hx
        rcases List.mem_append.mp hx with hx | hx
        · exact l2 x hx
        · rw [List.mem_singleton.mp hx]
          omega
      · rw [upd_same, List.map_append]
        rfl
    · rintro H4 ⟨k4, t4, cs, l1, l2, l3⟩
      have hcl : cs.length ≤ 7 := by omega
      have e3 : H4 D = some (.lst ((cs.map sgn).map V.str)) := by
        rw [l3, List.map_map]
        rfl
      refine ⟨("" : Str), D, cs.map sgn, rfl, rfl, .inl (SqL.of e3), ?_, ?_⟩
      · have e0 : ((cs.map sgn).map (·.length)).sum = cs.length := by
          rw [List.map_map]
          clear l1 l2 l3 e3 hcl
          induction cs with
          | nil => rfl
          | cons c r ih =>
            rw [List.map_cons, List.sum_cons, ih, List.length_cons]
            show 1 + r.length = r.length + 1
            omega
        rw [e0, List.length_map]
        show cs.length + cs.length * 0 ≤ 16777216
        omega
      rw [join_sgn]
      have k04 : Kp t H H4 := k03.trans k4
      have t4' : Tape H4 t (n + 2) := t4.mono (by omega)
      have hsl : (mkS cs).length ≤ sizeLine := by
        rw [mkS_len]
        exact Nat.le_trans hcl (by decide)
      -- at, step, found
      refine ⟨_, rfl, _, rfl, mkS cs, rfl, hsl, _, _, rfl, rfl, t, ((mkS cs).length : Int) + 1, n + 1, rfl, by omega, ?_, t4', fun at' H5 a0 a1 kp5 tp5 => ?_⟩
      · rw [mkS_len]
        omega
      obtain ⟨at', rfl⟩ := Int.eq_ofNat_of_zero_le a0
      have hat : at' ≤ cs.length := by
        rw [mkS_len] at a1
        omega
      refine ⟨z3, fun p6 H6 np6 s6 c6 => ?_⟩
      have tp6 := tape_same s6 tp5
      have h6t : p6 ≠ t := tape_ne tp5 np6
      refine ⟨_, rfl, t, 3, n, rfl, by decide, by decide, tp6, fun sx H7 x0 x1 kp7 tp7 => ?_⟩
      obtain ⟨sx, rfl⟩ := Int.eq_ofNat_of_zero_le x0
      obtain ⟨st, hst, hat3⟩ : ∃ st : Nat, (st = 1 ∨ st = 7 ∨ st = 25) ∧ atI [V.int 1, V.int 7, V.int 25] (sx : Int) = some (.int (st : Int)) := by
        have : sx = 0 ∨ sx = 1 ∨ sx = 2 := by omega
        rcases this with rfl | rfl | rfl
        · exact ⟨1, .inl rfl, rfl⟩
        · exact ⟨7, .inr (.inl rfl), rfl⟩
        · exact ⟨25, .inr (.inr rfl), rfl⟩
      refine ⟨p6, _, (sx : Int), .int (st : Int), rfl, rfl, SqL.of (kp7 _ _ h6t c6), hat3, ?_⟩
      refine ⟨Nat.zero_le _, fun fd0 H8 nf s8 c8 => ⟨_, _, _, rfl, ?_⟩⟩
      have tp8 := tape_same s8 tp7
      have k08 : Kp t H H8 := k04.trans (kp5.trans ((kp_same s6).trans (kp7.trans (kp_same s8))))
      have hft : fd0 ≠ t := tape_ne tp7 nf
      have nf0 : H fd0 = none := by
        cases e : H fd0 with
        | none => rfl
        | some o =>
          rw [(k04.trans (kp5.trans ((kp_same s6).trans kp7))) fd0 o hft e] at nf
          cases nf
      -- head, tail
      refine ⟨_, rfl, _, rfl, (at' : Int), rfl, mkS cs, rfl, hsl, _, rfl, _, rfl, (at' : Int), rfl, mkS cs, rfl, hsl, _, _, rfl, ?_⟩
      rw [cut_take hat, cut_drop hat]
      generalize hhd : cs.take at' = hd
      generalize htl : cs.drop at' = tl
      have hlen : hd.length + tl.length = cs.length := by
        rw [← hhd, ← htl, List.length_take, List.length_drop]
        omega
      have h1 : ∀ c ∈ hd, 97 ≤ c ∧ c ≤ 122 := fun c hc => l2 c (by rw [← hhd] at hc; exact List.mem_of_mem_take hc)
      have h2 : ∀ c ∈ tl, 97 ≤ c ∧ c ≤ 122 := fun c hc => l2 c (by rw [← htl] at hc; exact List.mem_of_mem_drop hc)
      have hhs : (mkS hd).length ≤ 7 := by
        rw [mkS_len]
        omega
      have hts : (mkS tl).length ≤ 7 := by
        rw [mkS_len]
        omega
      have sz : sizeLine = 16777216 := rfl
      obtain ⟨way, hway, hway3, hw0⟩ : ∃ way : Nat, ((sh : Int) + (at' : Int) + ((mkS cs).length : Int)) % 3 * (if (!decide (V.str (mkS tl) = V.str "")) = true then 1 else 0) = (way : Int) ∧ way < 3 ∧ (way ≠ 0 → tl ≠ []) := by
        by_cases ht : tl = []
        · refine ⟨0, ?_, by decide, fun z => absurd rfl z⟩
          have : mkS tl = "" := by rw [ht]; rfl
          rw [if_neg (by rw [decide_eq_true (congrArg V.str this)]; decide)]
          simp
        · refine ⟨((sh : Int) + (at' : Int) + ((mkS cs).length : Int)).toNat % 3, ?_, Nat.mod_lt _ (by decide), fun _ => ht⟩
          have : ¬ V.str (mkS tl) = V.str "" := fun z => ht (mkS_inj (b := []) (V.str.inj z))
          rw [if_pos (by rw [decide_eq_false this]; rfl)]
          omega
      refine ⟨_, rfl, (m : Int), rfl, by omega, by omega, for_range (lo := 0) (n := (m : Int).toNat) (fun i σ H9 => ∃ y5 y11 y12, σ = [some (.ref t), some (.int (m : Int)), some (.str "abcdefghijklmnopqrstuvwxyz"), some (.int (sh : Int)), some (.str (mkS cs)), y5, some (.int (at' : Int)), some (.int (st : Int)), some (.ref fd0), some (.str (mkS hd)), some (.str (mkS tl)), y11, y12] ∧
        (∀ b o, b ≠ fd0 → H8 b = some o → H9 b = some o) ∧ H9 fd0 = some (.lst ((List.range i).map fun k => V.str (mkS (nmOf hd tl sh st way k))))) ⟨_, _, _, rfl, fun b o _ h => h, c8⟩ ?_ ?_⟩
      · rintro i σ H9 hi ⟨y5, y11, y12, rfl, k9, f9⟩
        have hi26 : i < 26 := by omega
        rw [Int.zero_add]
        -- way
        refine ⟨fun v H' => v = .int (way : Int) ∧ H' = H9, ?_, ?_⟩
        · refine ⟨_, rfl, _, rfl, _, _, rfl, rfl, _, rfl, mkS cs, rfl, hsl, _, _, rfl, rfl, _, 3, rfl, rfl, (show (0 : Int) < 3 by decide), _, rfl, rfl, .inr ⟨_, rfl, _, _, rfl, rfl, .inl ⟨?_, ?_⟩, ?_, rfl⟩⟩
          · have := Int.emod_nonneg ((sh : Int) + (at' : Int) + ((mkS cs).length : Int)) (show (3 : Int) ≠ 0 by decide)
            omega
          · have := Int.emod_lt_of_pos ((sh : Int) + (at' : Int) + ((mkS cs).length : Int)) (show (0 : Int) < 3 by decide)
            omega
          · exact congrArg V.int hway
        rintro v H' ⟨rfl, rfl⟩
        -- sign
        obtain ⟨ix, hix, hixa⟩ : ∃ ix : Nat, ix = (if way = 1 then i / 2 else i) ∧ atI [V.int (i : Int), V.int ((i : Int) / 2), V.int (i : Int)] (way : Int) = some (.int (ix : Int)) := by
          have : way = 0 ∨ way = 1 ∨ way = 2 := by omega
          rcases this with rfl | rfl | rfl
          · exact ⟨i, rfl, rfl⟩
          · exact ⟨i / 2, rfl, rfl⟩
          · exact ⟨i, rfl, rfl⟩
        refine ⟨_, rfl, _, rfl, _, rfl, _, rfl, _, rfl, _, _, rfl, rfl, ⟨by decide, by decide⟩, _, rfl, z3, fun p9 Ha npa sa ca => ?_⟩
        refine ⟨_, rfl, p9, _, (way : Int), .int (ix : Int), rfl, rfl, SqL.of ca, hixa, _, _, rfl, rfl, .inl ⟨by omega, by omega⟩, _, _, rfl, rfl, _, 26, rfl, rfl, (show (0 : Int) < 26 by decide), ?_⟩
        have hnn : ((sh : Int) + (st : Int) * (ix : Int)) % 26 = (((sh + st * ix) % 26 : Nat) : Int) := by
          rw [← Int.natCast_mul, ← Int.natCast_add]
          rfl
        have hlt26 : (sh + st * ix) % 26 < 26 := Nat.mod_lt _ (by decide)
        refine ⟨_, ((sh : Int) + (st : Int) * (ix : Int)) % 26, 97 + (sh + st * ix) % 26, rfl, rfl, letters_len, ?_, ?_⟩
        · rw [hnn]
          exact letter_at (by omega) (by omega)
        have fa := sa _ _ f9
        -- found.append(..)
        refine ⟨_, rfl, .inl ⟨rfl, _, SqL.of fa⟩, fun v H' => v = .str (mkS (nmOf hd tl sh st way i)) ∧ Same Ha H', ?_, ?_⟩
        · refine ⟨_, rfl, _, rfl, mkS hd, sgn (97 + (sh + st * ix) % 26), rfl, rfl, ?_, ?_⟩
          · show (mkS hd).length + 1 ≤ sizeLine
            omega
          have hkm : i % (tl.length + 1) ≤ tl.length := by
            have := Nat.mod_lt i (show 0 < tl.length + 1 by omega)
            omega
          refine ⟨_, rfl, _, rfl, _, rfl, _, 2, rfl, rfl, (show (0 : Int) < 2 by decide), mkS tl, i % 2, rfl, rfl, by omega, _, rfl, _, rfl, _, rfl, mkS tl, rfl, by omega, _, _, rfl, rfl, _, _, rfl, rfl, (show (0 : Int) < ((mkS tl).length : Int) + 1 by omega), ((i % (tl.length + 1) : Nat) : Int), rfl, mkS tl, rfl, by omega, z3, fun pb Hb npb sb cb => ?_⟩
          rw [cut_take hkm] at cb
          obtain ⟨xs, hxs, hxa⟩ : ∃ xs : List Nat, xs = (if way = 0 then tl else if way = 1 then (if i % 2 = 0 then [] else tl) else tl.take (i % (tl.length + 1))) ∧ atI [V.str (mkS tl), V.str (if i % 2 = 0 then ("" : Str) else mkS tl), V.str (mkS (tl.take (i % (tl.length + 1))))] (way : Int) = some (.str (mkS xs)) := by
            have : way = 0 ∨ way = 1 ∨ way = 2 := by omega
            rcases this with rfl | rfl | rfl
            · exact ⟨tl, rfl, rfl⟩
            · by_cases h0 : i % 2 = 0
              · refine ⟨[], by rw [if_neg (by decide), if_pos rfl, if_pos h0], ?_⟩
                rw [if_pos h0]
                rfl
              · refine ⟨tl, by rw [if_neg (by decide), if_pos rfl, if_neg h0], ?_⟩
                rw [if_neg h0]
                rfl
            · exact ⟨tl.take (i % (tl.length + 1)), rfl, rfl⟩
          have hxl : xs.length ≤ tl.length := by
            rw [hxs]
            split
            · exact Nat.le_refl _
            · split
              · split
                · exact Nat.zero_le _
                · exact Nat.le_refl _
              · rw [List.length_take]
                exact Nat.min_le_right _ _
          refine ⟨_, rfl, pb, _, (way : Int), .str (mkS xs), rfl, rfl, SqL.of cb, hxa, mkS hd ++ sgn (97 + (sh + st * ix) % 26), mkS xs, rfl, rfl, ?_, ?_, sb⟩
          · rw [mkS_len]
            show (mkS hd ++ mkS [97 + (sh + st * ix) % 26]).length + xs.length ≤ sizeLine
            rw [mkS_app, mkS_len, List.length_append, List.length_singleton]
            omega
          · show V.str (mkS hd ++ mkS [97 + (sh + st * ix) % 26] ++ mkS xs) = _
            rw [mkS_app, mkS_app, hix, hxs]
            rfl
        rintro v H' ⟨rfl, sb⟩
        refine ⟨fd0, _, _, rfl, rfl, sb _ _ fa, ?_, ⟨_, _, _, rfl, fun b o hb h => ?_, ?_⟩⟩
        · rw [List.length_map, List.length_range]
          exact Nat.lt_trans hi26 (by decide)
        · rw [upd_ne hb]
          exact sb _ _ (sa _ _ (k9 b o hb h))
        · rw [upd_same, List.range_succ, List.map_append]
          rfl
      · rintro σ H9 ⟨y5, y11, y12, rfl, k9, f9⟩
        have em : (m : Int).toNat = m := by omega
        rw [em] at f9
        refine ⟨_, rfl, q fd0 H9 ((List.range m).map fun k => mkS (nmOf hd tl sh st way k)) nf0 (fun b o hb h => ?_) ?_ ?_ ?_ ?_ ?_⟩
        · by_cases hbf : b = fd0
          · subst hbf
            rw [nf0] at h
            cases h
          · exact k9 b o hbf (k08 b o hb h)
        · obtain ⟨x, y, z, e, r⟩ := tp8
          exact ⟨x, y, z, k9 _ _ hft.symm e, r⟩
        · rw [f9, List.map_map]
          rfl
        · rw [List.length_map, List.length_range]
        · exact nodup_rmap fun j k hj hk e => nm_ne hst hw0 (by omega) (by omega) (mkS_inj e)
        · intro z hz
          obtain ⟨k, _, rfl⟩ := List.mem_map.mp hz
          exact nm_is (by omega) h1 h2
end
end Tw

/-! things drawn: all that is no list stands; comprehensions of drawn things -/
namespace Tw
open PySem PySem.Spec PyProof.Rows L2
/-- all that is no list stands -/
def KpT (H H' : Hp) : Prop := ∀ b o, (∀ l, o ≠ HO.lst l) → H b = some o → H' b = some o
theorem KpT.refl (H : Hp) : KpT H H := fun _ _ _ h => h
theorem KpT.trans {H H1 H2 : Hp} (a : KpT H H1) (b : KpT H1 H2) : KpT H H2 := fun c o n h => b c o n (a c o n h)
theorem kpT_same {H H' : Hp} (h : Same H H') : KpT H H' := fun b o _ e => h b o e
theorem kpT_kp {t : Addr} {H H' : Hp} {n : Nat} (h : Kp t H H') (ht : Tape H t n) : KpT H H' := fun b o no e => h b o (fun z => by
  obtain ⟨_, _, _, e', _⟩ := ht
  rw [z, e'] at e
  cases e
  exact no _ rfl) e
theorem kpT_lst {H : Hp} {p : Addr} {l : List V} {o' : HO} (h : H p = some (.lst l)) : KpT H (upd H p o') := fun b o no e => by
  rw [upd_ne (fun z => by rw [z, h] at e; cases e; exact no _ rfl)]
  exact e
theorem kpT_tup {H H' : Hp} {p : Addr} {xs : List V} (k : KpT H H') (h : H p = some (.tup xs)) : H' p = some (.tup xs) := k _ _ (fun _ e => by cases e) h
theorem kpT_sqt {K : PySem.W.Frag} {H H' : Hp} {a : Addr} {xs : List V} (e : KpT H H') (h : SqT K H a xs) : SqT K H' a xs := by
  rcases h with (h | ⟨o, h⟩) | h
  · exact .inl (.inl (e _ _ (fun _ z => by cases z) h))
  · exact .inl (.inr ⟨o, e _ _ (fun _ z => by cases z) h⟩)
  · exact .inr h
theorem tape_lst {H : Hp} {t p : Addr} {n : Nat} {l : List V} (h : Tape H t n) (hp : p ≠ t) {o : HO} : Tape (upd H p o) t n := by
  obtain ⟨a, b, c, e, r⟩ := h
  exact ⟨a, b, c, by rw [upd_ne hp.symm]; exact e, r⟩
theorem kp_none {t : Addr} {H H' : Hp} {n : Nat} {p : Addr} (k : Kp t H H') (ht : Tape H' t n) (h : H' p = none) : H p = none := by
  cases e : H p with
  | none => rfl
  | some o =>
    rw [k p o (tape_ne ht h) e] at h
    cases h
theorem kp_mut {t : Addr} {H H' : Hp} {p : Addr} {o : HO} (k : Kp t H H') (h : H p = none) : Kp t H (upd H' p o) := fun b u hb e => by
  rw [upd_ne (ne_of_none e h)]
  exact k b u hb e
section
variable {t : Addr} {g : TG} {te : TE} {vs : List Nat} {σ : L2.St} {H1 : Hp} {D : Addr} {Qd : Hp → Prop}
/-- what holds of the list under way -/
def LcI (t : Addr) (E : Hp → V → Prop) (H1 : Hp) (D : Addr) (base : Nat) (i : Nat) (b : Nat) (H : Hp) : Prop := Kp t H1 H ∧ Tape H t (base + b) ∧ ∃ acc : List V, acc.length = i ∧ H D = some (.lst acc) ∧ ∀ v ∈ acc, E H v
theorem lcI_next {E : Hp → V → Prop} (mono : ∀ H H' v, KpT H H' → E H v → E H' v) {base i b b' : Nat} {H H4 : Hp} {y : V} (hD : H1 D = none) (hDt : D ≠ t) (hi : i < sizeLine) (h : LcI t E H1 D base i b H) (k : Kp t H H4) (tp : Tape H4 t (base + b')) (e : E H4 y) :
    ∃ acc, H4 D = some (.lst acc) ∧ acc.length < sizeLine ∧ LcI t E H1 D base (i + 1) b' (upd H4 D (.lst (acc ++ [y]))) := by
  obtain ⟨h1, h2, acc, h3, h4, h5⟩ := h
  have hd4 := k _ _ hDt h4
  refine ⟨acc, hd4, by omega, kp_mut (h1.trans k) hD, tape_lst (l := []) tp hDt, acc ++ [y], by rw [List.length_append, h3]; rfl, upd_same, fun v hv => ?_⟩
  have kk : KpT H4 (upd H4 D (.lst (acc ++ [y]))) := kpT_lst hd4
  rcases List.mem_append.mp hv with hv | hv
  · exact mono _ _ _ ((kpT_kp k h2).trans kk) (h5 v hv)
  · rw [List.mem_singleton.mp hv]
    exact mono _ _ _ kk e
/-- a comprehension over a range, each turn of at most c draws -/
theorem lcU_range {lo : Int} {n : Nat} (E : Hp → V → Prop) (mono : ∀ H H' v, KpT H H' → E H v → E H' v) (c base : Nat) (hz : n ≤ 100000) (hD : H1 D = none) (hT : Tape H1 t (base + c * n))
    (hs : ∀ (i : Nat) H (R : V → Hp → Prop), i < n → Kp t H1 H → Tape H t (base + c * (n - (i + 1)) + c) → (∀ y H4, Kp t H H4 → Tape H4 t (base + c * (n - (i + 1))) → E H4 y → R y H4) → g (.int (lo + i)) (wipe σ vs) H fun σ2 H2 => wipe σ2 vs = wipe σ vs ∧ te σ2 H2 R)
    (hd : ∀ H acc, Kp t H1 H → Tape H t base → H D = some (.lst acc) → acc.length = n → (∀ v ∈ acc, E H v) → Qd H) :
    ∃ W : Nat → Nat → Hp → Prop, (∃ m, W 0 m (upd H1 D (.lst []))) ∧ ∀ i m H, W i m H →
      ((Itr lo n).stop i H ∧ Qd H) ∨ ((Itr lo n).go i H ∧ ∃ Nx : Hp → Prop, (∀ H', Nx H' → ∃ m', m' < m ∧ W (i + 1) m' H') ∧ ∀ x H', (Itr lo n).yld i H x H' → g x (wipe σ vs) H' fun σ2 H2 => wipe σ2 vs = wipe σ vs ∧ tYes σ2 H2 fun b H3 =>
        if b = true then te σ2 H3 fun y H4 => ∃ acc, H4 D = some (.lst acc) ∧ acc.length < sizeLine ∧ Nx (upd H4 D (.lst (acc ++ [y]))) else Nx H3) := by
  have hDt : D ≠ t := tape_ne hT hD
  refine lc_range (lo := lo) (n := n) (tt := tYes) (fun i H => LcI t E H1 D base i (c * (n - i)) H) ⟨Kp.new hD, tape_same (same_new hD) hT, [], rfl, upd_same, fun v hv => nomatch hv⟩ ?_ ?_
  · intro i H hi h
    have e : c * (n - i) = c * (n - (i + 1)) + c := by
      have : n - i = (n - (i + 1)) + 1 := by omega
      rw [this, Nat.mul_add, Nat.mul_one]
    have h2 := h.2.1
    rw [e, ← Nat.add_assoc] at h2
    exact hs i H _ hi h.1 h2 fun y H4 k4 t4 e4 => lcI_next mono hD hDt (Nat.lt_of_lt_of_le (Nat.lt_of_lt_of_le hi hz) (by decide)) h k4 t4 e4
  · rintro H ⟨h1, h2, acc, h3, h4, h5⟩
    exact hd H acc h1 (h2.mono (by omega)) h4 h3 h5
/-- over a tuple -/
theorem lcU_tup {K : PySem.W.Frag} {a : Addr} {xs : List V} (E : Hp → V → Prop) (mono : ∀ H H' v, KpT H H' → E H v → E H' v) (c base : Nat) (hz : xs.length ≤ 100000) (hD : H1 D = none) (hT : Tape H1 t (base + c * xs.length)) (ha : SqT K H1 a xs)
    (hs : ∀ (i : Nat) x H (R : V → Hp → Prop), xs[i]? = some x → Kp t H1 H → Tape H t (base + c * (xs.length - (i + 1)) + c) → (∀ y H4, Kp t H H4 → Tape H4 t (base + c * (xs.length - (i + 1))) → E H4 y → R y H4) → g x (wipe σ vs) H fun σ2 H2 => wipe σ2 vs = wipe σ vs ∧ te σ2 H2 R)
    (hd : ∀ H acc, Kp t H1 H → Tape H t base → H D = some (.lst acc) → acc.length = xs.length → (∀ v ∈ acc, E H v) → Qd H) :
    ∃ W : Nat → Nat → Hp → Prop, (∃ m, W 0 m (upd H1 D (.lst []))) ∧ ∀ i m H, W i m H →
      ((Itt K a).stop i H ∧ Qd H) ∨ ((Itt K a).go i H ∧ ∃ Nx : Hp → Prop, (∀ H', Nx H' → ∃ m', m' < m ∧ W (i + 1) m' H') ∧ ∀ x H', (Itt K a).yld i H x H' → g x (wipe σ vs) H' fun σ2 H2 => wipe σ2 vs = wipe σ vs ∧ tYes σ2 H2 fun b H3 =>
        if b = true then te σ2 H3 fun y H4 => ∃ acc, H4 D = some (.lst acc) ∧ acc.length < sizeLine ∧ Nx (upd H4 D (.lst (acc ++ [y]))) else Nx H3) := by
  have hDt : D ≠ t := tape_ne hT hD
  refine lc_tup (xs := xs) (tt := tYes) (fun i H => LcI t E H1 D base i (c * (xs.length - i)) H) ⟨Kp.new hD, tape_same (same_new hD) hT, [], rfl, upd_same, fun v hv => nomatch hv⟩ (fun i H _ h => kpT_sqt (kpT_kp h.1 hT) ha) ?_ ?_
  · intro i x H hx h
    have hi := (List.getElem?_eq_some_iff.mp hx).1
    have e : c * (xs.length - i) = c * (xs.length - (i + 1)) + c := by
      have : xs.length - i = (xs.length - (i + 1)) + 1 := by omega
      rw [this, Nat.mul_add, Nat.mul_one]
    have h2 := h.2.1
    rw [e, ← Nat.add_assoc] at h2
    exact hs i x H _ hx h.1 h2 fun y H4 k4 t4 e4 => lcI_next mono hD hDt (Nat.lt_of_lt_of_le (Nat.lt_of_lt_of_le hi hz) (by decide)) h k4 t4 e4
  · rintro H ⟨h1, h2, acc, h3, h4, h5⟩
    exact hd H acc h1 (h2.mono (by omega)) h4 h3 h5
end
section
variable {X : Cx}
/-- a list times a small number, the heap hidden -/
def rRepL : R2 := fun x y H Q => ∃ (l : Addr) (k : Nat) (xs : List V), x = .ref l ∧ y = .int (k : Int) ∧ H l = some (.lst xs) ∧ k ≤ 1000 ∧ xs.length ≤ 1000 ∧ ∀ p H', H p = none → Same H H' → H' p = some (.lst (List.replicate k xs).flatten) → Q (.ref p) H'
theorem op_repL : OpR X (binaryOp .Mult) rRepL := fun pins s σ H x y v u Q I rx ry h => by
  obtain ⟨l, k, xs, e1, e2, hl, hk, hz, q⟩ := h
  refine op_rep pins s σ H x y v u Q I rx ry ⟨l, (k : Int), xs, e1, e2, hl, by omega, by omega, ?_, fun p np => q p _ np (same_new np) (by rw [upd_same]; rfl)⟩
  have : xs.length * (k : Int).toNat ≤ 1000 * 1000 := Nat.mul_le_mul hz (by omega)
  exact Nat.le_trans this (by decide)
end
end Tw

/-! codes done on a pile: the plain law -/
namespace Tw
open PySem PySem.Spec PyProof.Rows L2
/-- pile: the top first -/
structure DS where
  pile : List Int
  kept : List Int
  taken : List (Str × List Int)
  given : List (Str × List Int)
inductive Act where
  | take (t : Str) | give (t : Str) | num (n : Int) | keep (k : Nat) | kept (k : Nat) | wrd (w : Str)
def lk (es : List (Str × List Int)) (t : Str) : Option (List Int) := (es.find? fun e => decide (e.1 = t)).map (·.2)
def stE (es : List (Str × List Int)) (t : Str) (ns : List Int) : List (Str × List Int) := es.map fun e => if e.1 = t then (e.1, ns) else e
def pushE (es : List (Str × List Int)) (t : Str) (x : Int) : List (Str × List Int) := match lk es t with
  | some ns => stE es t (ns ++ [x])
  | none => es ++ [(t, [x])]
def reck (w : Str) (a b : Int) : Option Int :=
  if w = "below" then some (if a < b then 1 else 0) else if w = "plus" then some ((a + b) % 1000000) else if w = "less" then some ((a - b) % 1000000) else if w = "times" then some (a * b % 1000000) else none
def wstep (w : Str) (p : List Int) : Option (List Int) :=
  if w = "drop" then (match p with | _ :: r => some r | _ => none)
  else if w = "twice" then (match p with | b :: r => some (b :: b :: r) | _ => none)
  else if w = "swap" then (match p with | b :: a :: r => some (a :: b :: r) | _ => none)
  else if w = "pick" then (match p with | b :: a :: c :: r => some ((if c ≠ 0 then a else b) :: r) | _ => none)
  else match p with | b :: a :: r => (reck w a b).map (· :: r) | _ => none
def step (s : DS) : Act → Option DS
  | .take t => match lk s.taken t with | some (x :: r) => some { s with pile := x :: s.pile, taken := stE s.taken t r } | _ => none
  | .num n => some { s with pile := n :: s.pile }
  | .kept k => match s.kept[k]? with | some x => some { s with pile := x :: s.pile } | none => none
  | .give t => match s.pile with | x :: r => some { s with pile := r, given := pushE s.given t x } | [] => none
  | .keep k => match s.pile with | x :: r => if k < s.kept.length then some { s with pile := r, kept := s.kept.set k x } else none | [] => none
  | .wrd w => match wstep w s.pile with | some p => some { s with pile := p } | none => none
def runA : DS → List Act → Option DS
  | s, [] => some s
  | s, a :: r => match step s a with | some s' => runA s' r | none => none
theorem runA_snoc : ∀ (as : List Act) (s s' : DS) (a : Act), runA s as = some s' → runA s (as ++ [a]) = step s' a
  | [], s, s', a, h => by
    cases h
    show (match step s a with | some s' => runA s' [] | none => none) = step s a
    cases step s a <;> rfl
  | b :: r, s, s', a, h => by
    have h' : (match step s b with | some s' => runA s' r | none => none) = some s' := h
    show (match step s b with | some s' => runA s' (r ++ [a]) | none => none) = step s' a
    cases e : step s b with
    | none =>
      rw [e] at h'
      cases h'
    | some t =>
      rw [e] at h'
      exact runA_snoc r t s' a h'
/-- an ITEM -/
def it (x : Int) : Prop := 0 ≤ x ∧ x < 1000000
structure DS.Good (s : DS) : Prop where
  p : ∀ x ∈ s.pile, it x
  k : ∀ x ∈ s.kept, it x
  t : ∀ e ∈ s.taken, ∀ x ∈ e.2, it x
def ActGood : Act → Prop
  | .num n => it n
  | _ => True
/-- no part longer than n -/
structure DS.Bnd (s : DS) (n : Nat) : Prop where
  p : s.pile.length ≤ n
  g : s.given.length ≤ n
  e : ∀ e ∈ s.given, e.2.length ≤ n
theorem lk_mem {es : List (Str × List Int)} {t : Str} {ns : List Int} (h : lk es t = some ns) : (t, ns) ∈ es := by
  unfold lk at h
  cases e : es.find? (fun e => decide (e.1 = t)) with
  | none =>
    rw [e] at h
    cases h
  | some p =>
    rw [e] at h
    have h1 := List.mem_of_find?_eq_some e
    have h2 : p.1 = t := by
      have h0 := List.find?_some e
      simpa using h0
    have h3 : p.2 = ns := Option.some.inj h
    rw [← h2, ← h3]
    exact h1
theorem stE_mem {es : List (Str × List Int)} {t : Str} {ns : List Int} {e : Str × List Int} (h : e ∈ stE es t ns) : e ∈ es ∨ e.2 = ns := by
  unfold stE at h
  obtain ⟨e', h1, h2⟩ := List.mem_map.mp h
  by_cases c : e'.1 = t
  · rw [if_pos c] at h2
    rw [← h2]
    exact .inr rfl
  · rw [if_neg c] at h2
    rw [← h2]
    exact .inl h1
theorem reck_it {w : Str} {a b n : Int} (h : reck w a b = some n) : it n := by
  unfold reck at h
  split at h
  · cases h
    split
    · exact ⟨by decide, by decide⟩
    · exact ⟨by decide, by decide⟩
  · split at h
    · cases h
      exact ⟨by omega, by omega⟩
    · split at h
      · cases h
        exact ⟨by omega, by omega⟩
      · split at h
        · cases h
          exact ⟨Int.emod_nonneg _ (by decide), Int.emod_lt_of_pos _ (by decide)⟩
        · cases h
theorem wstep_it {w : Str} {p q : List Int} (h : wstep w p = some q) (hp : ∀ x ∈ p, it x) : ∀ x ∈ q, it x := by
  unfold wstep at h
  split at h
  · split at h
    · cases h
      exact fun x hx => hp x (List.mem_cons_of_mem _ hx)
    · cases h
  · split at h
    · split at h
      · cases h
        intro x hx
        rcases List.mem_cons.mp hx with rfl | hx
        · exact hp _ List.mem_cons_self
        · exact hp x hx
      · cases h
    · split at h
      · split at h
        · cases h
          intro x hx
          simp only [List.mem_cons] at hx hp
          rcases hx with rfl | rfl | hx
          · exact hp _ (.inr (.inl rfl))
          · exact hp _ (.inl rfl)
          · exact hp _ (.inr (.inr hx))
        · cases h
      · split at h
        · split at h
          · cases h
            intro x hx
            simp only [List.mem_cons] at hx hp
            rcases hx with rfl | hx
            · split
              · exact hp _ (.inr (.inl rfl))
              · exact hp _ (.inl rfl)
            · exact hp _ (.inr (.inr (.inr hx)))
          · cases h
        · split at h
          · rename_i b a r
            cases e : reck w a b with
            | none =>
              rw [e] at h
              cases h
            | some n =>
              rw [e] at h
              cases h
              intro x hx
              rcases List.mem_cons.mp hx with rfl | hx
              · exact reck_it e
              · exact hp x (List.mem_cons_of_mem _ (List.mem_cons_of_mem _ hx))
          · cases h
theorem wstep_len {w : Str} {p q : List Int} (h : wstep w p = some q) : q.length ≤ p.length + 1 := by
  unfold wstep at h
  split at h
  · split at h
    · cases h
      simp only [List.length_cons]
      omega
    · cases h
  · split at h
    · split at h
      · cases h
        simp only [List.length_cons]
        omega
      · cases h
    · split at h
      · split at h
        · cases h
          simp only [List.length_cons]
          omega
        · cases h
      · split at h
        · split at h
          · cases h
            simp only [List.length_cons]
            omega
          · cases h
        · split at h
          · rename_i b a r
            cases e : reck w a b with
            | none =>
              rw [e] at h
              cases h
            | some n =>
              rw [e] at h
              cases h
              simp only [List.length_cons]
              omega
          · cases h
theorem step_good {s s' : DS} {a : Act} (h : step s a = some s') (g : s.Good) (ga : ActGood a) : s'.Good := by
  cases a with
  | take t =>
    unfold step at h
    dsimp only at h
    split at h
    · rename_i x r e
      cases h
      have hm := lk_mem e
      refine ⟨fun y hy => ?_, g.k, fun e' he y hy => ?_⟩
      · rcases List.mem_cons.mp hy with rfl | hy
        · exact g.t _ hm _ List.mem_cons_self
        · exact g.p y hy
      · rcases stE_mem he with he | he
        · exact g.t e' he y hy
        · rw [he] at hy
          exact g.t _ hm y (List.mem_cons_of_mem _ hy)
    · cases h
  | num n =>
    cases h
    refine ⟨fun y hy => ?_, g.k, g.t⟩
    rcases List.mem_cons.mp hy with rfl | hy
    · exact ga
    · exact g.p y hy
  | kept k =>
    unfold step at h
    dsimp only at h
    split at h
    · rename_i x e
      cases h
      refine ⟨fun y hy => ?_, g.k, g.t⟩
      rcases List.mem_cons.mp hy with rfl | hy
      · exact g.k _ (List.mem_of_getElem? e)
      · exact g.p y hy
    · cases h
  | give t =>
    unfold step at h
    dsimp only at h
    split at h
    · rename_i x r e
      cases h
      exact ⟨fun y hy => g.p y (by rw [e]; exact List.mem_cons_of_mem _ hy), g.k, g.t⟩
    · cases h
  | keep k =>
    unfold step at h
    dsimp only at h
    split at h
    · rename_i x r e
      split at h
      · cases h
        refine ⟨fun y hy => g.p y (by rw [e]; exact List.mem_cons_of_mem _ hy), fun y hy => ?_, g.t⟩
        rcases List.mem_or_eq_of_mem_set hy with hy | rfl
        · exact g.k y hy
        · exact g.p _ (by rw [e]; exact List.mem_cons_self)
      · cases h
    · cases h
  | wrd w =>
    unfold step at h
    dsimp only at h
    split at h
    · rename_i p e
      cases h
      exact ⟨wstep_it e g.p, g.k, g.t⟩
    · cases h
theorem step_bnd {s s' : DS} {a : Act} {n : Nat} (h : step s a = some s') (b : s.Bnd n) : s'.Bnd (n + 1) := by
  have b0 := b.p
  have b1 := b.g
  have be : ∀ e ∈ s.given, e.2.length ≤ n + 1 := fun e he => Nat.le_succ_of_le (b.e e he)
  cases a with
  | take t =>
    unfold step at h
    dsimp only at h
    split at h
    · cases h
      exact ⟨by simp only [List.length_cons]; omega, by dsimp only; omega, be⟩
    · cases h
  | num m =>
    cases h
    exact ⟨by simp only [List.length_cons]; omega, by dsimp only; omega, be⟩
  | kept k =>
    unfold step at h
    dsimp only at h
    split at h
    · cases h
      exact ⟨by simp only [List.length_cons]; omega, by dsimp only; omega, be⟩
    · cases h
  | give t =>
    unfold step at h
    dsimp only at h
    split at h
    · rename_i x r e
      cases h
      rw [e, List.length_cons] at b0
      refine ⟨by dsimp only; omega, ?_, fun e' he => ?_⟩
      · dsimp only
        unfold pushE
        split
        · unfold stE
          rw [List.length_map]
          omega
        · rw [List.length_append, List.length_singleton]
          omega
      · dsimp only at he
        unfold pushE at he
        split at he
        · rename_i ns hl
          have h1 := b.e _ (lk_mem hl)
          rcases stE_mem he with he | he
          · exact be e' he
          · rw [he, List.length_append, List.length_singleton]
            dsimp only at h1
            omega
        · rcases List.mem_append.mp he with he | he
          · exact be e' he
          · rw [List.mem_singleton.mp he, List.length_singleton]
            omega
    · cases h
  | keep k =>
    unfold step at h
    dsimp only at h
    split at h
    · rename_i x r e
      rw [e, List.length_cons] at b0
      split at h
      · cases h
        exact ⟨by dsimp only; omega, by dsimp only; omega, be⟩
      · cases h
    · cases h
  | wrd w =>
    unfold step at h
    dsimp only at h
    split at h
    · rename_i p e
      cases h
      have := wstep_len e
      exact ⟨by dsimp only; omega, by dsimp only; omega, be⟩
    · cases h
end Tw

/-! acts as values -/
namespace Tw
open PySem PySem.Spec PyProof.Rows L2
def actV : Act → List V
  | .take t => [.str "take", .str t] | .give t => [.str "give", .str t] | .num n => [.str "number", .int n] | .keep k => [.str "keep", .int (k : Int)] | .kept k => [.str "kept", .int (k : Int)] | .wrd w => [.str w]
def words8 : List Str := ["plus", "less", "times", "below", "twice", "swap", "drop", "pick"]
def actOk : Act → Prop
  | .wrd w => w ∈ words8
  | .num n => it n
  | _ => True
theorem actOk.good {a : Act} (h : actOk a) : ActGood a := by
  cases a with
  | num n => exact h
  | _ => trivial
def ActV (K : PySem.W.Frag) (H : Hp) (v : V) (a : Act) : Prop := ∃ q, v = .ref q ∧ SqT K H q (actV a)
end Tw

/-! a sorted list of texts is told by its texts -/
namespace Tw
open PySem PySem.Spec PyProof.Rows L2
def leS (a b : Str) : Prop := a.cps.toList ≤ b.cps.toList
theorem leS_of {a b : Str} (h : (!ltCps b.cps.toList a.cps.toList) = true) : leS a b := by
  rw [ltCps_eq] at h
  have : ¬ b.cps.toList < a.cps.toList := by
    intro z
    rw [decide_eq_true z] at h
    cases h
  exact this
theorem leS_trans {a b c : Str} (h : leS a b) (k : leS b c) : leS a c := List.le_trans h k
theorem str_ext {a b : Str} (h : a.cps.toList = b.cps.toList) : a = b := by
  obtain ⟨a⟩ := a
  obtain ⟨b⟩ := b
  dsimp only at h
  congr 1
  exact Array.toList_inj.mp h
theorem leS_anti {a b : Str} (h : leS a b) (k : leS b a) : a = b := str_ext (List.le_antisymm h k)
theorem rising_pw : ∀ (l : List Str) (p : Str), risingS p l = true → (p :: l).Pairwise leS
  | [], p, _ => by simp
  | x :: r, p, h => by
    have h' : (!ltCps x.cps.toList p.cps.toList && risingS x r) = true := h
    obtain ⟨h1, h2⟩ := Bool.and_eq_true_iff.mp h'
    have ih := rising_pw r x h2
    have px := leS_of h1
    refine List.pairwise_cons.mpr ⟨fun y hy => ?_, ih⟩
    rcases List.mem_cons.mp hy with rfl | hy
    · exact px
    · exact leS_trans px ((List.pairwise_cons.mp ih).1 y hy)
theorem sorted_pw {l : List Str} (h : sortedS l = true) : l.Pairwise leS := by
  cases l with
  | nil => exact .nil
  | cons x r => exact rising_pw r x h
theorem sorted_one : ∀ {l m : List Str}, l.Pairwise leS → m.Pairwise leS → l.Perm m → l = m
  | [], m, _, _, p => (List.perm_nil.mp p.symm).symm
  | x :: r, [], _, _, p => List.perm_nil.mp p
  | x :: r, y :: t, hl, hm, p => by
    have hx : x ∈ y :: t := p.mem_iff.mp List.mem_cons_self
    have hy : y ∈ x :: r := p.mem_iff.mpr List.mem_cons_self
    have e : x = y := by
      rcases List.mem_cons.mp hx with h | h
      · exact h
      · rcases List.mem_cons.mp hy with h' | h'
        · exact h'.symm
        · exact leS_anti ((List.pairwise_cons.mp hl).1 y h') ((List.pairwise_cons.mp hm).1 x h)
    subst e
    rw [sorted_one (List.pairwise_cons.mp hl).2 (List.pairwise_cons.mp hm).2 (List.Perm.cons_inv p)]
theorem srt_unique {l m k : List Str} (hl : sortedS l = true) (hm : sortedS m = true) (p : l.Perm k) (p' : m.Perm k) : l = m := sorted_one (sorted_pw hl) (sorted_pw hm) (p.trans p'.symm)
theorem eqv_strs : ∀ zs : List Str, PyData.eqvAll (zs.map PyData.str) (zs.map PyData.str) = true
  | [] => rfl
  | z :: r => by
    show (PyData.eqv (.str z) (.str z) && PyData.eqvAll (r.map PyData.str) (r.map PyData.str)) = true
    rw [eqv_strs r]
    show ((z == z) && true) = true
    simp
end Tw

/-! comprehensions that change nothing but the new list: items as, f tells what is left -/
namespace Tw
open PySem PySem.Spec PyProof.Rows L2
theorem same_trans {H H1 H2 : Hp} (a : Same H H1) (b : Same H1 H2) : Same H H2 := fun x o h => b x o (a x o h)
section
variable {α β : Type} {J : It} {as : List α} {G : Hp → Prop} {Y : Nat → Hp → V → Hp → Prop} {g : TG} {tt : TT} {te tk tv : TE} {vs : List Nat} {σ : L2.St} {H1 : Hp} {D : Addr} {Qd : Hp → Prop}
theorem take_fm {f : α → Option β} {i : Nat} {a : α} (h : as[i]? = some a) : (as.take (i + 1)).filterMap f = (as.take i).filterMap f ++ (f a).toList := by
  have e : (some a).toList.filterMap f = (f a).toList := by cases e : f a <;> simp [e]
  rw [List.take_add_one, h, List.filterMap_append, e]
theorem lcF (w : Walk J as.length G Y) (f : α → Option β) (E : Hp → V → β → Prop) (mono : ∀ H H' v b, KpT H H' → E H v b → E H' v b) (hD : H1 D = none) (hz : as.length ≤ 100000) (hG : ∀ H, Same H1 H → G H)
    (hs : ∀ i x a H H' (R1 : V → Hp → Prop) (R0 : Hp → Prop), as[i]? = some a → Same H1 H → Y i H x H' → (∀ b, f a = some b → ∀ y H4, Same H H4 → E H4 y b → R1 y H4) → (f a = none → ∀ H3, Same H H3 → R0 H3) →
      g x (wipe σ vs) H' fun σ2 H2 => wipe σ2 vs = wipe σ vs ∧ tt σ2 H2 fun b H3 => if b = true then te σ2 H3 R1 else R0 H3)
    (hd : ∀ H ys, Same H1 H → H D = some (.lst ys) → Paired (E H) ys (as.filterMap f) → Qd H) :
    ∃ W : Nat → Nat → Hp → Prop, (∃ m, W 0 m (upd H1 D (.lst []))) ∧ ∀ i m H, W i m H →
      (J.stop i H ∧ Qd H) ∨ (J.go i H ∧ ∃ Nx : Hp → Prop, (∀ H', Nx H' → ∃ m', m' < m ∧ W (i + 1) m' H') ∧ ∀ x H', J.yld i H x H' → g x (wipe σ vs) H' fun σ2 H2 => wipe σ2 vs = wipe σ vs ∧ tt σ2 H2 fun b H3 =>
        if b = true then te σ2 H3 fun y H4 => ∃ acc, H4 D = some (.lst acc) ∧ acc.length < sizeLine ∧ Nx (upd H4 D (.lst (acc ++ [y]))) else Nx H3) := by
  refine lc_it w (fun i H => Same H1 H ∧ ∃ ys, H D = some (.lst ys) ∧ ys.length ≤ i ∧ Paired (E H) ys ((as.take i).filterMap f)) ⟨same_new hD, [], upd_same, Nat.le_refl _, .nil⟩ (fun i H _ p => hG H p.1) ?_ ?_
  · rintro i x H H' hi ⟨s1, ys, c1, l1, p1⟩ y
    have ha : as[i]? = some as[i] := List.getElem?_eq_getElem hi
    refine hs i x as[i] H H' _ _ ha s1 y (fun b hb y H4 s4 e4 => ?_) (fun hn H3 s3 => ?_)
    · have c4 := s4 _ _ c1
      have kk : KpT H4 (upd H4 D (.lst (ys ++ [y]))) := kpT_lst c4
      refine ⟨ys, c4, ?_, same_mut (same_trans s1 s4) hD, ys ++ [y], upd_same, by rw [List.length_append]; exact Nat.succ_le_succ l1, ?_⟩
      · exact Nat.lt_of_le_of_lt (Nat.le_trans l1 (Nat.le_trans (Nat.le_of_lt hi) hz)) (by decide)
      · rw [take_fm ha, hb]
        exact (p1.mono fun _ _ e => mono _ _ _ _ ((kpT_same s4).trans kk) e).snoc (mono _ _ _ _ kk e4)
    · refine ⟨same_trans s1 s3, ys, s3 _ _ c1, Nat.le_succ_of_le l1, ?_⟩
      rw [take_fm ha, hn]
      show Paired (E H3) ys (_ ++ [])
      rw [List.append_nil]
      exact p1.mono fun _ _ e => mono _ _ _ _ (kpT_same s3) e
  · rintro H ⟨s1, ys, c1, _, p1⟩
    rw [List.take_length] at p1
    exact hd H ys s1 c1 p1
/-- the dict of pairs, later ones over earlier ones -/
def putAll (kf : β → Key) (vf : β → V) (bs : List β) : List (Key × V) := bs.foldl (fun kvs b => putK kvs (kf b) (vf b)) []
theorem putAll_snoc (kf : β → Key) (vf : β → V) (bs : List β) (b : β) : putAll kf vf (bs ++ [b]) = putK (putAll kf vf bs) (kf b) (vf b) := by
  unfold putAll
  rw [List.foldl_append]
  rfl
theorem putAll_len (kf : β → Key) (vf : β → V) (bs : List β) : (putAll kf vf bs).length ≤ bs.length := by
  suffices h : ∀ (bs : List β) (kvs : List (Key × V)), (bs.foldl (fun kvs b => putK kvs (kf b) (vf b)) kvs).length ≤ kvs.length + bs.length by
    have := h bs []
    simpa [putAll] using this
  intro bs
  induction bs with
  | nil => intro kvs; exact Nat.le_refl _
  | cons b r ih =>
    intro kvs
    have h1 := ih (putK kvs (kf b) (vf b))
    have h2 := length_putK kvs (kf b) (vf b)
    rw [List.foldl_cons, List.length_cons]
    omega
theorem dcItw (w : Walk J as.length G Y) (Pv : Nat → Hp → Prop) (h0 : Pv 0 (upd H1 D (.dK []))) (hG : ∀ i H, i ≤ as.length → Pv i H → G H)
    (hs : ∀ i x H H', i < as.length → Pv i H → Y i H x H' → g x (wipe σ vs) H' fun σ2 H2 => wipe σ2 vs = wipe σ vs ∧ tt σ2 H2 fun b H3 =>
      if b = true then tk σ2 H3 fun y H4 => tv σ2 H4 fun z H5 => ∃ kvs k, y = kV k ∧ H5 D = some (.dK kvs) ∧ kvs.length < sizeLine ∧ Pv (i + 1) (upd H5 D (.dK (putK kvs k z))) else Pv (i + 1) H3) (hd : ∀ H, Pv as.length H → Qd H) :
    ∃ W : Nat → Nat → Hp → Prop, (∃ m, W 0 m (upd H1 D (.dK []))) ∧ ∀ i m H, W i m H →
      (J.stop i H ∧ Qd H) ∨ (J.go i H ∧ ∃ Nx : Hp → Prop, (∀ H', Nx H' → ∃ m', m' < m ∧ W (i + 1) m' H') ∧ ∀ x H', J.yld i H x H' → g x (wipe σ vs) H' fun σ2 H2 => wipe σ2 vs = wipe σ vs ∧ tt σ2 H2 fun b H3 =>
        if b = true then tk σ2 H3 fun y H4 => tv σ2 H4 fun z H5 => ∃ kvs k, y = kV k ∧ H5 D = some (.dK kvs) ∧ kvs.length < sizeLine ∧ Nx (upd H5 D (.dK (putK kvs k z))) else Nx H3) := by
  refine ⟨fun i m H => m = as.length - i ∧ i ≤ as.length ∧ Pv i H, ⟨as.length, rfl, Nat.zero_le _, h0⟩, ?_⟩
  rintro i m H ⟨rfl, hi, p⟩
  have q := hG i H hi p
  by_cases hlt : i < as.length
  · exact .inr ⟨w.goes i H hlt q, Pv (i + 1), fun H' p' => ⟨as.length - (i + 1), by omega, rfl, hlt, p'⟩, fun x H' y => hs i x H H' hlt p (w.yields i H x H' hlt q y)⟩
  · have e : i = as.length := by omega
    subst e
    exact .inl ⟨w.stops H q, hd H p⟩
theorem dcF (w : Walk J as.length G Y) (f : α → Option β) (kf : β → Key) (vf : β → V) (hD : H1 D = none) (hz : as.length ≤ 100000) (hG : ∀ H, Same H1 H → G H)
    (hs : ∀ i x a H H' (R1 : V → V → Hp → Prop) (R0 : Hp → Prop), as[i]? = some a → Same H1 H → Y i H x H' → (∀ b, f a = some b → ∀ H4, Same H H4 → R1 (kV (kf b)) (vf b) H4) → (f a = none → ∀ H3, Same H H3 → R0 H3) →
      g x (wipe σ vs) H' fun σ2 H2 => wipe σ2 vs = wipe σ vs ∧ tt σ2 H2 fun b H3 => if b = true then tk σ2 H3 fun y H4 => tv σ2 H4 fun z H5 => R1 y z H5 else R0 H3)
    (hd : ∀ H, Same H1 H → H D = some (.dK (putAll kf vf (as.filterMap f))) → Qd H) :
    ∃ W : Nat → Nat → Hp → Prop, (∃ m, W 0 m (upd H1 D (.dK []))) ∧ ∀ i m H, W i m H →
      (J.stop i H ∧ Qd H) ∨ (J.go i H ∧ ∃ Nx : Hp → Prop, (∀ H', Nx H' → ∃ m', m' < m ∧ W (i + 1) m' H') ∧ ∀ x H', J.yld i H x H' → g x (wipe σ vs) H' fun σ2 H2 => wipe σ2 vs = wipe σ vs ∧ tt σ2 H2 fun b H3 =>
        if b = true then tk σ2 H3 fun y H4 => tv σ2 H4 fun z H5 => ∃ kvs k, y = kV k ∧ H5 D = some (.dK kvs) ∧ kvs.length < sizeLine ∧ Nx (upd H5 D (.dK (putK kvs k z))) else Nx H3) := by
  refine dcItw w (fun i H => Same H1 H ∧ H D = some (.dK (putAll kf vf ((as.take i).filterMap f)))) ⟨same_new hD, upd_same⟩ (fun i H _ p => hG H p.1) ?_ ?_
  · rintro i x H H' hi ⟨s1, c1⟩ y
    have ha : as[i]? = some as[i] := List.getElem?_eq_getElem hi
    refine hs i x as[i] H H' (fun y z H5 => ∃ kvs k, y = kV k ∧ H5 D = some (.dK kvs) ∧ kvs.length < sizeLine ∧ _) _ ha s1 y (fun b hb H4 s4 => ?_) (fun hn H3 s3 => ?_)
    · refine ⟨_, kf b, rfl, s4 _ _ c1, ?_, same_mut (same_trans s1 s4) hD, ?_⟩
      · have h1 := putAll_len kf vf ((as.take i).filterMap f)
        have h2 := List.length_filterMap_le f (as.take i)
        have h3 : (as.take i).length ≤ as.length := List.length_take_le' ..
        have : sizeLine = 16777216 := rfl
        omega
      · rw [upd_same, take_fm ha, hb]
        show _ = some (HO.dK (putAll kf vf (_ ++ [b])))
        rw [putAll_snoc]
    · refine ⟨same_trans s1 s3, ?_⟩
      rw [take_fm ha, hn]
      show _ = some (HO.dK (putAll kf vf (_ ++ [])))
      rw [List.append_nil]
      exact s3 _ _ c1
  · rintro H ⟨s1, c1⟩
    rw [List.take_length] at c1
    exact hd H s1 c1
end
/-! keys of a dict that was so filled -/
theorem putK_keys (kvs : List (Key × V)) (k : Key) (v : V) : (k ∈ kvs.map (·.1) ∧ (putK kvs k v).map (·.1) = kvs.map (·.1)) ∨ (k ∉ kvs.map (·.1) ∧ (putK kvs k v).map (·.1) = kvs.map (·.1) ++ [k]) := by
  unfold putK
  by_cases h : (kvs.any fun kv => decide (kv.1 = k)) = true
  · rw [if_pos h]
    obtain ⟨x, hx, e⟩ := List.any_eq_true.mp h
    refine .inl ⟨List.mem_map.mpr ⟨x, hx, of_decide_eq_true e⟩, ?_⟩
    rw [List.map_map]
    refine List.map_congr_left fun y _ => ?_
    show (if y.1 = k then (y.1, v) else y).1 = y.1
    split <;> rfl
  · rw [if_neg h]
    refine .inr ⟨fun z => ?_, by rw [List.map_append]; rfl⟩
    obtain ⟨x, hx, e⟩ := List.mem_map.mp z
    exact h (List.any_eq_true.mpr ⟨x, hx, decide_eq_true e⟩)
theorem putAll_keys {β : Type} (kf : β → Key) (vf : β → V) (bs : List β) : ((putAll kf vf bs).map (·.1)).Nodup ∧ ∀ k, k ∈ (putAll kf vf bs).map (·.1) ↔ k ∈ bs.map kf := by
  suffices h : ∀ (bs : List β) (kvs : List (Key × V)), (kvs.map (·.1)).Nodup → ((bs.foldl (fun kvs b => putK kvs (kf b) (vf b)) kvs).map (·.1)).Nodup ∧ ∀ k, k ∈ (bs.foldl (fun kvs b => putK kvs (kf b) (vf b)) kvs).map (·.1) ↔ k ∈ kvs.map (·.1) ∨ k ∈ bs.map kf by
    obtain ⟨h1, h2⟩ := h bs [] List.nodup_nil
    exact ⟨h1, fun k => by rw [putAll, h2]; simp⟩
  intro bs
  induction bs with
  | nil => intro kvs nd; exact ⟨nd, fun k => by simp⟩
  | cons b r ih =>
    intro kvs nd
    rw [List.foldl_cons, List.map_cons]
    rcases putK_keys kvs (kf b) (vf b) with ⟨m, e⟩ | ⟨m, e⟩
    · obtain ⟨h1, h2⟩ := ih (putK kvs (kf b) (vf b)) (by rw [e]; exact nd)
      refine ⟨h1, fun k => ?_⟩
      rw [h2, e, List.mem_cons]
      exact ⟨fun z => z.elim .inl fun z => .inr (.inr z), fun z => z.elim .inl fun z => z.elim (fun z => .inl (by rw [z]; exact m)) .inr⟩
    · obtain ⟨h1, h2⟩ := ih (putK kvs (kf b) (vf b)) (by
        rw [e]
        refine List.nodup_append.mpr ⟨nd, by simp, fun x hx y hy z => ?_⟩
        rw [List.mem_singleton.mp hy] at z
        exact m (by rw [← z]; exact hx))
      refine ⟨h1, fun k => ?_⟩
      rw [h2, e, List.mem_append, List.mem_singleton, List.mem_cons]
      exact or_assoc
/-- keys that are texts -/
theorem putAll_strs {β : Type} (sf : β → Str) (vf : β → V) (bs : List β) : ∃ ks : List Str, (putAll (fun b => Sum.inr (sf b)) vf bs).map (·.1) = ks.map Sum.inr ∧ ks.Nodup ∧ ∀ k, k ∈ ks ↔ k ∈ bs.map sf := by
  obtain ⟨h1, h2⟩ := putAll_keys (fun b => Sum.inr (sf b)) vf bs
  have ex : ∀ l : List Key, (∀ k ∈ l, ∃ s, k = Sum.inr s) → ∃ ks : List Str, l = ks.map Sum.inr := by
    intro l
    induction l with
    | nil => intro _; exact ⟨[], rfl⟩
    | cons x r ih =>
      intro h
      obtain ⟨s, rfl⟩ := h x List.mem_cons_self
      obtain ⟨ks, rfl⟩ := ih fun k hk => h k (List.mem_cons_of_mem _ hk)
      exact ⟨s :: ks, rfl⟩
  obtain ⟨ks, e⟩ := ex _ fun k hk => by
    obtain ⟨b, _, e⟩ := List.mem_map.mp ((h2 k).mp hk)
    exact ⟨sf b, e.symm⟩
  rw [e] at h1 h2
  refine ⟨ks, e, List.Pairwise.of_map Sum.inr (fun _ _ hne e => hne (congrArg Sum.inr e)) h1, fun k => ?_⟩
  have := h2 (Sum.inr k)
  rw [List.mem_map, List.mem_map] at this
  rw [List.mem_map]
  constructor
  · intro hk
    obtain ⟨b, hb, e⟩ := this.mp ⟨k, hk, rfl⟩
    exact ⟨b, hb, by injection e⟩
  · rintro ⟨b, hb, e⟩
    obtain ⟨k', hk', e'⟩ := this.mpr ⟨b, hb, by rw [e]⟩
    injection e' with e'
    exact e' ▸ hk'
/-- rising, each once: just these -/
structure Ups (zs ys : List Str) : Prop where
  nd : ys.Nodup
  srt : sortedS ys = true
  mm : ∀ k, k ∈ ys ↔ k ∈ zs
theorem Ups.one {zs ys ys' : List Str} (h : Ups zs ys) (h' : Ups zs ys') : ys = ys' :=
  srt_unique h.srt h'.srt (List.Perm.refl _) ((List.perm_ext_iff_of_nodup h'.nd h.nd).mpr fun k => by rw [h.mm, h'.mm]) |>.trans rfl
theorem nodup_len {zs : List Str} : ∀ {ys : List Str}, ys.Nodup → (∀ k ∈ ys, k ∈ zs) → ys.length ≤ zs.length := fun {ys} nd h => by
  induction ys generalizing zs with
  | nil => exact Nat.zero_le _
  | cons y r ih =>
    obtain ⟨h1, h2⟩ := List.nodup_cons.mp nd
    have hy := h y List.mem_cons_self
    have := ih (zs := zs.erase y) h2 fun k hk => (List.mem_erase_of_ne (fun e => h1 (by rw [← e]; exact hk))).mpr (h k (List.mem_cons_of_mem _ hk))
    rw [List.length_erase_of_mem hy] at this
    have hp : 0 < zs.length := List.length_pos_of_mem hy
    rw [List.length_cons]
    omega
theorem Ups.len {zs ys : List Str} (h : Ups zs ys) : ys.length ≤ zs.length := nodup_len h.nd fun k hk => (h.mm k).mp hk
/-! ### acts' trays -/
def mvW (g : Bool) : Str := if g then "give" else "take"
def trayOf (g : Bool) : Act → Option Str
  | .take t => if g then none else some t
  | .give t => if g then some t else none
  | _ => none
def mvT (g : Bool) (as : List Act) : List Str := as.filterMap (trayOf g)
theorem mvT_len (g : Bool) (as : List Act) : (mvT g as).length ≤ as.length := List.length_filterMap_le ..
end Tw

/-! the same rules, K named -/
namespace Tw
open PySem PySem.Spec PyProof.Rows L2
theorem ix_list' {X : Cx} (K : PySem.W.Frag) (h : X.K = K := by rfl) : IxR X (rIxL K) := by subst h; exact ix_list
end Tw
namespace Tw
open PySem PySem.Spec PyProof.Rows L2
theorem ix_tup' {X : Cx} (K : PySem.W.Frag) (h : X.K = K := by rfl) : IxR X (rIxT K) := by subst h; exact ix_tup
def rLenS (K : PySem.W.Frag) : List V → Hp → VK → Prop := fun xs H Q => ∃ p ys, xs = [.ref p] ∧ (SqL K H p ys ∨ SqT K H p ys) ∧ Q (.int ys.length) H
theorem call_len' {X : Cx} (K : PySem.W.Frag) (h : X.K = K := by rfl) : CallR X (.builtin "len") (rLenS K) := by subst h; exact call_len_seq
theorem pi_list' {X : Cx} {tg l : Expr} {tl : TE} (K : PySem.W.Frag) (hl : PE X l tl) (h : X.K = K := by rfl) : PI X tg l (iList K tl) := by subst h; exact pi_list hl
theorem pi_tup' {X : Cx} {tg l : Expr} {tl : TE} (K : PySem.W.Frag) (hl : PE X l tl) (h : X.K = K := by rfl) : PI X tg l (iTup K tl) := by subst h; exact pi_tup hl
theorem call_tupU' {X : Cx} (K : PySem.W.Frag) (h : X.K = K := by rfl) : CallR X (.type "tuple") (rTupU K) := by subst h; exact call_tupU
theorem call_lstU' {X : Cx} (K : PySem.W.Frag) (h : X.K = K := by rfl) : CallR X (.type "list") (rLstU K) := by subst h; exact call_lstU
end Tw

/-! codes in which no act lacks numbers -/
namespace Tw
open PySem PySem.Spec PyProof.Rows L2
def needW (w : Str) : Nat := if w = "pick" then 3 else if w = "twice" ∨ w = "drop" then 1 else 2
def moreW (w : Str) : Int := if w = "twice" then 1 else if w = "swap" then 0 else if w = "pick" then -2 else -1
def needs : Act → Nat
  | .take _ => 0 | .give _ => 1 | .num _ => 0 | .keep _ => 1 | .kept _ => 0 | .wrd w => needW w
def more : Act → Int
  | .take _ => 1 | .give _ => -1 | .num _ => 1 | .keep _ => -1 | .kept _ => 1 | .wrd w => moreW w
/-- how many are on the pile behind the acts; none where one lacks -/
def lg : Nat → List Act → Option Nat
  | p, [] => some p
  | p, a :: r => if needs a ≤ p then lg ((p : Int) + more a).toNat r else none
theorem lg_snoc : ∀ (as : List Act) (p q : Nat) (a : Act), lg p as = some q → needs a ≤ q → lg p (as ++ [a]) = some ((q : Int) + more a).toNat
  | [], p, q, a, h, hn => by
    cases h
    show (if needs a ≤ p then _ else none) = _
    rw [if_pos hn]
    rfl
  | b :: r, p, q, a, h, hn => by
    have h' : (if needs b ≤ p then lg ((p : Int) + more b).toNat r else none) = some q := h
    show (if needs b ≤ p then lg ((p : Int) + more b).toNat (r ++ [a]) else none) = _
    by_cases c : needs b ≤ p
    · rw [if_pos c] at h' ⊢
      exact lg_snoc r _ q a h' hn
    · rw [if_neg c] at h'
      cases h'
/-- which places an act asks for -/
def plOk (n : Nat) : Act → Prop
  | .keep k => k < n
  | .kept k => k < n
  | _ => True
theorem more_ge {a : Act} (h : actOk a) : -(needs a : Int) ≤ more a := by
  cases a with
  | wrd w =>
    have hm : w ∈ words8 := h
    simp only [words8, List.mem_cons, List.not_mem_nil, or_false] at hm
    rcases hm with rfl | rfl | rfl | rfl | rfl | rfl | rfl | rfl <;> decide
  | take t => show -(0 : Int) ≤ 1; decide
  | give t => show -(1 : Int) ≤ -1; decide
  | num n => show -(0 : Int) ≤ 1; decide
  | keep k => show -(1 : Int) ≤ -1; decide
  | kept k => show -(0 : Int) ≤ 1; decide
/-- of a tray so many numbers are taken -/
def takesN (t : Str) : List Act → Nat
  | [] => 0
  | .take u :: r => (if u = t then 1 else 0) + takesN t r
  | _ :: r => takesN t r
theorem lk_stE (es : List (Str × List Int)) (t u : Str) (ns : List Int) : lk (stE es t ns) u = if u = t then (lk es u).map (fun _ => ns) else lk es u := by
  induction es with
  | nil => by_cases h : u = t <;> simp [stE, lk, h]
  | cons e r ih =>
    have e1 : stE (e :: r) t ns = (if e.1 = t then (e.1, ns) else e) :: stE r t ns := rfl
    rw [e1]
    by_cases h1 : e.1 = t
    · rw [if_pos h1]
      by_cases h2 : e.1 = u
      · have h3 : u = t := h2.symm.trans h1
        rw [if_pos h3]
        simp [lk, List.find?_cons, h2]
      · have h3 : ¬ u = t := fun z => h2 (h1.trans z.symm)
        rw [if_neg h3]
        rw [if_neg h3] at ih
        have l1 : lk ((e.1, ns) :: stE r t ns) u = lk (stE r t ns) u := by simp [lk, List.find?_cons, h2]
        have l2 : lk (e :: r) u = lk r u := by simp [lk, List.find?_cons, h2]
        rw [l1, l2, ih]
    · rw [if_neg h1]
      by_cases h2 : e.1 = u
      · have h3 : ¬ u = t := fun z => h1 (h2.trans z)
        rw [if_neg h3]
        simp [lk, List.find?_cons, h2]
      · have l1 : lk (e :: stE r t ns) u = lk (stE r t ns) u := by simp [lk, List.find?_cons, h2]
        have l2 : lk (e :: r) u = lk r u := by simp [lk, List.find?_cons, h2]
        rw [l1, l2, ih]
theorem wstep_some {w : Str} {p : List Int} (h : w ∈ words8) (hn : needW w ≤ p.length) : ∃ q, wstep w p = some q ∧ (q.length : Int) = (p.length : Int) + moreW w := by
  simp only [words8, List.mem_cons, List.not_mem_nil, or_false] at h
  rcases h with rfl | rfl | rfl | rfl | rfl | rfl | rfl | rfl
  · match p, hn with
    | b :: a :: r, _ => exact ⟨_, rfl, by simp only [List.length_cons]; show _ = _ + (-1 : Int); omega⟩
  · match p, hn with
    | b :: a :: r, _ => exact ⟨_, rfl, by simp only [List.length_cons]; show _ = _ + (-1 : Int); omega⟩
  · match p, hn with
    | b :: a :: r, _ => exact ⟨_, rfl, by simp only [List.length_cons]; show _ = _ + (-1 : Int); omega⟩
  · match p, hn with
    | b :: a :: r, _ => exact ⟨_, rfl, by simp only [List.length_cons]; show _ = _ + (-1 : Int); omega⟩
  · match p, hn with
    | b :: r, _ => exact ⟨_, rfl, by simp only [List.length_cons]; show _ = _ + (1 : Int); omega⟩
  · match p, hn with
    | b :: a :: r, _ => exact ⟨_, rfl, by simp only [List.length_cons]; show _ = _ + (0 : Int); omega⟩
  · match p, hn with
    | b :: r, _ => exact ⟨_, rfl, by simp only [List.length_cons]; show _ = _ + (-1 : Int); omega⟩
  · match p, hn with
    | b :: a :: c :: r, _ => exact ⟨_, rfl, by simp only [List.length_cons]; show _ = _ + (-2 : Int); omega⟩
/-- such a code can be done, where the trays have enough -/
theorem run_of_lg : ∀ (as : List Act) (s : DS) (q : Nat), lg s.pile.length as = some q → (∀ a ∈ as, actOk a) → (∀ a ∈ as, plOk s.kept.length a) → (∀ t, 0 < takesN t as → takesN t as ≤ ((lk s.taken t).getD []).length) → ∃ s', runA s as = some s' ∧ s'.pile.length = q ∧ s'.kept.length = s.kept.length
  | [], s, q, h, _, _, _ => by
    cases h
    exact ⟨s, rfl, rfl, rfl⟩
  | a :: r, s, q, h, ho, hp, ht => by
    have h' : (if needs a ≤ s.pile.length then lg ((s.pile.length : Int) + more a).toNat r else none) = some q := h
    by_cases c : needs a ≤ s.pile.length
    · rw [if_pos c] at h'
      have oka := ho a List.mem_cons_self
      have pla := hp a List.mem_cons_self
      have key : ∃ s1, step s a = some s1 ∧ (s1.pile.length : Int) = (s.pile.length : Int) + more a ∧ s1.kept.length = s.kept.length ∧ (∀ t, 0 < takesN t r → takesN t r ≤ ((lk s1.taken t).getD []).length) := by
        cases a with
        | take t =>
          have h1 := ht t (by show 0 < (if t = t then 1 else 0) + takesN t r; rw [if_pos rfl]; omega)
          have h1 : (if t = t then 1 else 0) + takesN t r ≤ ((lk s.taken t).getD []).length := h1
          rw [if_pos rfl] at h1
          cases hl : lk s.taken t with
          | none =>
            rw [hl] at h1
            simp at h1
          | some ns =>
            cases ns with
            | nil =>
              rw [hl] at h1
              simp at h1
            | cons x xs =>
              refine ⟨{ s with pile := x :: s.pile, taken := stE s.taken t xs }, by simp only [step, hl], by simp only [List.length_cons]; show _ = _ + (1 : Int); omega, rfl, fun u hu => ?_⟩
              have h2 : lk (stE s.taken t xs) u = _ := lk_stE s.taken t u xs
              show takesN u r ≤ ((lk (stE s.taken t xs) u).getD []).length
              rw [h2]
              by_cases e : u = t
              · subst e
                rw [if_pos rfl, hl]
                rw [hl] at h1
                simp at h1 ⊢
                omega
              · rw [if_neg e]
                have h3 : takesN u (.take t :: r) = takesN u r := by
                  show (if t = u then 1 else 0) + takesN u r = _
                  rw [if_neg (fun z => e z.symm)]
                  omega
                have := ht u (by rw [h3]; exact hu)
                rw [h3] at this
                exact this
        | num n => exact ⟨{ s with pile := n :: s.pile }, rfl, by simp only [List.length_cons]; show _ = _ + (1 : Int); omega, rfl, ht⟩
        | kept k =>
          have hk : k < s.kept.length := pla
          refine ⟨{ s with pile := s.kept[k] :: s.pile }, by simp only [step, List.getElem?_eq_getElem hk], by simp only [List.length_cons]; show _ = _ + (1 : Int); omega, rfl, ht⟩
        | give t =>
          have c' : 1 ≤ s.pile.length := c
          match hpile : s.pile, c' with
          | x :: rs, _ => exact ⟨{ s with pile := rs, given := pushE s.given t x }, by simp only [step, hpile], by simp only [List.length_cons]; show _ = _ + (-1 : Int); omega, rfl, ht⟩
        | keep k =>
          have hk : k < s.kept.length := pla
          have c' : 1 ≤ s.pile.length := c
          match hpile : s.pile, c' with
          | x :: rs, _ => exact ⟨{ s with pile := rs, kept := s.kept.set k x }, by simp only [step, hpile, if_pos hk], by simp only [List.length_cons]; show _ = _ + (-1 : Int); omega, List.length_set, ht⟩
        | wrd w =>
          obtain ⟨pq, e1, e2⟩ := wstep_some (p := s.pile) oka c
          exact ⟨{ s with pile := pq }, by simp only [step, e1], e2, rfl, ht⟩
      obtain ⟨s1, e1, e2, e3, e4⟩ := key
      have e5 : ((s.pile.length : Int) + more a).toNat = s1.pile.length := by omega
      rw [e5] at h'
      obtain ⟨s', r1, r2, r3⟩ := run_of_lg r s1 q h' (fun x hx => ho x (List.mem_cons_of_mem _ hx)) (fun x hx => by rw [e3]; exact hp x (List.mem_cons_of_mem _ hx)) e4
      refine ⟨s', ?_, r2, r3.trans e3⟩
      show (match step s a with | some s' => runA s' r | none => none) = some s'
      rw [e1]
      exact r1
    · rw [if_neg c] at h'
      cases h'
end Tw

/-! _law_some_act -/
namespace Tw
open PySem PySem.Spec PyProof.Rows L2
theorem scSomeAct : FnScope ["_law_tape_here", "_law_pile", "_law_places", "_law_some", "_law_word"] ["_law_tape_here", "_law_pile", "_law_places"] (defScope (topS 13)) := ⟨rfl, rfl, rfl, by decide +kernel, rfl, by decide +kernel, by decide +kernel⟩
def actMid : Act → Prop
  | .take _ => False | .give _ => False | _ => True
/-- a pair of an act that may come at such a pile, and the pile behind it -/
def GoodE (pile places : Nat) (H : Hp) (v : V) : Prop := ∃ q a act, v = .ref q ∧ H q = some (.tup [.ref a, .int ((pile : Int) + more act)]) ∧ H a = some (.tup (actV act)) ∧ actOk act ∧ actMid act ∧ needs act ≤ pile ∧ plOk places act
theorem goodE_mono {pile places : Nat} : ∀ H H' v, KpT H H' → GoodE pile places H v → GoodE pile places H' v := by
  rintro H H' v k ⟨q, a, act, e, h1, h2, r⟩
  exact ⟨q, a, act, e, kpT_tup k h1, kpT_tup k h2, r⟩
theorem goodE_mk {pile places : Nat} {H H' : Hp} {q a : Addr} {act : Act} {p' : Int} (s : Same H H') (h1 : H a = some (.tup (actV act))) (h2 : H' q = some (.tup [.ref a, .int p'])) (hp : p' = (pile : Int) + more act) (h3 : actOk act) (h4 : actMid act) (h5 : needs act ≤ pile) (h6 : plOk places act) : GoodE pile places H' (.ref q) := by
  subst hp
  exact ⟨q, a, act, rfl, h2, s _ _ h1, h3, h4, h5, h6⟩
def spSomeAct : Sp := fun vs H Q _ => ∃ (t : Addr) (pile places n : Nat), vs = [.ref t, .int (pile : Int), .int (places : Int)] ∧ pile ≤ 100000 ∧ places ≤ 100000 ∧ Tape H t (n + 6) ∧
  ∀ v H', Kp t H H' → Tape H' t n → GoodE pile places H' v → Q v H'
/-- the list under way -/
def SomeI (t : Addr) (pile places n : Nat) (H : Hp) (b c : Nat) (σ : L2.St) (H' : Hp) : Prop := ∃ (L : Addr) (xs : List V) (y : Option V), σ = [some (.ref t), some (.int (pile : Int)), some (.int (places : Int)), some (.ref L), y] ∧ Kp t H H' ∧ Tape H' t (n + c) ∧ H L = none ∧ H' L = some (.lst xs) ∧ 0 < xs.length ∧ xs.length ≤ b ∧ ∀ v ∈ xs, GoodE pile places H' v
theorem SomeI.mono {t : Addr} {pile places n : Nat} {H H' : Hp} {b c b' c' : Nat} {σ : L2.St} (h : SomeI t pile places n H b c σ H') (hb : b ≤ b') (hc : c' ≤ c) : SomeI t pile places n H b' c' σ H' := by
  obtain ⟨L, xs, y, e, k, tp, nl, hl, h1, h2, h3⟩ := h
  exact ⟨L, xs, y, e, k, tp.mono (by omega), nl, hl, h1, by omega, h3⟩
section
variable {P : Program} {w : World} {K : PySem.W.Frag} {mg : Str → Option Value} {base : Heap}
theorem ok_some_act {f : Addr} {fd : FuncData} {k k1 : Nat} (g : Bl mg) (C_law_draw : Cal P w K mg base "_law_draw" k1 ["_law_tape_here", "_law_many_here"] spDraw) (hk : k1 ≤ k) (F : Fun K "_law_some_act" "_law_some_act" (topS 13) f fd) : FnOk P w K mg base CX0 (k + 1) f fd ["_law_tape_here", "_law_pile", "_law_places"] spSomeAct := by
  refine F.ok scSomeAct (fun vs H Q E h => ?_) (fun cdv A outer s H vs Q E hr h => ?_)
  · obtain ⟨t, pile, places, n, rfl, _⟩ := h
    rfl
  · obtain ⟨t, pile, places, n, rfl, hpi, hpl, hT, q⟩ := h
    refine ⟨_, (pss_cons (ps_set (i := 3) scSomeAct.nd rfl (Or.inl rfl) (pe_lstU (pa_cons (pe_tupU (pa_cons (pe_tupU (pa_cons pe_str (pa_cons (pe_ix ix_list (pe_lstU (pa_cons (pe_c C_law_draw hr hk (ha := (pa_cons (pv 0) (pa_cons pe_int pa_nil)))) (pa_cons (pe_c C_law_draw hr hk (ha := (pa_cons (pv 0) (pa_cons (pe_op op_pow pe_int pe_int) pa_nil)))) pa_nil))) (pe_c C_law_draw hr hk (ha := (pa_cons (pv 0) (pa_cons pe_int pa_nil)))) (fun _ _ => rfl)) pa_nil))) (pa_cons (pe_op op_add (pv 1) pe_int) pa_nil))) pa_nil)))
      (Evl.pss_cut (ps_if (pt_cmpR op_gt (pv 2) pe_int (nomark _))
        (pss_one (ps_expr (pe_bm PySem.F.plainAttrs_list PySem.F.slot_list_append PySem.F.type_list_append mt_append (pv 3) (pa_cons (pe_tupU (pa_cons (pe_tupU (pa_cons pe_str (pa_cons (pe_c C_law_draw hr hk (ha := (pa_cons (pv 0) (pa_cons (pv 2) pa_nil)))) pa_nil))) (pa_cons (pe_op op_add (pv 1) pe_int) pa_nil))) pa_nil))))
        pss_nil)
      (Evl.pss_cut (ps_if (pt_cmpR op_gt (pv 1) pe_int (nomark _))
        (pss_one (ps_set (i := 3) scSomeAct.nd rfl (Or.inl rfl) (pe_op op_catL (pv 3) (pe_lstU (pa_cons (pe_tupU (pa_cons (pe_tupU (pa_cons pe_str pa_nil)) (pa_cons (pe_op op_add (pv 1) pe_int) pa_nil))) (pa_cons (pe_tupU (pa_cons (pe_tupU (pa_cons pe_str pa_nil)) (pa_cons (pe_op op_sub (pv 1) pe_int) pa_nil))) pa_nil))))))
        pss_nil)
      (Evl.pss_cut (ps_if (PW.pt (pw_and (pt_cmpR op_gt (pv 1) pe_int (nomark _)) (pw_and1 (pt_cmpR op_gt (pv 2) pe_int (nomark _)))))
        (pss_one (ps_set (i := 3) scSomeAct.nd rfl (Or.inl rfl) (pe_op op_catL (pv 3) (pe_op op_repL (pe_lstU (pa_cons (pe_tupU (pa_cons (pe_tupU (pa_cons pe_str (pa_cons (pe_c C_law_draw hr hk (ha := (pa_cons (pv 0) (pa_cons (pv 2) pa_nil)))) pa_nil))) (pa_cons (pe_op op_sub (pv 1) pe_int) pa_nil))) pa_nil)) pe_int))))
        pss_nil)
      (Evl.pss_cut (ps_if (pt_cmpR op_gt (pv 1) pe_int (nomark _))
        (pss_one (ps_set (i := 3) scSomeAct.nd rfl (Or.inl rfl) (pe_op op_catL (pe_op op_catL (pv 3) (pe_lc (own := [("_law_word", 4)]) (g := (gName 4)) (tt := tYes) rfl scSomeAct.nd (pi_tup (pe_tupU (pa_cons pe_str (pa_cons pe_str (pa_cons pe_str (pa_cons pe_str pa_nil)))))) (blkOk_by (own := [("_law_word", 4)]) (N := ["_law_tape_here", "_law_pile", "_law_places", "_law_some", "_law_word"]) (sc := defScope (topS 13)) (by decide +kernel)) (fun _ _ _ _ _ => (pg_name (i := 4) scSomeAct.nd rfl (Or.inl rfl))) (fun _ _ _ _ _ => pts_nil) (fun _ _ _ _ _ => (pe_tupU (pa_cons (pe_tupU (pa_cons (pv 4) pa_nil)) (pa_cons (pe_op op_sub (pv 1) pe_int) pa_nil)))))) (pe_lstU (pa_cons (pe_tupU (pa_cons (pe_tupU (pa_cons pe_str pa_nil)) (pa_cons (pv 1) pa_nil))) pa_nil)))))
        pss_nil)
      (Evl.pss_cut (ps_if (pt_cmpR op_gt (pv 1) pe_int (nomark _))
        (pss_one (ps_set (i := 3) scSomeAct.nd rfl (Or.inl rfl) (pe_op op_catL (pv 3) (pe_op op_repL (pe_lstU (pa_cons (pe_tupU (pa_cons (pe_tupU (pa_cons pe_str pa_nil)) (pa_cons (pe_op op_sub (pv 1) pe_int) pa_nil))) pa_nil)) pe_int))))
        pss_nil)
      (pss_one (ps_ret (pe_ix ix_list (pv 3) (pe_c C_law_draw hr hk (ha := (pa_cons (pv 0) (pa_cons (pe_callB call_len_seq (by rfl) g.len PySem.boot_len (pa_cons (pv 3) pa_nil)) pa_nil)))) (fun _ _ => rfl)))))))))), ?_⟩
    have z1 : 1 ≤ 100000 := by decide
    have z2 : 2 ≤ 100000 := by decide
    have z4 : 4 ≤ 100000 := by decide
    -- the first one: a number
    refine ⟨_, rfl, t, 10, n + 5, rfl, by decide, by decide, hT, fun i1 H1 i10 i11 k1 t1 => ⟨_, rfl, 10, 6, rfl, rfl, ⟨by decide, by decide, by decide⟩, ?_⟩⟩
    refine ⟨t, 1000000, n + 4, rfl, by decide, by decide, t1, fun i2 H2 i20 i21 k2 t2 => ⟨z2, fun p3 H3 np3 s3 c3 => ?_⟩⟩
    refine ⟨_, rfl, t, 2, n + 3, rfl, by decide, by decide, tape_same s3 t2, fun i4 H4 i40 i41 k4 t4 => ?_⟩
    have h3t : p3 ≠ t := tape_ne t2 np3
    obtain ⟨v, hv, hvi⟩ : ∃ v : Int, atI [V.int i1, V.int i2] i4 = some (.int v) ∧ it v := by
      have : i4 = 0 ∨ i4 = 1 := by omega
      rcases this with rfl | rfl
      · exact ⟨i1, rfl, by constructor <;> omega⟩
      · exact ⟨i2, rfl, by constructor <;> omega⟩
    refine ⟨p3, _, i4, .int v, rfl, rfl, SqL.of (k4 _ _ h3t c3), hv, z2, fun a5 H5 na5 s5 c5 => ?_⟩
    refine ⟨_, rfl, _, _, rfl, rfl, z2, fun q6 H6 nq6 s6 c6 => ⟨z1, fun L7 H7 nl7 s7 c7 => ?_⟩⟩
    have t5 := tape_same s5 t4
    have t6 := tape_same s6 t5
    have t7 := tape_same s7 t6
    have k06 : Kp t H H6 := ((k1.trans k2).trans ((kp_same s3).trans k4)).trans ((kp_same s5).trans (kp_same s6))
    have first : SomeI t pile places n H 1 3 [some (.ref t), some (.int (pile : Int)), some (.int (places : Int)), some (.ref L7), none] H7 := by
      refine ⟨L7, _, _, rfl, k06.trans (kp_same s7), t7, kp_none k06 t6 nl7, c7, Nat.one_pos, Nat.le_refl _, fun v' hv' => ?_⟩
      rw [List.mem_singleton.mp hv']
      exact goodE_mono _ _ _ (kpT_same s7) (goodE_mk (act := .num v) s6 c5 c6 rfl hvi trivial (Nat.zero_le _) trivial)
    have hlt : L7 ≠ t := tape_ne t6 nl7
    clear s7 c7 nl7 nq6 s6 c6 s5 c5
    refine ⟨SomeI t pile places n H 2 2, ?_, ?_⟩
    · refine ⟨_, rfl, (places : Int), 0, rfl, rfl, _, rfl, ite2 (fun e => ?_) (fun e => first.mono (by decide) (by decide))⟩
      have e : (0 : Int) < (places : Int) := of_decide_eq_true e
      obtain ⟨L, xs, y, e0, k8, t8, nl, hl, l1, l2, l3⟩ := first
      cases e0
      refine ⟨_, rfl, .inl ⟨rfl, _, SqL.of hl⟩, _, rfl, _, rfl, t, (places : Int), n + 2, rfl, e, by omega, t8, fun i H9 i0 i1 k9 t9 => ⟨z2, fun a Ha na sa ca => ⟨_, rfl, _, _, rfl, rfl, z2, fun qb Hb nb sb cb => ?_⟩⟩⟩
      obtain ⟨i, rfl⟩ := Int.eq_ofNat_of_zero_le i0
      have hlb := sb _ _ (sa _ _ (k9 _ _ hlt hl))
      have tb := tape_same sb (tape_same sa t9)
      have kb : Kp t H Hb := k8.trans (k9.trans ((kp_same sa).trans (kp_same sb)))
      have kt : KpT Hb (upd Hb L7 (.lst (xs ++ [.ref qb]))) := kpT_lst hlb
      refine ⟨L7, xs, _, rfl, rfl, hlb, Nat.lt_of_le_of_lt l2 (by decide), L7, _, _, rfl, kp_mut kb nl, tape_lst (l := []) tb hlt, nl, upd_same, by rw [List.length_append]; omega, by rw [List.length_append]; exact Nat.succ_le_succ l2, fun v' hv' => ?_⟩
      rcases List.mem_append.mp hv' with hv' | hv'
      · exact goodE_mono _ _ _ (((kpT_kp k9 t8).trans ((kpT_same sa).trans (kpT_same sb))).trans kt) (l3 v' hv')
      · rw [List.mem_singleton.mp hv']
        exact goodE_mono _ _ _ kt (goodE_mk (act := .kept i) sb ca cb rfl trivial trivial (Nat.zero_le _) (by show i < places; omega))
    clear first
    rintro σ H8 I8
    refine ⟨SomeI t pile places n H 4 2, ?_, ?_⟩
    · obtain ⟨L, xs, y, rfl, k8, t8, nl, hl, l1, l2, l3⟩ := id I8
      refine ⟨_, rfl, (pile : Int), 0, rfl, rfl, _, rfl, ite2 (fun e => ?_) (fun e => I8.mono (by decide) (by decide))⟩
      have e : (0 : Int) < (pile : Int) := of_decide_eq_true e
      refine ⟨_, rfl, z1, fun a1 Ha1 na1 sa1 ca1 => ⟨_, rfl, _, _, rfl, rfl, z2, fun q1 Hb1 nb1 sb1 cb1 => ⟨z1, fun a2 Ha2 na2 sa2 ca2 => ⟨_, rfl, _, _, rfl, rfl, z2, fun q2 Hb2 nb2 sb2 cb2 => ⟨z2, fun L9 H9 n9 s9 c9 => ?_⟩⟩⟩⟩⟩
      have s89 : Same H8 H9 := fun b o h => s9 _ _ (sb2 _ _ (sa2 _ _ (sb1 _ _ (sa1 _ _ h))))
      refine ⟨L, L9, xs, _, rfl, rfl, s89 _ _ hl, c9, by show xs.length + 2 ≤ 100000; omega, fun p Hp np sp cp => ⟨p, _, _, rfl, (k8.trans (kp_same s89)).trans (kp_same sp), tape_same sp (tape_same s89 t8), kp_none (k8.trans (kp_same s89)) (tape_same s89 t8) np, cp, by rw [List.length_append]; omega, by rw [List.length_append]; exact Nat.add_le_add_right l2 2, fun v' hv' => ?_⟩⟩
      rcases List.mem_append.mp hv' with hv' | hv'
      · exact goodE_mono _ _ _ ((kpT_same s89).trans (kpT_same sp)) (l3 v' hv')
      · rcases List.mem_cons.mp hv' with rfl | hv'
        · exact goodE_mono _ _ _ (kpT_same fun b o h => sp _ _ (s9 _ _ (sb2 _ _ (sa2 _ _ h)))) (goodE_mk (act := .wrd "twice") sb1 ca1 cb1 rfl (show ("twice" : Str) ∈ words8 by decide) trivial (by show 1 ≤ pile; omega) trivial)
        · rw [List.mem_singleton.mp hv']
          exact goodE_mono _ _ _ (kpT_same fun b o h => sp _ _ (s9 _ _ h)) (goodE_mk (act := .wrd "drop") sb2 ca2 cb2 rfl (show ("drop" : Str) ∈ words8 by decide) trivial (by show 1 ≤ pile; omega) trivial)
    rintro σ H8 I8
    refine ⟨SomeI t pile places n H 6 1, ?_, ?_⟩
    · obtain ⟨L, xs, y, rfl, k8, t8, nl, hl, l1, l2, l3⟩ := id I8
      refine ⟨_, rfl, (pile : Int), 0, rfl, rfl, _, rfl, ite2 (fun e => ?_) (fun e => iteF (I8.mono (by decide) (by decide)))⟩
      have e : (0 : Int) < (pile : Int) := of_decide_eq_true e
      refine ⟨_, rfl, (places : Int), 0, rfl, rfl, _, rfl, ite2 (fun e2 => ?_) (fun e => I8.mono (by decide) (by decide))⟩
      have e2 : (0 : Int) < (places : Int) := of_decide_eq_true e2
      refine ⟨_, rfl, _, rfl, _, rfl, t, (places : Int), n + 1, rfl, e2, by omega, t8, fun i H9 i0 i1 k9 t9 => ⟨z2, fun a Ha na sa ca => ⟨_, rfl, _, _, rfl, rfl, z2, fun qb Hb nb sb cb => ⟨z1, fun Lc Hc nc sc cc => ?_⟩⟩⟩⟩
      obtain ⟨i, rfl⟩ := Int.eq_ofNat_of_zero_le i0
      refine ⟨Lc, 2, _, rfl, rfl, cc, by decide, by show 1 ≤ 1000; decide, fun Ld Hd nd sd cd => ?_⟩
      have hLt : L ≠ t := fun z => by
        obtain ⟨_, _, _, e', _⟩ := hT
        rw [z, e'] at nl
        cases nl
      have s9d : Same H9 Hd := fun b o h => sd _ _ (sc _ _ (sb _ _ (sa _ _ h)))
      have kd : Kp t H Hd := k8.trans (k9.trans (kp_same s9d))
      have td := tape_same s9d t9
      refine ⟨L, Ld, xs, _, rfl, rfl, s9d _ _ (k9 _ _ hLt hl), cd, by show xs.length + 2 ≤ 100000; omega, fun p Hp np sp cp => ⟨p, _, _, rfl, kd.trans (kp_same sp), tape_same sp td, kp_none kd td np, cp, by rw [List.length_append]; omega, by rw [List.length_append]; exact Nat.add_le_add_right l2 2, fun v' hv' => ?_⟩⟩
      rcases List.mem_append.mp hv' with hv' | hv'
      · exact goodE_mono _ _ _ ((kpT_kp k9 t8).trans ((kpT_same s9d).trans (kpT_same sp))) (l3 v' hv')
      · have ev : v' = .ref qb := by
          rcases List.mem_cons.mp hv' with rfl | hv'
          · rfl
          · exact List.mem_singleton.mp hv'
        rw [ev]
        exact goodE_mono _ _ _ (kpT_same fun b o h => sp _ _ (sd _ _ (sc _ _ h))) (goodE_mk (act := .keep i) sb ca cb rfl trivial trivial (by show 1 ≤ pile; omega) (by show i < places; omega))
    rintro σ H8 I8
    refine ⟨SomeI t pile places n H 11 1, ?_, ?_⟩
    · obtain ⟨L, xs, y, rfl, k8, t8, nl, hl, l1, l2, l3⟩ := id I8
      refine ⟨_, rfl, (pile : Int), 1, rfl, rfl, _, rfl, ite2 (fun e => ?_) (fun e => I8.mono (by decide) (by decide))⟩
      have e : (1 : Int) < (pile : Int) := of_decide_eq_true e
      have hLt : L ≠ t := fun z => by
        obtain ⟨_, _, _, e', _⟩ := hT
        rw [z, e'] at nl
        cases nl
      refine ⟨_, rfl, z4, fun T9 H9 n9 s9 c9 => ⟨T9, rfl, ⟨_, SqT.of c9⟩, fun D nD => ?_⟩⟩
      have t9 := tape_same s9 t8
      refine lcU_tup (xs := _) (GoodE pile places) goodE_mono 0 (n + 1) (by show 4 ≤ 100000; decide) nD t9 (SqT.of c9) ?_ ?_
      · intro i x H10 R hx k10 t10 hR
        obtain ⟨wd, rfl, hw, hn, hm⟩ : ∃ wd, x = .str wd ∧ wd ∈ words8 ∧ needW wd = 2 ∧ moreW wd = -1 := by
          have := List.mem_of_getElem? hx
          simp only [List.mem_cons, List.not_mem_nil, or_false] at this
          rcases this with rfl | rfl | rfl | rfl <;> exact ⟨_, rfl, by decide, by decide, by decide⟩
        refine ⟨rfl, _, rfl, z1, fun a Ha na sa ca => ⟨_, rfl, _, _, rfl, rfl, z2, fun qb Hb nb sb cb => hR _ _ ((kp_same sa).trans (kp_same sb)) (tape_same sb (tape_same sa t10)) ?_⟩⟩
        exact goodE_mk (act := .wrd wd) sb ca cb (by show _ = _ + moreW wd; rw [hm]; rfl) hw trivial (by show needW wd ≤ pile; omega) trivial
      · intro H10 acc k10 t10 cD lacc hacc
        refine ⟨L, D, xs, acc, rfl, rfl, ?_, cD, by rw [lacc]; show xs.length + 4 ≤ 100000; omega, fun p Hp np sp cp => ?_⟩
        · exact k10 _ _ hLt (s9 _ _ hl)
        have kp : Kp t H Hp := k8.trans ((kp_same s9).trans (k10.trans (kp_same sp)))
        have tpp := tape_same sp t10
        refine ⟨z1, fun a Ha na sa ca => ⟨_, rfl, z2, fun qb Hb nb sb cb => ⟨z1, fun Lc Hc nc sc cc => ?_⟩⟩⟩
        have spc : Same Hp Hc := fun b o h => sc _ _ (sb _ _ (sa _ _ h))
        have kc := kp.trans (kp_same spc)
        have tc := tape_same spc tpp
        refine ⟨p, Lc, _, _, rfl, rfl, spc _ _ cp, cc, by rw [List.length_append, lacc]; show xs.length + 4 + 1 ≤ 100000; omega, fun pz Hz nz sz cz => ⟨pz, _, _, rfl, kc.trans (kp_same sz), tape_same sz tc, kp_none kc tc nz, cz, by rw [List.length_append, List.length_append]; omega, by rw [List.length_append, List.length_append, lacc]; exact Nat.add_le_add_right l2 5, fun v' hv' => ?_⟩⟩
        have kpz : KpT Hp Hz := (kpT_same spc).trans (kpT_same sz)
        rcases List.mem_append.mp hv' with hv' | hv'
        · rcases List.mem_append.mp hv' with hv' | hv'
          · exact goodE_mono _ _ _ ((kpT_same s9).trans ((kpT_kp k10 t9).trans ((kpT_same sp).trans kpz))) (l3 v' hv')
          · exact goodE_mono _ _ _ ((kpT_same sp).trans kpz) (hacc v' hv')
        · rw [List.mem_singleton.mp hv']
          exact goodE_mono _ _ _ (kpT_same fun b o h => sz _ _ (sc _ _ h)) (goodE_mk (act := .wrd "swap") sb ca cb (by show _ = _ + (0 : Int); omega) (show ("swap" : Str) ∈ words8 by decide) trivial (by show 2 ≤ pile; omega) trivial)
    rintro σ H8 I8
    refine ⟨SomeI t pile places n H 13 1, ?_, ?_⟩
    · obtain ⟨L, xs, y, rfl, k8, t8, nl, hl, l1, l2, l3⟩ := id I8
      refine ⟨_, rfl, (pile : Int), 2, rfl, rfl, _, rfl, ite2 (fun e => ?_) (fun e => I8.mono (by decide) (by decide))⟩
      have e : (2 : Int) < (pile : Int) := of_decide_eq_true e
      refine ⟨_, rfl, z1, fun a Ha na sa ca => ⟨_, rfl, _, _, rfl, rfl, z2, fun qb Hb nb sb cb => ⟨z1, fun Lc Hc nc sc cc => ?_⟩⟩⟩
      refine ⟨Lc, 2, _, rfl, rfl, cc, by decide, by show 1 ≤ 1000; decide, fun Ld Hd nd sd cd => ?_⟩
      have s8d : Same H8 Hd := fun b o h => sd _ _ (sc _ _ (sb _ _ (sa _ _ h)))
      have kd : Kp t H Hd := k8.trans (kp_same s8d)
      have td := tape_same s8d t8
      refine ⟨L, Ld, xs, _, rfl, rfl, s8d _ _ hl, cd, by show xs.length + 2 ≤ 100000; omega, fun p Hp np sp cp => ⟨p, _, _, rfl, kd.trans (kp_same sp), tape_same sp td, kp_none kd td np, cp, by rw [List.length_append]; omega, by rw [List.length_append]; exact Nat.add_le_add_right l2 2, fun v' hv' => ?_⟩⟩
      rcases List.mem_append.mp hv' with hv' | hv'
      · exact goodE_mono _ _ _ ((kpT_same s8d).trans (kpT_same sp)) (l3 v' hv')
      · have ev : v' = .ref qb := by
          rcases List.mem_cons.mp hv' with rfl | hv'
          · rfl
          · exact List.mem_singleton.mp hv'
        rw [ev]
        exact goodE_mono _ _ _ (kpT_same fun b o h => sp _ _ (sd _ _ (sc _ _ h))) (goodE_mk (act := .wrd "pick") sb ca cb rfl (show ("pick" : Str) ∈ words8 by decide) trivial (by show 3 ≤ pile; omega) trivial)
    rintro σ H8 ⟨L, xs, y, rfl, k8, t8, nl, hl, l1, l2, l3⟩
    refine ⟨_, rfl, _, rfl, _, rfl, L, xs, rfl, .inl (SqL.of hl), t, (xs.length : Int), n, rfl, by omega, by omega, t8, fun i H9 i0 i1 k9 t9 => ?_⟩
    obtain ⟨i, rfl⟩ := Int.eq_ofNat_of_zero_le i0
    have hi : i < xs.length := by omega
    have hLt : L ≠ t := fun z => by
      obtain ⟨_, _, _, e', _⟩ := hT
      rw [z, e'] at nl
      cases nl
    refine ⟨L, xs, (i : Int), xs[i], rfl, rfl, SqL.of (k9 _ _ hLt hl), atI_nat (List.getElem?_eq_getElem hi), q _ _ (k8.trans k9) t9 (goodE_mono _ _ _ (kpT_kp k9 t8) (l3 _ (List.getElem_mem hi)))⟩
end
end Tw

/-! a code under way: heap and plain law; lists of names beside [] -/
namespace Tw
open PySem PySem.Spec PyProof.Rows L2
theorem isnm_ok {z : Str} (h : IsNm z) : PyData.strOk z = true := by
  unfold PyData.strOk
  rw [Array.all_eq_true']
  intro c hc
  have := (h.2.2 c (by simpa using hc)).2
  exact decide_eq_true (by omega)
theorem canLay_strs : ∀ zs : List Str, (∀ z ∈ zs, IsNm z) → PyData.canLayAll0 (zs.map PyData.str) = true
  | [], _ => rfl
  | z :: r, h => by
    show (PyData.strOk z && PyData.canLayAll0 (r.map PyData.str)) = true
    rw [isnm_ok (h z List.mem_cons_self), canLay_strs r fun x hx => h x (List.mem_cons_of_mem _ hx)]
    rfl
theorem depth_strs : ∀ zs : List Str, PyData.depthAll (zs.map PyData.str) ≤ 1
  | [] => by simp [PyData.depthAll]
  | z :: r => by
    have := depth_strs r
    simp [PyData.depthAll, PyData.depth]
    try omega
theorem shaped_strs {zs : List Str} (h : ∀ z ∈ zs, IsNm z) : SeqAt.shaped (.list (zs.map PyData.str)) = true := by
  unfold SeqAt.shaped
  rw [Bool.and_eq_true_iff]
  refine ⟨canLay_strs zs h, decide_eq_true ?_⟩
  have := depth_strs zs
  simp only [PyData.depth]
  omega
theorem dpa_strs {K : PySem.W.Frag} {H : Hp} : ∀ zs : List Str, DpAll K H (zs.map V.str) (zs.map PyData.str)
  | [] => .nil
  | z :: r => .cons (.str z) (dpa_strs r)
section
variable {X : Cx}
/-- a list of names beside [] -/
def rNil (f : Bool → Bool) : R2 := fun x y H Q => ∃ (a b : Addr) (zs : List Str), x = .ref a ∧ y = .ref b ∧ H a = some (.lst (zs.map V.str)) ∧ H b = some (.lst []) ∧ (∀ z ∈ zs, IsNm z) ∧ Q (.bl (f (decide (zs = [])))) H
theorem eqv_nil (zs : List Str) : PyData.eqv (.list (zs.map PyData.str)) (.list []) = decide (zs = []) := by
  cases zs with
  | nil => rfl
  | cons z r => rfl
theorem op_eqN (hu : X.A.units + 64 < cLine) : OpR X (compareOp .Eq) (rNil id) := fun pins s σ H x y v u Q I rx ry h => by
  obtain ⟨a, b, zs, rfl, rfl, ha, hb, hz, q⟩ := h
  refine op_eqD hu pins s σ H _ _ v u Q I rx ry ⟨.list (zs.map PyData.str), .list [], .lst (SqL.of ha) (dpa_strs zs), .lst (SqL.of hb) .nil, shaped_strs hz, rfl, ?_⟩
  rw [eqv_nil]
  exact q
theorem op_neN (hu : X.A.units + 64 < cLine) : OpR X (compareOp .NotEq) (rNil not) := fun pins s σ H x y v u Q I rx ry h => by
  obtain ⟨a, b, zs, rfl, rfl, ha, hb, hz, q⟩ := h
  refine op_neD hu pins s σ H _ _ v u Q I rx ry ⟨.list (zs.map PyData.str), .list [], .lst (SqL.of ha) (dpa_strs zs), .lst (SqL.of hb) .nil, shaped_strs hz, rfl, ?_⟩
  rw [eqv_nil]
  exact q
/-- pop(i) of a list of texts -/
def rPopS : V → List V → Hp → VK → Prop := fun x vs H Q => ∃ (l : Addr) (zs : List Str) (i : Nat) (hi : i < zs.length), x = .ref l ∧ vs = [.int (i : Int)] ∧ H l = some (.lst (zs.map V.str)) ∧ zs.length ≤ 100000 ∧ Q (.str zs[i]) (upd H l (.lst ((zs.eraseIdx i).map V.str)))
theorem map_eraseIdx' {α β : Type} (f : α → β) : ∀ (l : List α) (k : Nat), (l.map f).eraseIdx k = (l.eraseIdx k).map f
  | [], _ => rfl
  | _ :: _, 0 => rfl
  | x :: r, k + 1 => by
    show f x :: (r.map f).eraseIdx k = f x :: (r.eraseIdx k).map f
    rw [map_eraseIdx' f r k]
theorem mt_popS : MtM X "list.pop" rPopS := fun pins s σ H x vs v us Q I rx rv h => by
  obtain ⟨l, zs, i, hi, rfl, rfl, hl, hz, q⟩ := h
  refine mt_popAt pins s σ H _ _ v us Q I rx rv ⟨l, zs.map V.str, (i : Int), i, .str zs[i], rfl, rfl, hl, by omega, by omega, ?_, ?_, ?_⟩
  · rw [List.length_map]
    have := seqIndex_of (k := (i : Int)) (n := zs.length) (by omega) (by omega)
    rw [this]
    rfl
  · rw [List.getElem?_map, List.getElem?_eq_getElem hi]
    rfl
  · rw [map_eraseIdx']
    exact q
end
/-! ### heap -/
def ActP (H : Hp) (v : V) (a : Act) : Prop := ∃ q, v = .ref q ∧ H q = some (.tup (actV a))
theorem actP_mono {H H' : Hp} (k : KpT H H') {v : V} {a : Act} (h : ActP H v a) : ActP H' v a := by
  obtain ⟨q, e, h⟩ := h
  exact ⟨q, e, kpT_tup k h⟩
structure CoH (t L1 L2 L3 : Addr) (H H' : Hp) (left outs : List Str) (xs : List V) (acts : List Act) (b : Nat) : Prop where
  kp : Kp t H H'
  tp : Tape H' t b
  l1 : H' L1 = some (.lst (left.map V.str))
  l2 : H' L2 = some (.lst (outs.map V.str))
  l3 : H' L3 = some (.lst xs)
  pa : Paired (ActP H') xs acts
/-- three new lists -/
structure Tri (t L1 L2 L3 : Addr) (H : Hp) : Prop where
  n1 : H L1 = none
  n2 : H L2 = none
  n3 : H L3 = none
  d1 : L1 ≠ t
  d2 : L2 ≠ t
  d3 : L3 ≠ t
  e12 : L1 ≠ L2
  e13 : L1 ≠ L3
  e23 : L2 ≠ L3
section
variable {t L1 L2 L3 : Addr} {H H' H'' : Hp} {left outs : List Str} {xs : List V} {acts : List Act} {b b' : Nat}
theorem CoH.step (T : Tri t L1 L2 L3 H) (h : CoH t L1 L2 L3 H H' left outs xs acts b) (k : Kp t H' H'') (tp : Tape H'' t b') : CoH t L1 L2 L3 H H'' left outs xs acts b' :=
  ⟨h.kp.trans k, tp, k _ _ T.d1 h.l1, k _ _ T.d2 h.l2, k _ _ T.d3 h.l3, h.pa.mono fun _ _ => actP_mono (kpT_kp k h.tp)⟩
theorem CoH.same (T : Tri t L1 L2 L3 H) (h : CoH t L1 L2 L3 H H' left outs xs acts b) (k : Same H' H'') : CoH t L1 L2 L3 H H'' left outs xs acts b := h.step T (kp_same k) (tape_same k h.tp)
theorem CoH.mono (h : CoH t L1 L2 L3 H H' left outs xs acts b) (l : b' ≤ b) : CoH t L1 L2 L3 H H' left outs xs acts b' := ⟨h.kp, h.tp.mono l, h.l1, h.l2, h.l3, h.pa⟩
theorem CoH.push {q : Addr} {a : Act} (T : Tri t L1 L2 L3 H) (h : CoH t L1 L2 L3 H H' left outs xs acts b) (hq : H' q = some (.tup (actV a))) : CoH t L1 L2 L3 H (upd H' L3 (.lst (xs ++ [.ref q]))) left outs (xs ++ [.ref q]) (acts ++ [a]) b := by
  have kk : KpT H' (upd H' L3 (.lst (xs ++ [.ref q]))) := kpT_lst h.l3
  exact ⟨kp_mut h.kp T.n3, tape_lst (l := []) h.tp T.d3, by rw [upd_ne T.e13]; exact h.l1, by rw [upd_ne T.e23]; exact h.l2, upd_same, (h.pa.mono fun _ _ => actP_mono kk).snoc ⟨q, rfl, kpT_tup kk hq⟩⟩
theorem CoH.pop1 {i : Nat} (T : Tri t L1 L2 L3 H) (h : CoH t L1 L2 L3 H H' left outs xs acts b) : CoH t L1 L2 L3 H (upd H' L1 (.lst ((left.eraseIdx i).map V.str))) (left.eraseIdx i) outs xs acts b :=
  ⟨kp_mut h.kp T.n1, tape_lst (l := []) h.tp T.d1, upd_same, by rw [upd_ne T.e12.symm]; exact h.l2, by rw [upd_ne T.e13.symm]; exact h.l3, h.pa.mono fun _ _ => actP_mono (kpT_lst h.l1)⟩
theorem CoH.pop2 {i : Nat} (T : Tri t L1 L2 L3 H) (h : CoH t L1 L2 L3 H H' left outs xs acts b) : CoH t L1 L2 L3 H (upd H' L2 (.lst ((outs.eraseIdx i).map V.str))) left (outs.eraseIdx i) xs acts b :=
  ⟨kp_mut h.kp T.n2, tape_lst (l := []) h.tp T.d2, by rw [upd_ne T.e12]; exact h.l1, upd_same, by rw [upd_ne T.e23.symm]; exact h.l3, h.pa.mono fun _ _ => actP_mono (kpT_lst h.l2)⟩
end
/-! ### plain -/
def givesN (t : Str) : List Act → Nat
  | [] => 0
  | .give u :: r => (if u = t then 1 else 0) + givesN t r
  | _ :: r => givesN t r
theorem takesN_app (z : Str) : ∀ (as : List Act) (a : Act), takesN z (as ++ [a]) = takesN z as + takesN z [a]
  | [], a => by simp [takesN]
  | b :: r, a => by
    have ih := takesN_app z r a
    cases b <;> simp only [List.cons_append, takesN, ih] <;> omega
theorem givesN_app (z : Str) : ∀ (as : List Act) (a : Act), givesN z (as ++ [a]) = givesN z as + givesN z [a]
  | [], a => by simp [givesN]
  | b :: r, a => by
    have ih := givesN_app z r a
    cases b <;> simp only [List.cons_append, givesN, ih] <;> omega
theorem count_erase (z : Str) : ∀ (l : List Str) (i : Nat) (h : i < l.length), l.count z = (l.eraseIdx i).count z + (if l[i] = z then 1 else 0)
  | x :: r, 0, _ => by
    show (x :: r).count z = r.count z + (if x = z then 1 else 0)
    rw [List.count_cons]
    congr 1
    by_cases e : x = z <;> simp [e]
  | x :: r, i + 1, h => by
    have h' : i < r.length := Nat.lt_of_succ_lt_succ h
    have ih := count_erase z r i h'
    show (x :: r).count z = (x :: r.eraseIdx i).count z + (if r[i] = z then 1 else 0)
    rw [List.count_cons, List.count_cons, ih]
    omega
structure CoP (takes gives : List Str) (places B : Nat) (left outs : List Str) (acts : List Act) (pile : Nat) : Prop where
  lg : lg 0 acts = some pile
  ok : ∀ a ∈ acts, actOk a ∧ plOk places a
  ct : ∀ z, takesN z acts + left.count z = takes.count z
  cg : ∀ z, givesN z acts + outs.count z = gives.count z
  len : acts.length + 2 * (left.length + outs.length) ≤ B
  nt : ∀ z ∈ left, IsNm z
  ng : ∀ z ∈ outs, IsNm z
  pl : pile ≤ acts.length
theorem more_le {a : Act} : more a ≤ 1 := by
  cases a with
  | wrd w =>
    show moreW w ≤ 1
    unfold moreW
    repeat' split
    all_goals decide
  | take t => exact Int.le_refl 1
  | num t => exact Int.le_refl 1
  | kept t => exact Int.le_refl 1
  | give t => show (-1 : Int) ≤ 1; decide
  | keep t => show (-1 : Int) ≤ 1; decide
section
variable {takes gives left outs : List Str} {places B pile : Nat} {acts : List Act}
theorem CoP.mid {a : Act} (h : CoP takes gives places B left outs acts pile) (hB : acts.length + 2 * (left.length + outs.length) + 1 ≤ B') (ha : actOk a) (hm : actMid a) (hn : needs a ≤ pile) (hp : plOk places a) : CoP takes gives places B' left outs (acts ++ [a]) ((pile : Int) + more a).toNat := by
  refine ⟨lg_snoc acts 0 pile a h.lg hn, fun x hx => ?_, fun z => ?_, fun z => ?_, ?_, h.nt, h.ng, ?_⟩
  · rcases List.mem_append.mp hx with hx | hx
    · exact h.ok x hx
    · rw [List.mem_singleton.mp hx]
      exact ⟨ha, hp⟩
  · rw [takesN_app, ← h.ct z]
    have : takesN z [a] = 0 := by cases a <;> first | rfl | exact hm.elim
    omega
  · rw [givesN_app, ← h.cg z]
    have : givesN z [a] = 0 := by cases a <;> first | rfl | exact hm.elim
    omega
  · rw [List.length_append, List.length_singleton]
    omega
  · have := h.pl
    have := more_le (a := a)
    rw [List.length_append, List.length_singleton]
    omega
theorem CoP.take {i : Nat} (h : CoP takes gives places B left outs acts pile) (hi : i < left.length) : CoP takes gives places B (left.eraseIdx i) outs (acts ++ [.take left[i]]) (pile + 1) := by
  refine ⟨lg_snoc acts 0 pile (.take left[i]) h.lg (Nat.zero_le _), fun x hx => ?_, fun z => ?_, fun z => ?_, ?_, fun z hz => h.nt z (List.mem_of_mem_eraseIdx hz), h.ng, ?_⟩
  · rcases List.mem_append.mp hx with hx | hx
    · exact h.ok x hx
    · rw [List.mem_singleton.mp hx]
      exact ⟨trivial, trivial⟩
  · rw [takesN_app, ← h.ct z, count_erase z left i hi]
    have : takesN z [.take left[i]] = (if left[i] = z then 1 else 0) := rfl
    omega
  · rw [givesN_app, ← h.cg z]
    rfl
  · have h1 := h.len
    rw [List.length_append, List.length_singleton, List.length_eraseIdx_of_lt hi]
    omega
  · have := h.pl
    rw [List.length_append, List.length_singleton]
    omega
theorem CoP.give {i : Nat} (h : CoP takes gives places (B + 1) left outs acts pile) (hp : 0 < pile) (hi : i < outs.length) : CoP takes gives places B left (outs.eraseIdx i) (acts ++ [.give outs[i]]) (pile - 1) := by
  refine ⟨?_, fun x hx => ?_, fun z => ?_, fun z => ?_, ?_, h.nt, fun z hz => h.ng z (List.mem_of_mem_eraseIdx hz), ?_⟩
  · rw [lg_snoc acts 0 pile (.give outs[i]) h.lg hp]
    congr 1
    show ((pile : Int) + (-1)).toNat = pile - 1
    omega
  · rcases List.mem_append.mp hx with hx | hx
    · exact h.ok x hx
    · rw [List.mem_singleton.mp hx]
      exact ⟨trivial, trivial⟩
  · rw [takesN_app, ← h.ct z]
    have : takesN z [.give outs[i]] = 0 := rfl
    omega
  · rw [givesN_app, ← h.cg z, count_erase z outs i hi]
    have : givesN z [.give outs[i]] = (if outs[i] = z then 1 else 0) := rfl
    omega
  · have h1 := h.len
    rw [List.length_append, List.length_singleton, List.length_eraseIdx_of_lt hi]
    omega
  · have := h.pl
    rw [List.length_append, List.length_singleton]
    omega
end
end Tw

/-! _law_code_of -/
namespace Tw
open PySem PySem.Spec PyProof.Rows L2
theorem scCodeOf : FnScope ["_law_tape_here", "_law_takes", "_law_gives", "_law_places", "_law_left", "_law_outs", "_law_acts", "_law_pile", "_law_k", "_law_own", "_law_act"] ["_law_tape_here", "_law_takes", "_law_gives", "_law_places"] (defScope (topS 14)) := ⟨rfl, rfl, rfl, by decide +kernel, rfl, by decide +kernel, by decide +kernel⟩
/-- a drawn code: a tuple of acts, of which none lacks numbers; it takes and gives just these -/
structure CodeOf (K : PySem.W.Frag) (H : Hp) (p : Addr) (takes gives : List Str) (places : Nat) (xs : List V) (acts : List Act) : Prop where
  sq : SqT K H p xs
  pa : Paired (ActP H) xs acts
  lg : ∃ pile, lg 0 acts = some pile
  ok : ∀ a ∈ acts, actOk a ∧ plOk places a
  ct : ∀ z, takesN z acts = takes.count z
  cg : ∀ z, givesN z acts = gives.count z
  len : acts.length ≤ max 23 (2 * (takes.length + gives.length))
def spCodeOf (K : PySem.W.Frag) : Sp := fun vs H Q _ => ∃ (t a b : Addr) (takes gives : List Str) (places n : Nat), vs = [.ref t, .ref a, .ref b, .int (places : Int)] ∧ H a = some (.lst (takes.map V.str)) ∧ H b = some (.lst (gives.map V.str)) ∧ takes.length ≤ 1000 ∧ gives.length ≤ 1000 ∧ places ≤ 100000 ∧ (∀ z ∈ takes, IsNm z) ∧ (∀ z ∈ gives, IsNm z) ∧
  Tape H t (n + 11 * (takes.length + gives.length)) ∧ ∀ p H' xs acts, Kp t H H' → Tape H' t n → CodeOf K H' p takes gives places xs acts → Q (.ref p) H'
theorem strs_ne {H : Hp} {t a : Addr} {n : Nat} {zs : List Str} (h : Tape H t n) (ha : H a = some (.lst (zs.map V.str))) : a ≠ t := fun e => by
  obtain ⟨x, y, z, e', _⟩ := h
  rw [e, e'] at ha
  cases zs with
  | nil => cases ha
  | cons w r =>
    rw [List.map_cons] at ha
    injection ha with ha
    injection ha with ha
    injection ha with ha
    cases ha
/-- what a test comes to is told by R, then gone on with -/
def tCutT (tt : TT) : TT := fun σ H Q => ∃ R : Bool → Hp → Prop, tt σ H R ∧ ∀ b H', R b H' → Q b H'
theorem pt_cut {X : Cx} {e : Expr} {tt : TT} (he : PT X e tt) : PT X e (tCutT tt) := by
  refine ⟨fun pins s σ H Q I h => ?_⟩
  obtain ⟨R, h1, h2⟩ := h
  exact thn (he.run pins s σ H R I h1) fun v s1 ⟨H1, I1, q1⟩ => ⟨H1, I1, h2 v H1 q1⟩
theorem fresh_of {H H' : Hp} {p : Addr} (s : Same H H') (h : H' p = none) : H p = none := by
  cases e : H p with
  | none => rfl
  | some o =>
    rw [s p o e] at h
    cases h
section
variable {P : Program} {w : World} {K : PySem.W.Frag} {mg : Str → Option Value} {base : Heap}
theorem ok_code_of {f : Addr} {fd : FuncData} {k k1 k2 : Nat} (g : Bl mg) (C_law_draw : Cal P w K mg base "_law_draw" k1 ["_law_tape_here", "_law_many_here"] spDraw) (C_law_some_act : Cal P w K mg base "_law_some_act" k2 ["_law_tape_here", "_law_pile", "_law_places"] spSomeAct) (hk : k1 ≤ k) (hk2 : k2 ≤ k) (F : Fun K "_law_code_of" "_law_code_of" (topS 14) f fd) : FnOk P w K mg base CX0 (k + 1) f fd ["_law_tape_here", "_law_takes", "_law_gives", "_law_places"] (spCodeOf K) := by
  refine F.ok scCodeOf (fun vs H Q E h => ?_) (fun cdv A outer s H vs Q E hr h => ?_)
  · obtain ⟨t, a, b, takes, gives, places, n, rfl, _⟩ := h
    rfl
  · obtain ⟨t, a, b, takes, gives, places, n, rfl, ha, hb, lt, lg', hpl, nt, ng, hT, q⟩ := h
    refine ⟨_, (pss_cons (ps_asg (pe_tupU (pa_cons (pe_callTy call_lstU (by rfl) g.list PyProof.Rows.boot_list (pa_cons (pv 1) pa_nil)) (pa_cons (pe_callTy call_lstU (by rfl) g.list PyProof.Rows.boot_list (pa_cons (pv 2) pa_nil)) (pa_cons (pe_lstU pa_nil) (pa_cons pe_int pa_nil))))) (pg_tup rfl (pgs_cons (pg_name (i := 4) scCodeOf.nd rfl (Or.inl rfl)) (pgs_cons (pg_name (i := 5) scCodeOf.nd rfl (Or.inl rfl)) (pgs_cons (pg_name (i := 6) scCodeOf.nd rfl (Or.inl rfl)) (pgs_cons (pg_name (i := 7) scCodeOf.nd rfl (Or.inl rfl)) pgs_nil))))))
      (pss_cons (ps_for PassesOwn.never rfl (pi_range1 (by rfl) g.range (pa_cons (pe_op op_add (pe_callB call_len_seq (by rfl) g.len PySem.boot_len (pa_cons (pv 1) pa_nil)) (pe_callB call_len_seq (by rfl) g.len PySem.boot_len (pa_cons (pv 2) pa_nil))) pa_nil)) (pg_name (i := 8) scCodeOf.nd rfl (Or.inl rfl))
        (Evl.pss_cut (ps_if (pt_cut (PW.pt (pw_and (pt_cmpR (op_neN hr.units) (pv 5) (pe_lstU pa_nil) (nomark _)) (pw_and1 (PW.pt (pw_or (pt_cmpR (op_eqN hr.units) (pv 4) (pe_lstU pa_nil) (nomark _)) (pw_or1 (pt_cmpR op_eq (pe_c C_law_draw hr hk (ha := (pa_cons (pv 0) (pa_cons pe_int pa_nil)))) pe_int (nomark _)))))))))
          (Evl.pss_cut (ps_if (pt_cmpR op_eq (pv 7) pe_int (nomark _))
            (pss_cons (ps_set (i := 9) scCodeOf.nd rfl (Or.inl rfl) (pe_cut (pe_and (pe_cmpR op_gt (pv 3) pe_int (nomark _)) (pe_one (pe_cmpR op_eq (pe_c C_law_draw hr hk (ha := (pa_cons (pv 0) (pa_cons pe_int pa_nil)))) pe_int (nomark _))))))
            (pss_cons (ps_expr (pe_bm PySem.F.plainAttrs_list PySem.F.slot_list_append PySem.F.type_list_append mt_append (pv 6) (pa_cons (pe_cut (pe_ifExp (pt_val (pv 9)) (pe_tupU (pa_cons pe_str (pa_cons pe_int pa_nil))) (pe_tupU (pa_cons pe_str (pa_cons (pe_c C_law_draw hr hk (ha := (pa_cons (pv 0) (pa_cons pe_int pa_nil)))) pa_nil))))) pa_nil)))
            (pss_one (ps_set (i := 7) scCodeOf.nd rfl (Or.inl rfl) pe_int))))
            pss_nil)
          (pss_cons (ps_expr (pe_bm PySem.F.plainAttrs_list PySem.F.slot_list_append PySem.F.type_list_append mt_append (pv 6) (pa_cons (pe_tupU (pa_cons pe_str (pa_cons (pe_bm PySem.F.plainAttrs_list PySem.F.slot_list_pop PySem.F.type_list_pop mt_popS (pv 5) (pa_cons (pe_c C_law_draw hr hk (ha := (pa_cons (pv 0) (pa_cons (pe_callB call_len_seq (by rfl) g.len PySem.boot_len (pa_cons (pv 5) pa_nil)) pa_nil)))) pa_nil)) pa_nil))) pa_nil)))
          (pss_one (ps_set (i := 7) scCodeOf.nd rfl (Or.inl rfl) (pe_op op_sub (pv 7) pe_int)))))
          (pss_cons (ps_expr (pe_bm PySem.F.plainAttrs_list PySem.F.slot_list_append PySem.F.type_list_append mt_append (pv 6) (pa_cons (pe_tupU (pa_cons pe_str (pa_cons (pe_bm PySem.F.plainAttrs_list PySem.F.slot_list_pop PySem.F.type_list_pop mt_popS (pv 4) (pa_cons (pe_c C_law_draw hr hk (ha := (pa_cons (pv 0) (pa_cons (pe_callB call_len_seq (by rfl) g.len PySem.boot_len (pa_cons (pv 4) pa_nil)) pa_nil)))) pa_nil)) pa_nil))) pa_nil)))
          (pss_one (ps_set (i := 7) scCodeOf.nd rfl (Or.inl rfl) (pe_op op_add (pv 7) pe_int)))))
        (pss_one (ps_if (pt_cut (PW.pt (pw_and (pt_cmpR op_lt (pe_callB call_len_seq (by rfl) g.len PySem.boot_len (pa_cons (pv 6) pa_nil)) (pe_op op_sub pe_int (pe_op op_mul pe_int (pe_op op_add (pe_callB call_len_seq (by rfl) g.len PySem.boot_len (pa_cons (pv 4) pa_nil)) (pe_callB call_len_seq (by rfl) g.len PySem.boot_len (pa_cons (pv 5) pa_nil))))) (nomark _)) (pw_and1 (pt_cmpR op_gt (pe_c C_law_draw hr hk (ha := (pa_cons (pv 0) (pa_cons pe_int pa_nil)))) pe_int (nomark _))))))
          (pss_cons (ps_asg (pe_c C_law_some_act hr hk2 (ha := (pa_cons (pv 0) (pa_cons (pv 7) (pa_cons (pv 3) pa_nil))))) (pg_tup rfl (pgs_cons (pg_name (i := 10) scCodeOf.nd rfl (Or.inl rfl)) (pgs_cons (pg_name (i := 7) scCodeOf.nd rfl (Or.inl rfl)) pgs_nil))))
          (pss_one (ps_expr (pe_bm PySem.F.plainAttrs_list PySem.F.slot_list_append PySem.F.type_list_append mt_append (pv 6) (pa_cons (pv 10) pa_nil)))))
          pss_nil))))
      (pss_one (ps_ret (pe_callTy call_tupU (by rfl) g.tuple PyProof.Rows.boot_tuple (pa_cons (pv 6) pa_nil)))))), ?_⟩
    have z4 : 4 ≤ 100000 := by decide
    have z2 : 2 ≤ 100000 := by decide
    have hat := strs_ne hT ha
    have hbt := strs_ne hT hb
    refine ⟨_, rfl, a, _, rfl, .inl (SqL.of ha), fun L1 H1 n1 s1 c1 => ⟨_, rfl, b, _, rfl, .inl (SqL.of (s1 _ _ hb)), fun L2 H2 n2 s2 c2 => ⟨Nat.zero_le _, fun L3 H3 n3 s3 c3 => ⟨z4, fun T4 H4 n4 s4 c4 => ?_⟩⟩⟩⟩
    refine ⟨T4, _, rfl, SqT.of c4, rfl, _, _, rfl, _, _, rfl, _, _, rfl, _, _, rfl, rfl, ?_⟩
    have s04 : Same H H4 := fun b o h => s4 _ _ (s3 _ _ (s2 _ _ (s1 _ _ h)))
    have t1 := tape_same s1 hT
    have t2 := tape_same s2 t1
    have t3 := tape_same s3 t2
    have T : Tri t L1 L2 L3 H := by
      refine ⟨n1, fresh_of s1 n2, fresh_of (fun b o h => s2 _ _ (s1 _ _ h)) n3, tape_ne hT n1, tape_ne t1 n2, tape_ne t2 n3, ne_of_none c1 n2, ne_of_none (s2 _ _ c1) n3, ne_of_none c2 n3⟩
    have l1 : ∀ zs : List Str, (zs.map V.str).length = zs.length := fun zs => List.length_map ..
    refine ⟨_, rfl, a, _, rfl, .inl (SqL.of (s04 _ _ ha)), _, rfl, b, _, rfl, .inl (SqL.of (s04 _ _ hb)), _, _, rfl, rfl, ?_⟩
    generalize hN : takes.length + gives.length = N at hT t1 t2 t3
    have eN : ((takes.length : Int) + (gives.length : Int)) = (N : Int) := by omega
    -- have mid : ∀ i σ H9, (∃ left outs xs acts pile y8 y9 y10, σ = [some (.ref t), some (.ref a), some (.ref b), some (.int (places : Int)), some (.ref L1), some (.ref L2), some (.ref L3), some (.int ((pile : Nat) : Int)), y8, y9, y10] ∧ CoH t L1 L2 L3 H H9 left outs xs acts (n + 11 * (N - i)) ∧ CoP takes gives places (max 23 (2 * N)) left outs acts pile ∧ left.length + outs.length = N - i) → True := fun _ _ _ _ => trivial
    refine ⟨(N : Int), by rw [l1, l1]; exact congrArg (fun z => [V.int z]) eN, by omega, by omega, for_range (lo := 0) (n := (N : Int).toNat) (fun i σ H9 => ∃ left outs xs acts pile y8 y9 y10, σ = [some (.ref t), some (.ref a), some (.ref b), some (.int (places : Int)), some (.ref L1), some (.ref L2), some (.ref L3), some (.int ((pile : Nat) : Int)), y8, y9, y10] ∧ CoH t L1 L2 L3 H H9 left outs xs acts (n + 11 * (N - i)) ∧ CoP takes gives places (max 23 (2 * N)) left outs acts pile ∧ left.length + outs.length = N - i) ?_ ?_ ?_⟩
    · refine ⟨takes, gives, [], [], 0, _, _, _, rfl, ⟨kp_same s04, tape_same s4 t3, s4 _ _ (s3 _ _ (s2 _ _ c1)), s4 _ _ (s3 _ _ c2), s4 _ _ c3, .nil⟩, ⟨rfl, fun _ h => (nomatch h), fun z => by show 0 + _ = _; omega, fun z => by show 0 + _ = _; omega, by show 0 + _ ≤ _; omega, nt, ng, Nat.le_refl _⟩, by omega⟩
    · rintro i σ H9 hi ⟨left, outs, xs, acts, pile, y8, y9, y10, rfl, ch, cp, hl⟩
      rw [Int.zero_add]
      have hiN : i < N := by omega
      have e11 : n + 11 * (N - i) = n + 11 * (N - (i + 1)) + 11 := by omega
      rw [e11] at ch
      generalize n + 11 * (N - (i + 1)) = m at ch ⊢
      have lenA : acts.length ≤ 5000 := by
        have := cp.len
        omega
      refine ⟨fun σ H9 => ∃ left outs xs acts pile y9 y10, σ = [some (.ref t), some (.ref a), some (.ref b), some (.int (places : Int)), some (.ref L1), some (.ref L2), some (.ref L3), some (.int ((pile : Nat) : Int)), some (.int (i : Int)), y9, y10] ∧ CoH t L1 L2 L3 H H9 left outs xs acts (m + 7) ∧ CoP takes gives places (max 23 (2 * N)) left outs acts pile ∧ left.length + outs.length = N - (i + 1), ?_, ?_⟩
      · refine ⟨fun bb Hb => CoH t L1 L2 L3 H Hb left outs xs acts (m + 10) ∧ (bb = true → outs ≠ []) ∧ (bb = false → left ≠ []), ?_, ?_⟩
        · refine ⟨_, rfl, Nat.zero_le _, fun pe He ne se ce => ⟨L2, pe, outs, rfl, rfl, se _ _ ch.l2, ce, cp.ng, _, rfl, ite2 (fun e => ?_) (fun e => ?_)⟩⟩
          · have ho : outs ≠ [] := fun z => by
              rw [decide_eq_true z] at e
              cases e
            have ch1 := ch.same T se
            refine ⟨_, rfl, Nat.zero_le _, fun pf Hf nf sf cf => ⟨L1, pf, left, rfl, rfl, sf _ _ ch1.l1, cf, cp.nt, _, rfl, ite2 (fun e => ?_) (fun e => ?_)⟩⟩
            · exact ⟨(ch1.same T sf).mono (by omega), fun _ => ho, fun z => by cases z⟩
            · have hl0 : left ≠ [] := fun z => e (by rw [decide_eq_true z]; rfl)
              refine ⟨_, rfl, t, 3, m + 10, rfl, by decide, by decide, (ch1.same T sf).tp, fun d Hd d0 d1 kd td => ⟨rfl, _, rfl, (ch1.same T sf).step T kd td, fun _ => ho, fun _ => hl0⟩⟩
          · have ho : outs = [] := by
              by_cases z : outs = []
              · exact z
              · exact absurd (by rw [decide_eq_false z]; rfl) e
            refine ⟨(ch.same T se).mono (by omega), fun z => (by cases z), fun _ z => ?_⟩
            rw [z, ho] at hl
            simp at hl
            omega
        clear ch
        rintro bb Hb ⟨ch, hb1, hb2⟩
        refine ite2 (fun e => ?_) (fun e => ?_)
        · have ho := hb1 e
          have ho1 : 0 < outs.length := List.length_pos_iff.mpr ho
          -- something to give
          refine ⟨fun σ H9 => ∃ xs acts pile y9, σ = [some (.ref t), some (.ref a), some (.ref b), some (.int (places : Int)), some (.ref L1), some (.ref L2), some (.ref L3), some (.int ((pile : Nat) : Int)), some (.int (i : Int)), y9, y10] ∧ CoH t L1 L2 L3 H H9 left outs xs acts (m + 8) ∧ CoP takes gives places (max 23 (2 * N) + 1) left outs acts pile ∧ 0 < pile, ?_, ?_⟩
          · refine ⟨_, rfl, rfl, _, rfl, ite2 (fun e => ?_) (fun e => ?_)⟩
            · have e0 : pile = 0 := by
                have e1 := of_decide_eq_true e
                injection e1 with e1
                omega
              subst e0
              refine ⟨fun v Hv => ∃ c, v = .bl c ∧ (c = true → 0 < places) ∧ CoH t L1 L2 L3 H Hv left outs xs acts (m + 9), ?_, ?_⟩
              · refine ⟨_, rfl, (places : Int), 0, rfl, rfl, _, rfl, ite2 (fun e => ?_) (fun e => ⟨false, rfl, fun z => (by cases z), ch.mono (by omega)⟩)⟩
                have e : (0 : Int) < (places : Int) := of_decide_eq_true e
                exact ⟨_, rfl, t, 2, m + 9, rfl, by decide, by decide, ch.tp, fun d Hd d0 d1 kd td => ⟨rfl, _, rfl, fun _ => by omega, ch.step T kd td⟩⟩
              · rintro v Hv ⟨c, rfl, hc, chv⟩
                refine ⟨_, rfl, .inl ⟨rfl, _, SqL.of chv.l3⟩, fun v Hw => ∃ qq act, v = .ref qq ∧ Hw qq = some (.tup (actV act)) ∧ actOk act ∧ actMid act ∧ needs act = 0 ∧ more act = 1 ∧ plOk places act ∧ CoH t L1 L2 L3 H Hw left outs xs acts (m + 8), ?_, ?_⟩
                · refine ⟨_, rfl, _, rfl, ite2 (fun e => ?_) (fun e => ?_)⟩
                  · exact ⟨z2, fun qq Hq nq sq cq => ⟨qq, .kept 0, rfl, cq, trivial, trivial, rfl, rfl, hc e, (chv.same T sq).mono (by omega)⟩⟩
                  · exact ⟨_, rfl, t, 99, m + 8, rfl, by decide, by decide, chv.tp, fun d Hd d0 d1 kd td => ⟨z2, fun qq Hq nq sq cq => ⟨qq, .num d, rfl, cq, ⟨d0, by omega⟩, trivial, rfl, rfl, trivial, (chv.step T kd td).same T sq⟩⟩⟩
                rintro v Hw ⟨qq, act, rfl, cq, a1, a2, a3, a4, a5, chw⟩
                refine ⟨L3, xs, _, rfl, rfl, chw.l3, ?_, ?_⟩
                · rw [ch.pa.length]
                  exact Nat.lt_of_le_of_lt lenA (by decide)
                · have := cp.mid (B' := max 23 (2 * N) + 1) (a := act) (by have := cp.len; omega) a1 a2 (by omega) a5
                  have e5 : (((0 : Nat) : Int) + more act).toNat = 1 := by rw [a4]; rfl
                  rw [e5] at this
                  exact ⟨_, _, 1, _, rfl, chw.push T cq, this, by decide⟩
            · refine ⟨xs, acts, pile, _, rfl, ch.mono (by omega), ⟨cp.lg, cp.ok, cp.ct, cp.cg, Nat.le_succ_of_le cp.len, cp.nt, cp.ng, cp.pl⟩, ?_⟩
              rcases Nat.eq_zero_or_pos pile with z | z
              · subst z
                exact absurd (decide_eq_true rfl) e
              · exact z
          · have hl2 := hl
            clear ch cp lenA
            rintro σ H9 ⟨xs, acts, pile, y9, rfl, ch, cp, hp⟩
            have lenA : acts.length ≤ 6000 := by
              have := cp.len
              omega
            have hle : outs.length ≤ 3000 := by omega
            refine ⟨_, rfl, .inl ⟨rfl, _, SqL.of ch.l3⟩, _, rfl, .inl ⟨rfl, _, SqL.of ch.l2⟩, _, rfl, _, rfl, L2, _, rfl, .inl (SqL.of ch.l2), t, ((outs.map V.str).length : Int), m + 7, rfl, by rw [l1]; omega, by rw [l1]; omega, ch.tp, fun d Hd d0 d1 kd td => ?_⟩
            rw [l1] at d1
            obtain ⟨d, rfl⟩ := Int.eq_ofNat_of_zero_le d0
            have hd : d < outs.length := by omega
            have ch1 := (ch.step T kd td)
            refine ⟨L2, outs, d, hd, rfl, rfl, ch1.l2, by omega, z2, fun qq Hq nq sq cq => ?_⟩
            have ch2 := (ch1.pop2 (i := d) T).same T sq
            have em : ((pile : Int) - 1) = ((pile - 1 : Nat) : Int) := by omega
            refine ⟨L3, xs, _, rfl, rfl, ch2.l3, ?_, _, rfl, _, _, rfl, rfl, left, outs.eraseIdx d, _, _, pile - 1, y9, y10, by rw [← em]; rfl, ch2.push T (a := .give outs[d]) cq, cp.give hp hd, ?_⟩
            · rw [ch.pa.length]
              exact Nat.lt_of_le_of_lt lenA (by decide)
            · rw [List.length_eraseIdx_of_lt hd]
              omega
        · have ho := hb2 (by cases bb with | true => exact absurd rfl e | false => rfl)
          have ho1 : 0 < left.length := List.length_pos_iff.mpr ho
          have hle : left.length ≤ 3000 := by omega
          refine ⟨_, rfl, .inl ⟨rfl, _, SqL.of ch.l3⟩, _, rfl, .inl ⟨rfl, _, SqL.of ch.l1⟩, _, rfl, _, rfl, L1, _, rfl, .inl (SqL.of ch.l1), t, ((left.map V.str).length : Int), m + 9, rfl, by rw [l1]; omega, by rw [l1]; omega, ch.tp, fun d Hd d0 d1 kd td => ?_⟩
          rw [l1] at d1
          obtain ⟨d, rfl⟩ := Int.eq_ofNat_of_zero_le d0
          have hd : d < left.length := by omega
          have ch1 := (ch.step T kd td)
          refine ⟨L1, left, d, hd, rfl, rfl, ch1.l1, by omega, z2, fun qq Hq nq sq cq => ?_⟩
          have ch2 := (ch1.pop1 (i := d) T).same T sq
          refine ⟨L3, xs, _, rfl, rfl, ch2.l3, ?_, _, rfl, _, _, rfl, rfl, left.eraseIdx d, outs, _, _, pile + 1, y9, y10, rfl, (ch2.push T (a := .take left[d]) cq).mono (by omega), cp.take hd, ?_⟩
          · rw [ch.pa.length]
            exact Nat.lt_of_le_of_lt lenA (by decide)
          · rw [List.length_eraseIdx_of_lt hd]
            omega
      · clear ch cp hl lenA
        rintro σ H9 ⟨left, outs, xs, acts, pile, y9, y10, rfl, ch, cp, hl⟩
        have lenA : acts.length ≤ 6000 := by
          have := cp.len
          omega
        refine ⟨fun bb Hb => CoH t L1 L2 L3 H Hb left outs xs acts (m + 6) ∧ (bb = true → acts.length + 2 * (left.length + outs.length) < 23), ?_, ?_⟩
        · refine ⟨_, rfl, L3, xs, rfl, .inl (SqL.of ch.l3), _, rfl, L1, _, rfl, .inl (SqL.of ch.l1), _, rfl, L2, _, rfl, .inl (SqL.of ch.l2), _, _, rfl, rfl, _, _, rfl, rfl, .inl ⟨by omega, by omega⟩, _, _, rfl, rfl, _, _, rfl, rfl, _, rfl, ite2 (fun e => ?_) (fun e => ?_)⟩
          · have e : (xs.length : Int) < 23 - 2 * (((left.map V.str).length : Int) + ((outs.map V.str).length : Int)) := of_decide_eq_true e
            rw [l1, l1, ch.pa.length] at e
            exact ⟨_, rfl, t, 3, m + 6, rfl, by decide, by decide, ch.tp, fun d Hd d0 d1 kd td => ⟨_, _, rfl, rfl, _, rfl, ch.step T kd td, fun _ => by omega⟩⟩
          · exact ⟨ch.mono (by omega), fun z => (by cases z)⟩
        clear ch
        rintro bb Hb ⟨ch, hb1⟩
        refine ite2 (fun e => ?_) (fun e => ?_)
        · have hlen := hb1 e
          refine ⟨_, rfl, _, rfl, _, rfl, t, pile, places, m, rfl, ?_, hpl, ch.tp, fun v Hv kv tv gv => ?_⟩
          · have := cp.pl
            omega
          obtain ⟨qq, aa, act, rfl, g1, g2, g3, g4, g5, g6⟩ := gv
          have chv := ch.step T kv tv
          have hm : (pile : Int) + more act = (((pile : Int) + more act).toNat : Int) := by
            have := more_ge g3
            omega
          refine ⟨qq, _, rfl, SqT.of g1, rfl, _, _, rfl, _, _, rfl, rfl, _, rfl, .inl ⟨rfl, _, SqL.of chv.l3⟩, _, rfl, L3, xs, _, rfl, rfl, chv.l3, ?_, left, outs, _, _, ((pile : Int) + more act).toNat, _, _, _, by rw [← hm]; rfl, chv.push T g2, cp.mid (by omega) g3 g4 g5 g6, hl⟩
          rw [ch.pa.length]
          exact Nat.lt_of_le_of_lt lenA (by decide)
        · exact ⟨left, outs, xs, acts, pile, _, _, _, rfl, ch.mono (by omega), cp, hl⟩
    · rintro σ H9 ⟨left, outs, xs, acts, pile, y8, y9, y10, rfl, ch, cp, hl⟩
      have eNN : (N : Int).toNat = N := by omega
      rw [eNN, Nat.sub_self] at hl ch
      have e1 : left = [] := List.length_eq_zero_iff.mp (by omega)
      have e2 : outs = [] := List.length_eq_zero_iff.mp (by omega)
      subst e1 e2
      refine ⟨_, rfl, L3, xs, rfl, .inl (SqL.of ch.l3), fun p Hp sp cpp => q p Hp xs acts (ch.kp.trans (kp_same sp)) (tape_same sp (ch.tp.mono (by omega))) ⟨cpp, ch.pa.mono fun _ _ => actP_mono (kpT_same sp), ⟨pile, cp.lg⟩, cp.ok, fun z => ?_, fun z => ?_, ?_⟩⟩
      · have := cp.ct z
        simpa using this
      · have := cp.cg z
        simpa using this
      · have := cp.len
        rw [hN]
        exact Nat.le_trans (Nat.le_add_right _ _) this
end
end Tw

/-! _law_some_code -/
namespace Tw
open PySem PySem.Spec PyProof.Rows L2
theorem scSomeCode : FnScope ["_law_tape_here", "_law_names_here", "_law_most", "_law_takes", "_law_gives", "_law_places", "_law_turn"] ["_law_tape_here", "_law_names_here", "_law_most"] (defScope (topS 15)) := ⟨rfl, rfl, rfl, by decide +kernel, rfl, by decide +kernel, by decide +kernel⟩
theorem CodeOf.mono {K : PySem.W.Frag} {H H' : Hp} {p : Addr} {takes gives : List Str} {places : Nat} {xs : List V} {acts : List Act} (h : CodeOf K H p takes gives places xs acts) (k : KpT H H') : CodeOf K H' p takes gives places xs acts :=
  ⟨kpT_sqt k h.sq, h.pa.mono fun _ _ => actP_mono k, h.lg, h.ok, h.ct, h.cg, h.len⟩
/-- texts of some kind -/
def StrE (M : Str → Prop) (_ : Hp) (v : V) : Prop := ∃ z, v = .str z ∧ M z
theorem strE_mono {M : Str → Prop} : ∀ H H' v, KpT H H' → StrE M H v → StrE M H' v := fun _ _ _ _ h => h
theorem strs_of {M : Str → Prop} {H : Hp} : ∀ {acc : List V}, (∀ v ∈ acc, StrE M H v) → ∃ zs : List Str, acc = zs.map V.str ∧ ∀ z ∈ zs, M z
  | [], _ => ⟨[], rfl, fun _ h => nomatch h⟩
  | v :: r, h => by
    obtain ⟨z, rfl, hz⟩ := h v List.mem_cons_self
    obtain ⟨zs, e, hs⟩ := strs_of (acc := r) fun x hx => h x (List.mem_cons_of_mem _ hx)
    refine ⟨z :: zs, by rw [e]; rfl, fun x hx => ?_⟩
    rcases List.mem_cons.mp hx with rfl | hx
    · exact hz
    · exact hs x hx
def spSomeCode (K : PySem.W.Frag) : Sp := fun vs H Q _ => ∃ (t a : Addr) (n1 n2 n3 n4 : Str) (rest : List Str) (most n : Nat), vs = [.ref t, .ref a, .int (most : Int)] ∧ H a = some (.lst ((n1 :: n2 :: n3 :: n4 :: rest).map V.str)) ∧ (IsNm n1 ∧ IsNm n2 ∧ IsNm n3 ∧ IsNm n4) ∧ 1 ≤ most ∧ most ≤ 1000 ∧ Tape H t (n + (24 * most + 1)) ∧
  ∀ q p places takes gives xs acts H', Kp t H H' → Tape H' t n → H' q = some (.tup [.ref p, .int ((places : Nat) : Int)]) → places < 5 → (∀ z ∈ takes, z = n1 ∨ z = n2) → (∀ z ∈ gives, z = n3 ∨ z = n4) → takes.length < most → gives.length < most → CodeOf K H' p takes gives places xs acts → Q (.ref q) H'
section
variable {P : Program} {w : World} {K : PySem.W.Frag} {mg : Str → Option Value} {base : Heap}
theorem ok_some_code {f : Addr} {fd : FuncData} {k k1 k2 : Nat} (g : Bl mg) (C_law_draw : Cal P w K mg base "_law_draw" k1 ["_law_tape_here", "_law_many_here"] spDraw) (C_law_code_of : Cal P w K mg base "_law_code_of" k2 ["_law_tape_here", "_law_takes", "_law_gives", "_law_places"] (spCodeOf K)) (hk : k1 ≤ k) (hk2 : k2 ≤ k) (F : Fun K "_law_some_code" "_law_some_code" (topS 15) f fd) : FnOk P w K mg base CX0 (k + 1) f fd ["_law_tape_here", "_law_names_here", "_law_most"] (spSomeCode K) := by
  refine F.ok scSomeCode (fun vs H Q E h => ?_) (fun cdv A outer s H vs Q E hr h => ?_)
  · obtain ⟨t, a, n1, n2, n3, n4, rest, most, n, rfl, _⟩ := h
    rfl
  · obtain ⟨t, a, n1, n2, n3, n4, rest, most, n, rfl, ha, ⟨m1, m2, m3, m4⟩, hm1, hm2, hT, q⟩ := h
    refine ⟨_, (pss_cons (ps_setLc (i := 3) (own := [("_law_turn", 6)]) (g := (gName 6)) (tt := tYes) rfl scSomeCode.nd rfl rfl (sw_true rfl rfl rfl (by decide +kernel)) (pi_range1 (by rfl) g.range (pa_cons (pe_c C_law_draw hr hk (ha := (pa_cons (pv 0) (pa_cons (pv 2) pa_nil)))) pa_nil)) (blkOk_by (own := [("_law_turn", 6)]) (N := ["_law_tape_here", "_law_names_here", "_law_most", "_law_takes", "_law_gives", "_law_places", "_law_turn"]) (sc := defScope (topS 15)) (by decide +kernel)) (fun _ _ _ _ _ => (pg_name (i := 6) scSomeCode.nd rfl (Or.inl rfl))) (fun _ _ _ _ _ => pts_nil) (fun _ _ _ _ _ => (pe_ix (ix_list' K) (pv 1) (pe_c C_law_draw hr hk (ha := (pa_cons (pv 0) (pa_cons pe_int pa_nil)))) (fun _ _ => rfl))))
      (pss_cons (ps_setLc (i := 4) (own := [("_law_turn", 6)]) (g := (gName 6)) (tt := tYes) rfl scSomeCode.nd rfl rfl (sw_true rfl rfl rfl (by decide +kernel)) (pi_range1 (by rfl) g.range (pa_cons (pe_c C_law_draw hr hk (ha := (pa_cons (pv 0) (pa_cons (pv 2) pa_nil)))) pa_nil)) (blkOk_by (own := [("_law_turn", 6)]) (N := ["_law_tape_here", "_law_names_here", "_law_most", "_law_takes", "_law_gives", "_law_places", "_law_turn"]) (sc := defScope (topS 15)) (by decide +kernel)) (fun _ _ _ _ _ => (pg_name (i := 6) scSomeCode.nd rfl (Or.inl rfl))) (fun _ _ _ _ _ => pts_nil) (fun _ _ _ _ _ => (pe_ix (ix_list' K) (pv 1) (pe_op op_add pe_int (pe_c C_law_draw hr hk (ha := (pa_cons (pv 0) (pa_cons pe_int pa_nil))))) (fun _ _ => rfl))))
      (pss_cons (ps_set (i := 5) scSomeCode.nd rfl (Or.inl rfl) (pe_c C_law_draw hr hk (ha := (pa_cons (pv 0) (pa_cons pe_int pa_nil)))))
      (pss_one (ps_ret (pe_tupU (pa_cons (pe_c C_law_code_of hr hk2 (ha := (pa_cons (pv 0) (pa_cons (pv 3) (pa_cons (pv 4) (pa_cons (pv 5) pa_nil)))))) (pa_cons (pv 5) pa_nil)))))))), ?_⟩
    have hat : a ≠ t := strs_ne hT ha
    -- takes
    refine ⟨_, rfl, _, rfl, t, (most : Int), n + 24 * most, rfl, by omega, by omega, hT, fun d1 H1 d10 d11 k1 t1 => ⟨d1, rfl, by omega, by omega, fun D nD => ?_⟩⟩
    obtain ⟨d1, rfl⟩ := Int.eq_ofNat_of_zero_le d10
    have ed1 : (d1 : Int).toNat = d1 := by omega
    refine lcU_range (lo := 0) (n := (d1 : Int).toNat) (StrE fun z => z = n1 ∨ z = n2) strE_mono 1 (n + 23 * most) (by omega) nD (t1.mono (by omega)) ?_ ?_
    · intro i Hi R hi ki ti hR
      refine ⟨rfl, _, rfl, _, rfl, t, 2, _, rfl, by decide, by decide, ti, fun d Hd d0 d1 kd td => ?_⟩
      have hs := kd _ _ hat (ki _ _ hat (k1 _ _ hat ha))
      have : d = 0 ∨ d = 1 := by omega
      rcases this with rfl | rfl
      · exact ⟨a, _, 0, .str n1, rfl, rfl, SqL.of hs, atI_nat (j := 0) rfl, hR _ _ kd td ⟨n1, rfl, .inl rfl⟩⟩
      · exact ⟨a, _, 1, .str n2, rfl, rfl, SqL.of hs, atI_nat (j := 1) rfl, hR _ _ kd td ⟨n2, rfl, .inr rfl⟩⟩
    intro H2 acc k2 t2 c2 l2 e2
    rw [ed1] at l2
    obtain ⟨takes, rfl, ht⟩ := strs_of e2
    rw [List.length_map] at l2
    have k02 := k1.trans k2
    have hDt := tape_ne t1 nD
    -- gives
    refine ⟨_, rfl, _, rfl, t, (most : Int), n + 23 * most - 1, rfl, by omega, by omega, t2.mono (by omega), fun d3 H3 d30 d31 k3 t3 => ⟨d3, rfl, by omega, by omega, fun D2 nD2 => ?_⟩⟩
    obtain ⟨d3, rfl⟩ := Int.eq_ofNat_of_zero_le d30
    have ed3 : (d3 : Int).toNat = d3 := by omega
    refine lcU_range (lo := 0) (n := (d3 : Int).toNat) (StrE fun z => z = n3 ∨ z = n4) strE_mono 1 (n + 22 * most) (by omega) nD2 (t3.mono (by omega)) ?_ ?_
    · intro i Hi R hi ki ti hR
      refine ⟨rfl, _, rfl, _, rfl, t, 2, _, rfl, by decide, by decide, ti, fun d Hd d0 d1 kd td => ?_⟩
      have hs := kd _ _ hat (ki _ _ hat (k3 _ _ hat (k02 _ _ hat ha)))
      have : d = 0 ∨ d = 1 := by omega
      rcases this with rfl | rfl
      · exact ⟨2, 0, rfl, rfl, a, _, 2, .str n3, rfl, rfl, SqL.of hs, atI_nat (j := 2) rfl, hR _ _ kd td ⟨n3, rfl, .inl rfl⟩⟩
      · exact ⟨2, 1, rfl, rfl, a, _, 3, .str n4, rfl, rfl, SqL.of hs, atI_nat (j := 3) rfl, hR _ _ kd td ⟨n4, rfl, .inr rfl⟩⟩
    intro H4 acc k4 t4 c4 l4 e4
    rw [ed3] at l4
    obtain ⟨gives, rfl, hg⟩ := strs_of e4
    rw [List.length_map] at l4
    have k04 := k02.trans (k3.trans k4)
    have hD2t := tape_ne t3 nD2
    -- places, code
    refine ⟨_, rfl, t, 5, n + 22 * most - 1, rfl, by decide, by decide, t4.mono (by omega), fun pl H5 p0 p1 k5 t5 => ?_⟩
    obtain ⟨pl, rfl⟩ := Int.eq_ofNat_of_zero_le p0
    have nm : ∀ z ∈ takes, IsNm z := fun z hz => by
      rcases ht z hz with rfl | rfl
      · exact m1
      · exact m2
    have nm2 : ∀ z ∈ gives, IsNm z := fun z hz => by
      rcases hg z hz with rfl | rfl
      · exact m3
      · exact m4
    refine ⟨_, rfl, _, rfl, _, rfl, _, rfl, t, D, D2, takes, gives, pl, n, rfl, k5 _ _ hDt (k4 _ _ hDt (k3 _ _ hDt c2)), k5 _ _ hD2t c4, by omega, by omega, by omega, nm, nm2, t5.mono (by omega), fun p H6 xs acts k6 t6 co => ?_⟩
    refine ⟨_, rfl, (by decide : 2 ≤ 100000), fun qq H7 nq s7 c7 => q qq p pl takes gives xs acts H7 ((k04.trans (k5.trans k6)).trans (kp_same s7)) (tape_same s7 t6) c7 (by omega) ht hg (by omega) (by omega) (co.mono (kpT_same s7))⟩
end
end Tw

/-! moves, moves_all, takes_of, gives_of, _law_many -/
namespace Tw
open PySem PySem.Spec PyProof.Rows L2
def hwd : Act → Str
  | .take _ => "take" | .give _ => "give" | .num _ => "number" | .keep _ => "keep" | .kept _ => "kept" | .wrd w => w
theorem act_head (a : Act) : (actV a)[0]? = some (.str (hwd a)) := by cases a <;> rfl
theorem act_tray {a : Act} {g : Bool} (h : actOk a) (e : hwd a = mvW g) : ∃ t, trayOf g a = some t ∧ (actV a)[1]? = some (.str t) := by
  cases a with
  | take t =>
    cases g with
    | false => exact ⟨t, rfl, rfl⟩
    | true => exact absurd (show ("take" : Str) = "give" from e) (by decide)
  | give t =>
    cases g with
    | true => exact ⟨t, rfl, rfl⟩
    | false => exact absurd (show ("give" : Str) = "take" from e) (by decide)
  | num n =>
    have e : ("number" : Str) = mvW g := e
    cases g <;> exact absurd e (by decide)
  | keep n =>
    have e : ("keep" : Str) = mvW g := e
    cases g <;> exact absurd e (by decide)
  | kept n =>
    have e : ("kept" : Str) = mvW g := e
    cases g <;> exact absurd e (by decide)
  | wrd w =>
    have hm : w ∈ words8 := h
    have e : w = mvW g := e
    subst e
    cases g <;> exact absurd hm (by decide)
theorem act_none {a : Act} {g : Bool} (e : ¬ hwd a = mvW g) : trayOf g a = none := by
  cases a with
  | take t =>
    cases g with
    | false => exact absurd rfl e
    | true => rfl
  | give t =>
    cases g with
    | true => exact absurd rfl e
    | false => rfl
  | _ => rfl
theorem count_fm (g : Bool) (z : Str) : ∀ as : List Act, (as.filterMap fun a => if trayOf g a = some z then some () else none).length = (mvT g as).count z
  | [] => rfl
  | a :: r => by
    have ih := count_fm g z r
    unfold mvT at ih ⊢
    rw [List.filterMap_cons, List.filterMap_cons]
    cases e : trayOf g a with
    | none =>
      rw [if_neg (by simp)]
      exact ih
    | some t =>
      by_cases h : t = z
      · subst h
        rw [if_pos rfl]
        simp only [List.length_cons, List.count_cons_self]
        rw [ih]
      · rw [if_neg (by simpa using h)]
        simp only
        rw [List.count_cons_of_ne (by simpa using h)]
        exact ih
/-- a code as it lies -/
structure CodeV (K : PySem.W.Frag) (H : Hp) (p : Addr) (xs : List V) (acts : List Act) : Prop where
  sq : SqT K H p xs
  pa : Paired (ActV K H) xs acts
  ok : ∀ a ∈ acts, actOk a
  len : acts.length < 60
theorem actV_up {K : PySem.W.Frag} {H H' : Hp} (k : KpT H H') {v : V} {a : Act} (h : ActV K H v a) : ActV K H' v a := by
  obtain ⟨q, e, h⟩ := h
  exact ⟨q, e, kpT_sqt k h⟩
theorem CodeV.mono {K : PySem.W.Frag} {H H' : Hp} {p : Addr} {xs : List V} {acts : List Act} (h : CodeV K H p xs acts) (k : KpT H H') : CodeV K H' p xs acts :=
  ⟨kpT_sqt k h.sq, h.pa.mono fun _ _ => actV_up k, h.ok, h.len⟩
theorem CodeV.same {K : PySem.W.Frag} {H H' : Hp} {p : Addr} {xs : List V} {acts : List Act} (h : CodeV K H p xs acts) (k : Same H H') : CodeV K H' p xs acts := h.mono (kpT_same k)
def spMoves (K : PySem.W.Frag) : Sp := fun vs H Q _ => ∃ (p : Addr) (g : Bool) (z : Str) (xs : List V) (acts : List Act), vs = [.ref p, .str (mvW g), .str z] ∧ CodeV K H p xs acts ∧ ∀ H', Same H H' → Q (.int (((mvT g acts).count z : Nat) : Int)) H'
theorem scMoves : FnScope ["code", "word", "tray", "act"] ["code", "word", "tray"] (defScope (topS 3)) := ⟨rfl, rfl, rfl, by decide +kernel, rfl, by decide +kernel, by decide +kernel⟩
section
variable {P : Program} {w : World} {K : PySem.W.Frag} {mg : Str → Option Value} {base : Heap}
theorem ok_moves {f : Addr} {fd : FuncData} {k : Nat} (g : Bl mg) (F : Fun K "moves" "moves" (topS 3) f fd) : FnOk P w K mg base CX0 (k + 1) f fd ["code", "word", "tray"] (spMoves K) := by
  refine F.ok scMoves (fun vs H Q E h => ?_) (fun cdv A outer s H vs Q E hr h => ?_)
  · obtain ⟨p, g, z, xs, acts, rfl, _⟩ := h
    rfl
  · obtain ⟨p, b, z, xs, acts, rfl, C, q⟩ := h
    refine ⟨_, (pss_one (ps_ret (pe_callB (call_len' K) (by rfl) g.len PySem.boot_len (pa_cons (pe_lc (own := [("act", 3)]) (g := (gName 3)) (tt := _) rfl scMoves.nd (pi_tup' K (pv 0)) (blkOk_by (own := [("act", 3)]) (N := ["code", "word", "tray", "act"]) (sc := defScope (topS 3)) (by decide +kernel)) (fun _ _ _ _ _ => (pg_name (i := 3) scMoves.nd rfl (Or.inl rfl))) (fun _ _ _ _ _ => (pts_one (PW.pt (pw_and (pt_cmpR op_eq (pe_ix (ix_tup' K) (pv 3) pe_int (fun _ _ => rfl)) (pv 1) (nomark _)) (pw_and1 (pt_cmpR op_eq (pe_ix (ix_tup' K) (pv 3) pe_int (fun _ _ => rfl)) (pv 2) (nomark _))))))) (fun _ _ _ _ _ => (pv 3))) pa_nil)))), ?_⟩
    refine ⟨_, rfl, p, rfl, ⟨xs, C.sq⟩, fun D nD => ?_⟩
    have hxl := C.pa.length
    have W := walk_tup (K := K) (a := p) (xs := xs)
    rw [hxl] at W
    refine lcF W (fun a => if trayOf b a = some z then some () else none) (fun _ _ _ => True) (fun _ _ _ _ _ _ => trivial) nD (by have := C.len; omega) (fun H' s' => same_sqt s' C.sq) ?_ ?_
    · intro i x a Hi Hi' R1 R0 ha si y h1 h0
      obtain ⟨rfl, hx⟩ := y
      obtain ⟨a', e', q', rfl, hq⟩ := paired_get C.pa hx
      rw [ha] at e'
      cases e'
      have hq := same_sqt si hq
      have oka := C.ok a (List.mem_of_getElem? ha)
      refine ⟨rfl, _, rfl, q', _, 0, _, rfl, rfl, hq, atI_nat (j := 0) (act_head a), _, rfl, rfl, _, rfl, ite2 (fun e => ?_) (fun e => ?_)⟩
      · have e : hwd a = mvW b := by
          have := of_decide_eq_true e
          injection this
        obtain ⟨t, e1, e2⟩ := act_tray oka e
        refine ⟨_, rfl, q', _, 1, _, rfl, rfl, hq, atI_nat (j := 1) e2, _, rfl, rfl, _, rfl, ite2 (fun e => ?_) (fun e => ?_)⟩
        · have e : t = z := by
            have := of_decide_eq_true e
            injection this
          exact ⟨_, rfl, h1 () (by rw [e1, if_pos (by rw [e])]) _ _ (Same.refl _) trivial⟩
        · have e : ¬ t = z := fun z => e (decide_eq_true (by rw [z]))
          exact h0 (by rw [e1, if_neg (by simpa using e)]) _ (Same.refl _)
      · have e : ¬ hwd a = mvW b := fun z => e (decide_eq_true (by rw [z]))
        exact h0 (by rw [act_none e, if_neg (by simp)]) _ (Same.refl _)
    · intro H' ys s' c' pp
      refine ⟨D, ys, rfl, .inl (SqL.of c'), ?_⟩
      rw [pp.length, count_fm]
      exact q _ s'
end
theorem scMany : FnScope ["_law_a_code", "_law_word", "_law_tray", "_law_act"] ["_law_a_code", "_law_word", "_law_tray"] (defScope (topS 16)) := ⟨rfl, rfl, rfl, by decide +kernel, rfl, by decide +kernel, by decide +kernel⟩
section
variable {P : Program} {w : World} {K : PySem.W.Frag} {mg : Str → Option Value} {base : Heap}
theorem ok_many {f : Addr} {fd : FuncData} {k : Nat} (g : Bl mg) (F : Fun K "_law_many" "_law_many" (topS 16) f fd) : FnOk P w K mg base CX0 (k + 1) f fd ["_law_a_code", "_law_word", "_law_tray"] (spMoves K) := by
  refine F.ok scMany (fun vs H Q E h => ?_) (fun cdv A outer s H vs Q E hr h => ?_)
  · obtain ⟨p, g, z, xs, acts, rfl, _⟩ := h
    rfl
  · obtain ⟨p, b, z, xs, acts, rfl, C, q⟩ := h
    refine ⟨_, (pss_one (ps_ret (pe_callB (call_len' K) (by rfl) g.len PySem.boot_len (pa_cons (pe_lc (own := [("_law_act", 3)]) (g := (gName 3)) (tt := _) rfl scMany.nd (pi_tup' K (pv 0)) (blkOk_by (own := [("_law_act", 3)]) (N := ["_law_a_code", "_law_word", "_law_tray", "_law_act"]) (sc := defScope (topS 16)) (by decide +kernel)) (fun _ _ _ _ _ => (pg_name (i := 3) scMany.nd rfl (Or.inl rfl))) (fun _ _ _ _ _ => (pts_one (PW.pt (pw_and (pt_cmpR op_eq (pe_ix (ix_tup' K) (pv 3) pe_int (fun _ _ => rfl)) (pv 1) (nomark _)) (pw_and1 (pt_cmpR op_eq (pe_ix (ix_tup' K) (pv 3) pe_int (fun _ _ => rfl)) (pv 2) (nomark _))))))) (fun _ _ _ _ _ => (pv 3))) pa_nil)))), ?_⟩
    refine ⟨_, rfl, p, rfl, ⟨xs, C.sq⟩, fun D nD => ?_⟩
    have hxl := C.pa.length
    have W := walk_tup (K := K) (a := p) (xs := xs)
    rw [hxl] at W
    refine lcF W (fun a => if trayOf b a = some z then some () else none) (fun _ _ _ => True) (fun _ _ _ _ _ _ => trivial) nD (by have := C.len; omega) (fun H' s' => same_sqt s' C.sq) ?_ ?_
    · intro i x a Hi Hi' R1 R0 ha si y h1 h0
      obtain ⟨rfl, hx⟩ := y
      obtain ⟨a', e', q', rfl, hq⟩ := paired_get C.pa hx
      rw [ha] at e'
      cases e'
      have hq := same_sqt si hq
      have oka := C.ok a (List.mem_of_getElem? ha)
      refine ⟨rfl, _, rfl, q', _, 0, _, rfl, rfl, hq, atI_nat (j := 0) (act_head a), _, rfl, rfl, _, rfl, ite2 (fun e => ?_) (fun e => ?_)⟩
      · have e : hwd a = mvW b := by
          have := of_decide_eq_true e
          injection this
        obtain ⟨t, e1, e2⟩ := act_tray oka e
        refine ⟨_, rfl, q', _, 1, _, rfl, rfl, hq, atI_nat (j := 1) e2, _, rfl, rfl, _, rfl, ite2 (fun e => ?_) (fun e => ?_)⟩
        · have e : t = z := by
            have := of_decide_eq_true e
            injection this
          exact ⟨_, rfl, h1 () (by rw [e1, if_pos (by rw [e])]) _ _ (Same.refl _) trivial⟩
        · have e : ¬ t = z := fun z => e (decide_eq_true (by rw [z]))
          exact h0 (by rw [e1, if_neg (by simpa using e)]) _ (Same.refl _)
      · have e : ¬ hwd a = mvW b := fun z => e (decide_eq_true (by rw [z]))
        exact h0 (by rw [act_none e, if_neg (by simp)]) _ (Same.refl _)
    · intro H' ys s' c' pp
      refine ⟨D, ys, rfl, .inl (SqL.of c'), ?_⟩
      rw [pp.length, count_fm]
      exact q _ s'
end
end Tw

/-! x = {k: v for ..} -/
namespace Tw
open PySem PySem.Spec PyProof.Rows L2
section
variable {X : Cx}
theorem ps_setDc {i : Nat} {y : Str} {py : Pos} {kx vx tg iter : Expr} {ifs : List Expr} {scope : Scope} {own : List (Str × Nat)} {pos spos : Pos} {wi : TI} {g : TG} {tt : TT} {tk tv : TE} (hc : X.calm = true) (hN : X.N.Nodup) (hy : X.N[i]? = some y) (hyl : X.env.scope.names.lookup y = some .local)
    (sw : swapsWith (.DictComp kx vx [⟨tg, iter, ifs, 0⟩] scope pos) (some (.Name y py)) spos.line X.env = pure true) (hi : PI X tg iter wi) (ok : BlkOk X.N X.env.scope scope own)
    (hg : ∀ (s : Shared) (H : Hp) (C : Addr) (cl : List (Str × Addr)) (fp : List Addr), PG (X.blk s H scope (compEnvC scope cl C X.env) fp) tg g) (ht : ∀ (s : Shared) (H : Hp) (C : Addr) (cl : List (Str × Addr)) (fp : List Addr), PTs (X.blk s H scope (compEnvC scope cl C X.env) fp) ifs tt)
    (hk : ∀ (s : Shared) (H : Hp) (C : Addr) (cl : List (Str × Addr)) (fp : List Addr), PE (X.blk s H scope (compEnvC scope cl C X.env) fp) kx tk) (he : ∀ (s : Shared) (H : Hp) (C : Addr) (cl : List (Str × Addr)) (fp : List Addr), PE (X.blk s H scope (compEnvC scope cl C X.env) fp) vx tv) (hs : ∀ x, foldedSetIterable iter X.env x = pure x := by intro _; rfl) :
    PS X (.Assign [.Name y py] (.DictComp kx vx [⟨tg, iter, ifs, 0⟩] scope pos) spos) (tAsg (tDc wi g tt tk tv (own.map (·.2))) (gName i)) := by
  refine ⟨fun pins s σ H D I h => ?_⟩
  rw [exec_Assign_Name_used _ _ _ _ sw]
  refine wpAny_bind (wpAny_standAt (wpAny_bind ?_))
  show wpAny _ X.A (do let _ ← comprehension (.DictComp kx vx [⟨tg, iter, ifs, 0⟩] scope pos) scope X.env (firstIterPos [⟨tg, iter, ifs, 0⟩] pos) newDict false (eval iter X.env) (some (assign (.Name y py) X.env))) _ _ s
  have h : tDc wi g tt tk tv (own.map (·.2)) σ H (fun x H1 => gName i x σ H1 D.nx) := h
  refine wpAny_bind (thn (dc_core (Qf := fun _ s9 => SP X pins D .next s9) hc hN I hi ok hg ht hk he hs h fun L C s9 m H9 I9 q hn f => ?_) fun _ s9 hq => wpAny_pure (wpAny_pure hq))
  show wpAny _ _ (assign (.Name y py) X.env (.ref L)) _ _ _
  refine wpAny_assign_Name (store_ok2 (v := V.ref L) I9 hN hy (.inl hyl) rfl (fun s2 I2 ⟨a, sb, ha⟩ => ?_) (.inr hyl))
  obtain ⟨f0, f1, f2, f3, f4, f5⟩ := f
  have ne : C ≠ a := by
    rcases ha with z | z
    · rw [z]; exact f1
    · exact fun e => f4 y a z e.symm
  exact ⟨m, hn.sameBut sb ne, fun h3 sb3 => ⟨_, H9, I2.turned (t' := s2.toks) (fun b o hb e => (sb3.2 b hb).trans e) f0 f1 f3 f4 f5, q⟩⟩
end
theorem sw_trueD {kx vx : Expr} {gs : List Comprehension} {scope : Scope} {pos py : Pos} {y : Str} {l : Nat} {env : Env} (hk : env.scope.kind = .function) (hy : env.scope.names.lookup y = some .local) (hl : (py.line == pos.line) = true)
    (ha : (scope.names.any fun (n, k) => n == y && (k == .local || k == .cell)) = false) : swapsWith (.DictComp kx vx gs scope pos) (some (.Name y py)) l env = pure true := by
  have e1 : env.kindOf y = some .local := hy
  have e2 : env.blockKind = .function := by unfold Env.blockKind; rw [hk]; rfl
  unfold swapsWith
  simp only [e2, e1, ha, Expr.pos, hl]
  rfl
end Tw

/-! moves_all, takes_of, gives_of -/
namespace Tw
open PySem PySem.Spec PyProof.Rows L2
/-- more built-in names that the top leaves alone -/
structure Bm (mg : Str → Option Value) : Prop where
  dict : mg "dict" = none
  sorted : mg "sorted" = none
  set : mg "set" = none
  repr : mg "repr" = none
structure Cst (mg : Str → Option Value) : Prop where
  TAKE : ∃ t, mg "TAKE" = some (.str "take" t)
  GIVE : ∃ t, mg "GIVE" = some (.str "give" t)
def PrV (cn : Str → Nat) (H : Hp) (v : V) (z : Str) : Prop := ∃ q, v = .ref q ∧ H q = some (.tup [.str z, .int ((cn z : Nat) : Int)])
theorem prV_mono {cn : Str → Nat} : ∀ H H' v z, KpT H H' → PrV cn H v z → PrV cn H' v z := fun H H' v z k ⟨q, e, h⟩ => ⟨q, e, kpT_tup k h⟩
/-- a new list of pairs: the trays, rising, each with how many -/
def rPairs (H : Hp) (g : Bool) (acts : List Act) (Q : VK) : Prop := ∀ ys p H' vs, Ups (mvT g acts) ys → H p = none → Same H H' → H' p = some (.lst vs) → Paired (PrV (fun z => (mvT g acts).count z) H') vs ys → Q (.ref p) H'
def spMovesAll (K : PySem.W.Frag) : Sp := fun vs H Q _ => ∃ (p : Addr) (g : Bool) (xs : List V) (acts : List Act), vs = [.ref p, .str (mvW g)] ∧ CodeV K H p xs acts ∧ rPairs H g acts Q
def spTold (K : PySem.W.Frag) (g : Bool) : Sp := fun vs H Q _ => ∃ (p : Addr) (xs : List V) (acts : List Act), vs = [.ref p] ∧ CodeV K H p xs acts ∧ rPairs H g acts Q
theorem fm_some (ys : List Str) : ys.filterMap some = ys := by simp
theorem scMovesAll : FnScope ["code", "word", "trays", "act", "tray"] ["code", "word"] (defScope (topS 4)) := ⟨rfl, rfl, rfl, by decide +kernel, rfl, by decide +kernel, by decide +kernel⟩
theorem scTakesOf : FnScope ["code"] ["code"] (defScope (topS 5)) := ⟨rfl, rfl, rfl, by decide +kernel, rfl, by decide +kernel, by decide +kernel⟩
theorem scGivesOf : FnScope ["code"] ["code"] (defScope (topS 6)) := ⟨rfl, rfl, rfl, by decide +kernel, rfl, by decide +kernel, by decide +kernel⟩
section
variable {P : Program} {w : World} {K : PySem.W.Frag} {mg : Str → Option Value} {base : Heap}
theorem ok_moves_all {f : Addr} {fd : FuncData} {k k1 : Nat} (g : Bl mg) (gm : Bm mg) (Cmoves : Cal P w K mg base "moves" k1 ["code", "word", "tray"] (spMoves K)) (hmoves : k1 ≤ k) (F : Fun K "moves_all" "moves_all" (topS 4) f fd) : FnOk P w K mg base CX0 (k + 1) f fd ["code", "word"] (spMovesAll K) := by
  refine F.ok scMovesAll (fun vs H Q E h => ?_) (fun cdv A outer s H vs Q E hr h => ?_)
  · obtain ⟨p, g, xs, acts, rfl, _⟩ := h
    rfl
  · obtain ⟨p, b, xs, acts, rfl, C, q⟩ := h
    refine ⟨_, (pss_cons (ps_setDc (i := 2) (own := [("act", 3)]) (g := (gName 3)) (tt := _) rfl scMovesAll.nd rfl rfl (sw_trueD rfl rfl rfl (by decide +kernel)) (pi_tup' K (pv 0)) (blkOk_by (own := [("act", 3)]) (N := ["code", "word", "trays", "act", "tray"]) (sc := defScope (topS 4)) (by decide +kernel)) (fun _ _ _ _ _ => (pg_name (i := 3) scMovesAll.nd rfl (Or.inl rfl))) (fun _ _ _ _ _ => (pts_one (pt_cmpR op_eq (pe_ix (ix_tup' K) (pv 3) pe_int (fun _ _ => rfl)) (pv 1) (nomark _)))) (fun _ _ _ _ _ => (pe_ix (ix_tup' K) (pv 3) pe_int (fun _ _ => rfl))) (fun _ _ _ _ _ => pe_bl))
      (pss_one (ps_ret (pe_lc (own := [("tray", 4)]) (g := (gName 4)) (tt := tYes) rfl scMovesAll.nd (pi_list' K (pe_callB (call_sortedD rfl) (by rfl) gm.sorted PyProof.Rows.boot_sorted (pa_cons (pv 2) pa_nil))) (blkOk_by (own := [("tray", 4)]) (N := ["code", "word", "trays", "act", "tray"]) (sc := defScope (topS 4)) (by decide +kernel)) (fun _ _ _ _ _ => (pg_name (i := 4) scMovesAll.nd rfl (Or.inl rfl))) (fun _ _ _ _ _ => pts_nil) (fun _ _ _ _ _ => (pe_tupU (pa_cons (pv 4) (pa_cons (pe_c Cmoves hr hmoves (ha := (pa_cons (pv 0) (pa_cons (pv 1) (pa_cons (pv 4) pa_nil))))) pa_nil)))))))), ?_⟩
    have hxl := C.pa.length
    have hlen := C.len
    refine ⟨_, rfl, p, rfl, ⟨xs, C.sq⟩, fun D nD => ?_⟩
    have W := walk_tup (K := K) (a := p) (xs := xs)
    rw [hxl] at W
    refine dcF W (trayOf b) (fun t => Sum.inr t) (fun _ => .bl true) nD (by omega) (fun H' s' => same_sqt s' C.sq) ?_ ?_
    · intro i x a Hi Hi' R1 R0 ha si y h1 h0
      obtain ⟨rfl, hx⟩ := y
      obtain ⟨a', e', q', rfl, hq⟩ := paired_get C.pa hx
      rw [ha] at e'
      cases e'
      have hq := same_sqt si hq
      have oka := C.ok a (List.mem_of_getElem? ha)
      refine ⟨rfl, _, rfl, q', _, 0, _, rfl, rfl, hq, atI_nat (j := 0) (act_head a), _, rfl, rfl, _, rfl, ite2 (fun e => ?_) (fun e => ?_)⟩
      · have e : hwd a = mvW b := by
          have := of_decide_eq_true e
          injection this
        obtain ⟨t, e1, e2⟩ := act_tray oka e
        exact ⟨_, rfl, q', _, 1, _, rfl, rfl, hq, atI_nat (j := 1) e2, h1 t e1 _ (Same.refl _)⟩
      · have e : ¬ hwd a = mvW b := fun z => e (decide_eq_true (by rw [z]))
        exact h0 (act_none e) _ (Same.refl _)
    · intro H1 s1 c1
      obtain ⟨ks, ek, nd, mm⟩ := putAll_strs id (fun _ => V.bl true) (mvT b acts)
      have hkl : ks.length ≤ acts.length := Nat.le_trans (nodup_len nd fun k hk => by simpa using (mm k).mp hk) (mvT_len b acts)
      refine ⟨_, rfl, D, _, ks, rfl, .inl c1, ek, by omega, fun ys L pm srt nL => ?_⟩
      have U : Ups (mvT b acts) ys := ⟨pm.nodup_iff.mpr nd, srt, fun k => by rw [pm.mem_iff, mm]; simp⟩
      have hyl : ys.length ≤ acts.length := by rw [pm.length_eq]; exact hkl
      have sL : Same H1 (upd H1 L (.lst (ys.map V.str))) := same_new nL
      refine ⟨L, rfl, ⟨_, SqL.of upd_same⟩, fun D2 nD2 => ?_⟩
      have W := walk_list (K := K) (a := L) (xs := ys.map V.str)
      rw [List.length_map] at W
      refine lcF W some (PrV (fun z => (mvT b acts).count z)) prV_mono nD2 (by omega) (fun H' s' => SqL.of (s' _ _ upd_same)) ?_ ?_
      · intro i x z Hi Hi' R1 R0 ha si y h1 h0
        obtain ⟨rfl, hx⟩ := y
        rw [List.getElem?_map, ha] at hx
        cases hx
        refine ⟨rfl, _, rfl, _, rfl, _, rfl, _, rfl, p, b, z, xs, acts, rfl, C.same (same_trans s1 (same_trans sL si)), fun H2 s2 => ⟨(by decide : 2 ≤ 100000), fun qq H3 nq s3 c3 => h1 z rfl _ _ (same_trans s2 s3) ⟨qq, rfl, c3⟩⟩⟩
      · intro H3 vs s3 c3 pp
        rw [fm_some] at pp
        exact q ys D2 H3 vs U (fresh_of (same_trans s1 sL) nD2) (same_trans s1 (same_trans sL s3)) c3 pp
theorem ok_takes_of {f : Addr} {fd : FuncData} {k k1 : Nat} (c : Cst mg) (Cmoves_all : Cal P w K mg base "moves_all" k1 ["code", "word"] (spMovesAll K)) (hmoves_all : k1 ≤ k) (F : Fun K "takes_of" "takes_of" (topS 5) f fd) : FnOk P w K mg base CX0 (k + 1) f fd ["code"] (spTold K false) := by
  refine F.ok scTakesOf (fun vs H Q E h => ?_) (fun cdv A outer s H vs Q E hr h => ?_)
  · obtain ⟨p, xs, acts, rfl, _⟩ := h
    rfl
  · obtain ⟨p, xs, acts, rfl, C, q⟩ := h
    obtain ⟨ct, hct⟩ := c.TAKE
    refine ⟨_, (pss_one (ps_ret (pe_c Cmoves_all hr hmoves_all (ha := (pa_cons (pv 0) (pa_cons (pe_glob (v := .str "take") rfl hct ⟨_, rfl⟩) pa_nil)))))), ?_⟩
    exact ⟨_, rfl, p, false, xs, acts, rfl, C, q⟩
theorem ok_gives_of {f : Addr} {fd : FuncData} {k k1 : Nat} (c : Cst mg) (Cmoves_all : Cal P w K mg base "moves_all" k1 ["code", "word"] (spMovesAll K)) (hmoves_all : k1 ≤ k) (F : Fun K "gives_of" "gives_of" (topS 6) f fd) : FnOk P w K mg base CX0 (k + 1) f fd ["code"] (spTold K true) := by
  refine F.ok scGivesOf (fun vs H Q E h => ?_) (fun cdv A outer s H vs Q E hr h => ?_)
  · obtain ⟨p, xs, acts, rfl, _⟩ := h
    rfl
  · obtain ⟨p, xs, acts, rfl, C, q⟩ := h
    obtain ⟨ct, hct⟩ := c.GIVE
    refine ⟨_, (pss_one (ps_ret (pe_c Cmoves_all hr hmoves_all (ha := (pa_cons (pv 0) (pa_cons (pe_glob (v := .str "give") rfl hct ⟨_, rfl⟩) pa_nil)))))), ?_⟩
    exact ⟨_, rfl, p, true, xs, acts, rfl, C, q⟩
end
end Tw

/-! defs that run where no repr is under way; repr(x) of data, dicts within -/
namespace Tw
open PySem PySem.Spec PyProof.Rows L2
/-- a def's promise, kept wherever no repr is under way -/
structure FnOkG (P : Program) (w : World) (K : PySem.W.Frag) (mg : Str → Option Value) (base : Heap) (k : Nat) (f : Addr) (fd : FuncData) (ps : List Str) (sp : Sp) : Prop where
  len : ∀ vs H Q E, sp vs H Q E → vs.length = ps.length
  run : ∀ (A : Around) (outer : List Env) (s : Shared) (H : Hp) (args : Args) (us : List Value) (vs : List V) (Q : VK) (E : XK), Room k A → A.guards = some [] → Env0 P w K mg base A outer s H → BindsTo s fd args (ps.zip us) → Vals vs us → sp vs H Q E →
    codeAny (model P w) A (.call (.ref f) args) (CR CX0 outer P w H s Q E) s
section
variable {P : Program} {w : World} {K : PySem.W.Frag} {mg : Str → Option Value} {base : Heap}
theorem okG {x qual : Str} {st : Stmt} {f : Addr} {fd : FuncData} {N ps : List Str} {k : Nat} {sp : Sp} (F : Fun K x qual st f fd) (S : FnScope N ps (defScope st)) (len : ∀ vs H Q E, sp vs H Q E → vs.length = ps.length)
    (hbody : ∀ (cdv : Value) (A : Around) (outer : List Env) (s : Shared) (H : Hp) (vs : List V) (Q : VK) (E : XK), Room k (A.deeper (envOfC qual (defScope st) s.heap.objs.size f cdv)) → A.guards = some [] → sp vs H Q E →
      ∃ t, PSs (cxOf CX0 P w K mg base N qual (defScope st) f cdv A outer s H E).nox (defBody st) t ∧ t { nx := fun _ H' => Q .non H', rt := Q } (start N vs) H) : FnOkG P w K mg base (k + 1) f fd ps sp := by
  obtain ⟨oc, od, kV, doc, pm, an, cdv, ct, osl, rfl, lk, hcd⟩ := F.ex
  refine ⟨len, fun A outer s H args us vs Q E hr hg e0 hb r hsp => ?_⟩
  have hl := len _ _ _ _ hsp
  have up : ∀ b o, base.get? b = some o → s.heap.get? b = some o := fun b o e => (e0.bs b o e).1
  have KX : K.In s.heap := e0.mod.kin.keeps up
  have lim : s.heap.NoLimit := e0.mod.nolimit.keeps up
  refine codeAny_call_function hr.depth (KX _ _ lk) rfl S.co S.gen rfl (PySem.W.codeRec_of KX hcd) (hb _ _ _ _ ?_)
  refine wpAny_newFunctionEnv_cells S.kind (fun y hy => ?_) fun env he s1 hin => ?_
  · rcases S.par y.1 (List.of_mem_zip (show (y.1, y.2) ∈ _ from hy)).1 with q | q
    · exact .inl q
    · exact .inr ⟨q, PySem.W.cellsFrom_some _ _ _ (.inl q)⟩
  subst he
  refine ⟨lim.keeps hin.toInCall.keep, codeAny_func ?_⟩
  obtain ⟨t, ht, hq⟩ := hbody cdv A outer s H vs Q E (hr.deeper _) hg hsp
  have I := inv_start (CX := CX0) (E := E) S hr.hd e0 hl r hin
  refine wpAny_mono (ht.nox.run [] s1 (start N vs) H _ I hq) (fun fl s' hs => ?_) fun e s' hs => hs
  cases fl with
  | ret u =>
    obtain ⟨v, σ', H', J, rv, q⟩ := hs
    exact ⟨v, H', J.os, J.bare, J.base, J.hok, rv, q⟩
  | next =>
    obtain ⟨σ', H', J, q⟩ := hs
    exact ⟨.non, H', J.os, J.bare, J.base, J.hok, rfl, q⟩
  | brk => exact hs.elim fun _ h => h.elim fun _ h => h.2.elim
  | cont => exact hs.elim fun _ h => h.elim fun _ h => h.2.elim
end
/-- such a def of the top, by its name -/
structure CalG (P : Program) (w : World) (K : PySem.W.Frag) (mg : Str → Option Value) (base : Heap) (x : Str) (k : Nat) (ps : List Str) (sp : Sp) : Prop where
  ex : ∃ (f : Addr) (fd : FuncData), FnOkG P w K mg base k f fd ps sp ∧ mg x = some (.ref f) ∧ PySem.W.keepIn K (.ref f) = true ∧ Binds K fd ps []
section
variable {X : Cx} {x : Str} {j k : Nat} {ps : List Str} {sp : Sp} {e : Expr} {es : List Expr} {t : TA} {p pos : Pos}
theorem pe_cg (C : CalG X.prog X.w X.K X.mg X.base x k ps sp) (hr : Room j X.A) (gd : X.A.guards = some []) (hk : k ≤ j := by decide) (hg : Gl X x := by rfl) (ha : PA X (e :: es) t)
    (hdb : (x == ("__debug__" : Str)) = false := by decide) (he : starEach (e :: es) X.env = (false, eval e X.env) :: starEach es X.env := by rfl) (hpl : (backTo pos (starEach es X.env)).any (·.1) = false := by rfl) :
    PE X (.Call (.Name x p) (e :: es) [] pos) (tCall sp [] E0 t) := by
  obtain ⟨f, fd, F, hm, hkp, hb⟩ := C.ex
  refine ⟨fun pins s σ H Q I h => wpAny_Call_Name_kw (ld_glob I hg hm ?_ hdb)⟩
  refine PySem.W.callWith_K (h₀ := X.base) I.ok.mod.kin hkp (thn (ha.run pos pins s σ H _ I h) fun us s1 ⟨vs, H1, I1, r, q⟩ => ⟨I1.kIn, ?_⟩) he hpl
  have q' : sp (vs ++ []) H1 Q E0 := q
  rw [List.append_nil] at q'
  have hl : us.length = ps.length := by rw [← r.length]; exact F.len _ _ _ _ q'
  have hbd := hb s1 us I1.kIn (by rw [List.append_nil]; exact hl)
  rw [List.append_nil] at hbd
  refine wpAny_call (codeAny_mono (F.run X.A X.stack s1 H1 ⟨us, []⟩ us vs Q E0 (hr.mono hk) gd I1.env0 hbd r q') fun r s' hq => ?_)
  cases r with
  | error e => exact hq.elim
  | ok fl =>
    cases fl with
    | ret u => exact I1.after hq
    | next => exact False.elim hq
    | brk => exact False.elim hq
    | cont => exact False.elim hq
end
end Tw

/-! repr(x) of data, dicts within -/
namespace Tw
open PySem PySem.Spec PyProof.Rows L2
def kD : Key → PyData
  | .inl i => .int i
  | .inr x => .str x
mutual
inductive DR (K : PySem.W.Frag) (H : Hp) : V → PyData → Prop
  | non : DR K H .non .none
  | bl (b : Bool) : DR K H (.bl b) (.bool b)
  | int (i : Int) : DR K H (.int i) (.int i)
  | str (x : Str) : DR K H (.str x) (.str x)
  | lst {a : Addr} {xs : List V} {ds : List PyData} : SqL K H a xs → DRs K H xs ds → DR K H (.ref a) (.list ds)
  | tup {a : Addr} {xs : List V} {ds : List PyData} : SqT K H a xs → DRs K H xs ds → DR K H (.ref a) (.tuple ds)
  | dct {a : Addr} {kvs : List (Key × V)} {ds : List PyData} : Rd H a (.dK kvs) → DRs K H (kvs.map (·.2)) ds → DR K H (.ref a) (.dict ((kvs.map fun kv => kD kv.1).zip ds))
inductive DRs (K : PySem.W.Frag) (H : Hp) : List V → List PyData → Prop
  | nil : DRs K H [] []
  | cons {v : V} {vs : List V} {d : PyData} {ds : List PyData} : DR K H v d → DRs K H vs ds → DRs K H (v :: vs) (d :: ds)
end
mutual
theorem dr_mono {K : PySem.W.Frag} {H H' : Hp} (e : Same H H') : ∀ {v : V} {d : PyData}, DR K H v d → DR K H' v d
  | _, _, .non => .non
  | _, _, .bl b => .bl b
  | _, _, .int i => .int i
  | _, _, .str x => .str x
  | _, _, .lst h a => .lst (e.seq h) (drs_mono e a)
  | _, _, .tup h a => .tup (same_sqt e h) (drs_mono e a)
  | _, _, .dct h a => .dct (h.elim (fun z => .inl (e _ _ z)) fun ⟨o, z⟩ => .inr ⟨o, e _ _ z⟩) (drs_mono e a)
theorem drs_mono {K : PySem.W.Frag} {H H' : Hp} (e : Same H H') : ∀ {vs : List V} {ds : List PyData}, DRs K H vs ds → DRs K H' vs ds
  | _, _, .nil => .nil
  | _, _, .cons h a => .cons (dr_mono e h) (drs_mono e a)
end
theorem drs_len {K : PySem.W.Frag} {H : Hp} : ∀ {vs : List V} {ds : List PyData}, DRs K H vs ds → vs.length = ds.length
  | _, _, .nil => rfl
  | _, _, .cons _ a => congrArg Nat.succ (drs_len a)
mutual
theorem dp_dr {K : PySem.W.Frag} {H : Hp} : ∀ {v : V} {d : PyData}, Dp K H v d → DR K H v d
  | _, _, .non => .non
  | _, _, .bl b => .bl b
  | _, _, .int i => .int i
  | _, _, .str x => .str x
  | _, _, .lst h a => .lst h (dpa_drs a)
  | _, _, .tup h a => .tup h (dpa_drs a)
theorem dpa_drs {K : PySem.W.Frag} {H : Hp} : ∀ {vs : List V} {ds : List PyData}, DpAll K H vs ds → DRs K H vs ds
  | _, _, .nil => .nil
  | _, _, .cons h a => .cons (dp_dr h) (dpa_drs a)
end
/-- the heap behind the top has the dict of the modules -/
def SysB (base : Heap) : Prop := ∃ mm, base.Ns sysModules mm
theorem pairs_reads {P : Program} {w : World} {h : Heap} : ∀ {es : List DictEntry} {vs : List (Key × Value)} {kvs : List (Key × V)}, Pairs (mixKind P w) es vs → KV kvs vs →
    (∃ as, ReadsAll h (es.map (·.key)) (kvs.map fun kv => kD kv.1) as ∧ sysModules ∉ as) ∧ Vals (kvs.map (·.2)) (es.map (·.val))
  | _, _, _, .nil, .nil => ⟨⟨[], .nil, by simp⟩, .nil⟩
  | e :: es, kv :: vs, k' :: kvs, .cons h1 h2 r, .cons h3 h4 => by
    obtain ⟨⟨as, h5, h6⟩, h7⟩ := pairs_reads r h4
    obtain ⟨h31, h32⟩ := h3
    refine ⟨⟨[] ++ as, .cons ?_ h5, h6⟩, .cons (by show L2.RelV k'.2 e.val; rw [h2]; exact h32) h7⟩
    show Reads h e.key (kD k'.1) []
    rw [h31]
    rcases keyIs_shape h1 with ⟨i, t, ek, ev⟩ | ⟨x, t, ek, ev⟩
    · rw [ek, ev]
      exact .int i t
    · rw [ek, ev]
      exact .str x t
section
variable {X : Cx} {pins : List (Addr × Obj)} {σ : L2.St} {H : Hp} {s : Shared}
mutual
theorem DR.reads (I : Inv X pins σ H s) (hb : SysB X.base) : ∀ {v : V} {d : PyData} {u : Value}, DR X.K H v d → RelV v u → ∃ as, Reads s.heap u d as ∧ sysModules ∉ as
  | _, _, _, .non, r => by
    cases r
    exact ⟨_, Reads.none, by simp⟩
  | _, _, _, .bl b, r => by
    cases r
    exact ⟨_, Reads.bool b, by simp⟩
  | _, _, _, .int i, r => by
    obtain ⟨t, rfl⟩ := r
    exact ⟨_, Reads.int i t, by simp⟩
  | _, _, _, .str x, r => by
    obtain ⟨t, rfl⟩ := r
    exact ⟨_, Reads.str x t, by simp⟩
  | _, _, _, .lst (a := a) hs ha, r => by
    cases r
    obtain ⟨its, rv, ⟨o, n, ho, hc, _, hd⟩, _⟩ := I.list hs
    obtain ⟨as, hr, hn⟩ := DRs.reads I hb ha rv
    refine ⟨_, Reads.list ho hc hd hr, ?_⟩
    intro hm
    rcases List.mem_cons.mp hm with e | hm
    · obtain ⟨mm, o', es, ep, e1, e2, _⟩ := hb
      have := I.bk _ _ e1
      rw [e, ho] at this
      cases this
      rw [hd] at e2
      cases e2
    · exact hn hm
  | _, _, _, .tup hs ha, r => by
    cases r
    obtain ⟨its, rv, ⟨o, ho, hc, n, hd⟩, _⟩ := I.tuple hs
    obtain ⟨as, hr, hn⟩ := DRs.reads I hb ha rv
    exact ⟨_, Reads.tuple ho hc hd hr, hn⟩
  | _, _, _, .dct (kvs := kvs) (ds := ds) hs ha, r => by
    cases r
    obtain ⟨hz, hsm, vs, kv, o, es, ep, h1, hx, hdt, _, hp, _⟩ := dk_rd I.hok hs
    obtain ⟨⟨as, hk, hn1⟩, hv⟩ := pairs_reads (h := s.heap) hp kv
    obtain ⟨bs, hr, hn2⟩ := DRs.reads I hb ha hv
    have hl : (kvs.map fun kv => kD kv.1).length = ds.length := by
      have := drs_len ha
      rw [List.length_map] at this ⊢
      exact this
    refine ⟨_, Reads.dict (as := as) (bs := bs) h1 hx.1 hdt ?_ ?_, ?_⟩
    · rw [List.map_fst_zip (Nat.le_of_eq hl)]
      exact hk
    · rw [List.map_snd_zip (Nat.le_of_eq hl.symm)]
      exact hr
    · intro hm
      rcases List.mem_append.mp hm with hm | hm
      · rcases List.mem_cons.mp hm with e | hm
        · rw [← e] at hsm
          exact absurd hsm (by decide)
        · exact hn1 hm
      · exact hn2 hm
theorem DRs.reads (I : Inv X pins σ H s) (hb : SysB X.base) : ∀ {vs : List V} {ds : List PyData} {us : List Value}, DRs X.K H vs ds → Vals vs us → ∃ as, ReadsAll s.heap us ds as ∧ sysModules ∉ as
  | _, _, _, .nil, r => by
    cases r
    exact ⟨_, ReadsAll.nil, by simp⟩
  | _, _, _, .cons h1 h2, r => by
    cases r with
    | cons r1 r2 =>
      obtain ⟨as, q1, n1⟩ := DR.reads I hb h1 r1
      obtain ⟨bs, q2, n2⟩ := DRs.reads I hb h2 r2
      refine ⟨_, ReadsAll.cons q1 q2, fun hm => ?_⟩
      rcases List.mem_append.mp hm with hm | hm
      · exact n1 hm
      · exact n2 hm
end
end
def rRepr (K : PySem.W.Frag) : List V → Hp → VK → Prop := fun xs H Q => ∃ (a : Addr) (d : PyData), xs = [.ref a] ∧ DR K H (.ref a) d ∧ d.showable = true ∧ d.depth ≤ 60 ∧ d.shown.length ≤ sizeLine ∧ Q (.str d.shown) H
theorem call_repr' {X : Cx} (K : PySem.W.Frag) (hg : X.A.guards = some []) (hb : SysB X.base) (hu : X.A.units + 64 < cLine) (h : X.K = K := by rfl) : CallR X (.builtin "repr") (rRepr K) := by
  subst h
  intro pins s σ H xs us Q I r q
  obtain ⟨a, d, rfl, hd, hs, hdp, hz, q⟩ := q
  obtain rfl := Vals.ref1 r
  obtain ⟨as, hr, hn⟩ := DR.reads I hb hd (show RelV (.ref a) (.ref a) from rfl)
  exact repr_of_reads' hr hs (fun _ => hn) hg (by omega) (fun _ _ e => e) (fun h' u tk hk => ⟨.str d.shown, H, I.kept (t' := tk) hk, ⟨u, rfl⟩, q⟩) hz
end Tw

/-! the end, for a law whose def is kept where no repr is under way -/
namespace Tw
open PySem PySem.Spec PyProof.Rows L2
/-- the script alone is tracked, if the module does not hold it -/
def scriptH (K : PySem.W.Frag) (a : Addr) (vs : List Value) (ns : List Int) : Hp := fun b =>
  if b = a ∧ K.lookup a = none then some (.frz { cls := .type "list", data := .seq vs.toArray } (.lst (ns.map V.int))) else none
section
variable {P : Program} {w : World} {K : PySem.W.Frag} {mg mb : Str → Option Value} {a : Addr} {s₁ : Shared} {vs : List Value} {ns : List Int}
theorem scriptH_some {b : Addr} {u : HO} (h : scriptH K a vs ns b = some u) : b = a ∧ K.lookup a = none ∧ u = .frz { cls := .type "list", data := .seq vs.toArray } (.lst (ns.map V.int)) := by
  unfold scriptH at h
  by_cases c : b = a ∧ K.lookup a = none
  · rw [if_pos c] at h
    exact ⟨c.1, c.2, (Option.some.inj h).symm⟩
  · rw [if_neg c] at h
    cases h
theorem scriptH_only : Only (scriptH K a vs ns) := fun b => by
  cases e : scriptH K a vs ns b with
  | none => exact .inl rfl
  | some u =>
    obtain ⟨_, _, rfl⟩ := scriptH_some e
    exact .inr ⟨_, _, rfl⟩
theorem script_sq (KX : K.In s₁.heap) (ha : s₁.heap.get? a = some { cls := .type "list", data := .seq vs.toArray }) (hi : IntsAre vs ns) (hl : ns.length ≤ sizeLine) : SqL K (scriptH K a vs ns) a (ns.map V.int) := by
  cases hk : K.lookup a with
  | none => exact .inl (.inr ⟨_, if_pos ⟨rfl, hk⟩⟩)
  | some o =>
    have e := KX a o hk
    rw [ha] at e
    cases e
    exact .inr ⟨_, vs.toArray, _, hk, rfl, rfl, rfl, by rw [List.size_toArray, hi.length]; exact hl, by simpa using vals_ints hi⟩
theorem script_ok (ha : s₁.heap.get? a = some { cls := .type "list", data := .seq vs.toArray }) (hi : IntsAre vs ns) (hl : ns.length ≤ sizeLine) : HOk P w (scriptH K a vs ns) s₁.heap := fun b u z => by
  obtain ⟨rfl, _, rfl⟩ := scriptH_some z
  exact ⟨ha, by rw [List.length_map]; exact hl, vs, _, vals_ints hi, ha⟩
theorem lawG {k : Nat} {fa : Addr} {fd : FuncData} {x : Str} {sp : Sp} (KX : K.In s₁.heap) (hns : s₁.heap.Ns mainGlobals mg) (hb : s₁.heap.Ns builtinsNs mb) (hbb : ∀ x : Str, x ≠ "__name__" → mb x = bootBuiltins x) (hlim : s₁.heap.NoLimit) (hsy : SysB s₁.heap) (hg : s₁.gens = #[])
    (ha : s₁.heap.get? a = some { cls := .type "list", data := .seq vs.toArray }) (hi : IntsAre vs ns) (hl : ns.length ≤ sizeLine) (hr : Room k callerA)
    (F : ∀ base : Heap, K.In base → base.Ns mainGlobals mg → SysB base → FnOkG P w K mg base k fa fd [x] sp) (hbind : ∀ (s : Shared) (u : Value), BindsTo s fd ⟨[u], []⟩ [(x, u)])
    (hsp : ∀ H : Hp, Only H → SqL K H a (ns.map V.int) → sp [.ref a] H (fun v _ => v = .bl true) fun _ _ _ => False) :
    codeAny (model P w) callerA (.call (.ref fa) ⟨[.ref a], []⟩) (fun r s' => r = .ok (.ret (.bool true)) ∧ OldK s₁.heap s'.heap ∧ s'.os = s₁.os ∧ AllBare s'.gens) s₁ := by
  have up : ∀ {b : Addr} {o : Obj}, s₁.heap.get? b = some o → (scriptH K a vs ns) b = none → (hidT s₁.heap (scriptH K a vs ns)).get? b = some o := fun e n => hidT_get e n
  have nsK : ∀ {b : Addr} {m : Str → Option Value}, s₁.heap.Ns b m → (hidT s₁.heap (scriptH K a vs ns)).Ns b m := fun {b m} ⟨o, es, ep, e, d, r⟩ => by
    refine ⟨o, es, ep, up e ?_, d, r⟩
    cases q : scriptH K a vs ns b with
    | none => rfl
    | some u =>
      obtain ⟨rfl, _, _⟩ := scriptH_some q
      rw [ha] at e
      cases e
      cases d
  have kin : K.In (hidT s₁.heap (scriptH K a vs ns)) := fun b o e => up (KX b o e) (by
    cases q : scriptH K a vs ns b with
    | none => rfl
    | some u =>
      obtain ⟨rfl, hk, _⟩ := scriptH_some q
      rw [hk] at e
      cases e)
  have e0 : Env0 P w K mg (hidT s₁.heap (scriptH K a vs ns)) callerA [] s₁ (scriptH K a vs ns) :=
    ⟨rfl, ⟨kin, nsK hns, ⟨mb, nsK hb, hbb⟩, let ⟨mc, h1, h2⟩ := hlim; ⟨mc, nsK h1, h2⟩⟩, fun b o e => of_hidT e, Nat.le_of_eq (hidT_size _ _), trivial, fun b hm => absurd (show b ∈ ([] : List Addr) from hm) (by simp), script_ok ha hi hl, .of_eq hg⟩
  have sys : SysB (hidT s₁.heap (scriptH K a vs ns)) := let ⟨mm, h⟩ := hsy; ⟨mm, nsK h⟩
  refine codeAny_mono ((F _ kin (nsK hns) sys).run callerA [] s₁ (scriptH K a vs ns) ⟨[.ref a], []⟩ [.ref a] [.ref a] _ _ hr rfl e0 (hbind s₁ (.ref a)) (.cons rfl .nil) (hsp _ scriptH_only (script_sq KX ha hi hl))) fun r s' h => ?_
  cases r with
  | error e => exact h.elim
  | ok fl =>
    cases fl with
    | next => exact False.elim h
    | brk => exact False.elim h
    | cont => exact False.elim h
    | ret u =>
      obtain ⟨v, H', os, bare, un, hok', r', q⟩ := h
      obtain rfl : v = .bl true := q
      obtain rfl : u = Value.bool true := r'
      refine ⟨rfl, OldK.of_keep fun b o e => ?_, os, bare⟩
      cases q : scriptH K a vs ns b with
      | none => exact un.keep b o e q (by intro z; exact absurd (show b ∈ ([] : List Addr) from z) (by simp)) (by simp)
      | some u =>
        obtain ⟨rfl, _, rfl⟩ := scriptH_some q
        obtain ⟨e2, _⟩ := hok' _ _ (un.frzs _ _ _ q)
        rw [ha] at e
        cases e
        exact e2
end
theorem walk_ofG {l : PySem.W.OpenLaw} {n k : Nat} {q : Program} {loose : List Str} {XP : (Str → Option Value) → Heap → Prop} {YP : World → Heap → Prop} {d : DefRec} {K : Params → PySem.W.Frag} {sp : World → Sp} {x : Str}
    (hn : l.most = some n) (hn2 : n ≤ sizeLine) (hdf : d.params.defaults = []) (hr : Room k callerA) (him : importsNone q = true)
    (hY : ∀ (w : World) (h : Heap), YP w h → (K w.params).In h)
    (F : ∀ (w : World) (mg : Str → Option Value) (fa : Addr) (h : Heap), (K w.params).In h → h.Ns mainGlobals mg → mg d.name = some (.ref fa) →
      ∃ fd : FuncData, (∀ (s : Shared) (u : Value), BindsTo s fd ⟨[u], []⟩ [(x, u)]) ∧
        ∀ base : Heap, (K w.params).In base → base.Ns mainGlobals mg → SysB base → FnOkG l.prog w (K w.params) mg base k fa fd [x] (sp w))
    (hsp : ∀ (w : World) (H : Hp) (a : Addr) (ns : List Int), ns.length ≤ n → Only H → SqL (K w.params) H a (ns.map V.int) → sp w [.ref a] H (fun v _ => v = .bl true) fun _ _ _ => False) :
    PySem.W.WalkO q loose XP YP l.row.toRowW d [] (fun f vs => PySem.call f vs) := by
  refine Att.attach_call hn hdf fun w s₀ s₁ mg mb fa o pm cd doc a vs ns G Y ho hd hcd hmg hobj hints hlen hg => ?_
  have KX := hY w _ Y
  obtain ⟨fd, hb, hF⟩ := F w mg fa _ KX G.T.g hmg
  obtain ⟨mm, hm, _⟩ := (G.T.seer him).mods
  exact lawG KX G.T.g G.T.b G.T.builtins G.T.nolimit ⟨mm, hm⟩ hg hobj hints (Nat.le_trans hlen hn2) hr hF hb fun H hO hS => hsp w H a ns hlen hO hS
end Tw

/-! how long what repr tells can be -/
namespace Tw
open PySem PySem.Spec PyProof.Rows L2
structure Fit (n m : Nat) (d : PyData) : Prop where
  sh : d.showable = true
  lv : d.leavesShort 13 = true
  wt : d.weight ≤ n
  dp : d.depth ≤ m
theorem Fit.shown {n m : Nat} {d : PyData} (h : Fit n m d) (hn : n ≤ 1000000) : d.shown.length ≤ sizeLine := by
  have := PyData.shown_le 13 (by decide) d h.lv
  have h2 := h.wt
  have : sizeLine = 16777216 := rfl
  have h3 : (13 + 2) * d.weight ≤ 15 * 1000000 := Nat.mul_le_mul_left 15 (Nat.le_trans h2 hn)
  omega
theorem Fit.mono {n m n' m' : Nat} {d : PyData} (h : Fit n m d) (hn : n ≤ n') (hm : m ≤ m') : Fit n' m' d := ⟨h.sh, h.lv, Nat.le_trans h.wt hn, Nat.le_trans h.dp hm⟩
theorem fit_int {i : Int} (h1 : -999999999999 ≤ i) (h2 : i ≤ 999999999999) : Fit 41 1 (.int i) := by
  have hl : i.natAbs.log2 < 40 := by
    by_cases h0 : i.natAbs = 0
    · rw [h0]
      decide
    · rw [Nat.log2_lt h0]
      have : (2 : Nat) ^ 40 = 1099511627776 := by decide
      omega
  refine ⟨?_, ?_, ?_, ?_⟩
  · show decide (i.natAbs.log2 < 1920) = true
    exact decide_eq_true (by omega)
  · show decide ((PyData.shown (.int i)).length ≤ 13) = true
    exact decide_eq_true (PyData.shown_int_le2 h1 h2)
  · show (if i == 0 then 0 else i.natAbs.log2 + 1) ≤ 41
    split <;> omega
  · simp [PyData.depth]
theorem fit_str {x : Str} {n : Nat} (h : ∀ c ∈ x.cps.toList, c < 16 ^ 8) (hn : x.length ≤ n) : Fit n 1 (.str x) := by
  refine ⟨rfl, ?_, hn, ?_⟩
  · show (x.cps.toList.all fun c => decide (c < 16 ^ 8)) = true
    rw [List.all_eq_true]
    intro c hc
    exact decide_eq_true (h c hc)
  · simp [PyData.depth]
theorem fit_nm {x : Str} (h : IsNm x) : Fit 8 1 (.str x) := fit_str (fun c hc => by
  have := (h.2.2 c hc).2
  have : (16 : Nat) ^ 8 = 4294967296 := by decide
  omega) h.2.1
theorem fit_all {n m : Nat} : ∀ {ds : List PyData}, (∀ d ∈ ds, Fit n m d) → PyData.showableAll ds = true ∧ PyData.leavesShortAll 13 ds = true ∧ PyData.weightAll ds ≤ (n + 1) * ds.length ∧ PyData.depthAll ds ≤ m
  | [], _ => ⟨rfl, rfl, Nat.le_refl _, by simp [PyData.depthAll]⟩
  | d :: r, h => by
    obtain ⟨h1, h2, h3, h4⟩ := fit_all (ds := r) fun x hx => h x (List.mem_cons_of_mem _ hx)
    have hd := h d List.mem_cons_self
    refine ⟨?_, ?_, ?_, ?_⟩
    · show (d.showable && PyData.showableAll r) = true
      rw [hd.sh, h1]
      rfl
    · show (d.leavesShort 13 && PyData.leavesShortAll 13 r) = true
      rw [hd.lv, h2]
      rfl
    · show d.weight + 1 + PyData.weightAll r ≤ _
      have := hd.wt
      rw [List.length_cons, Nat.mul_add, Nat.mul_one]
      omega
    · have := hd.dp
      simp only [PyData.depthAll]
      omega
theorem fit_list {n m N : Nat} {ds : List PyData} (h : ∀ d ∈ ds, Fit n m d) (hN : (n + 1) * ds.length ≤ N) : Fit N (m + 1) (.list ds) := by
  obtain ⟨h1, h2, h3, h4⟩ := fit_all h
  refine ⟨h1, h2, Nat.le_trans h3 hN, ?_⟩
  simp only [PyData.depth]
  omega
theorem fit_tuple {n m N : Nat} {ds : List PyData} (h : ∀ d ∈ ds, Fit n m d) (hN : (n + 1) * ds.length ≤ N) : Fit N (m + 1) (.tuple ds) := by
  obtain ⟨h1, h2, h3, h4⟩ := fit_all h
  refine ⟨h1, h2, Nat.le_trans h3 hN, ?_⟩
  simp only [PyData.depth]
  omega
theorem fit_kv {n m : Nat} : ∀ {ps : List (PyData × PyData)}, (∀ p ∈ ps, Fit n m p.1 ∧ Fit n m p.2) → PyData.showableKv ps = true ∧ PyData.leavesShortKv 13 ps = true ∧ PyData.weightKv ps ≤ (2 * n + 2) * ps.length ∧ PyData.depthKv ps ≤ m
  | [], _ => ⟨rfl, rfl, Nat.le_refl _, by simp [PyData.depthKv]⟩
  | (a, b) :: r, h => by
    obtain ⟨h1, h2, h3, h4⟩ := fit_kv (ps := r) fun x hx => h x (List.mem_cons_of_mem _ hx)
    obtain ⟨ha, hb⟩ := h (a, b) List.mem_cons_self
    dsimp only at ha hb
    refine ⟨?_, ?_, ?_, ?_⟩
    · show (a.showable && b.showable && PyData.showableKv r) = true
      rw [ha.sh, hb.sh, h1]
      rfl
    · show (a.leavesShort 13 && b.leavesShort 13 && PyData.leavesShortKv 13 r) = true
      rw [ha.lv, hb.lv, h2]
      rfl
    · show a.weight + b.weight + 2 + PyData.weightKv r ≤ _
      have := ha.wt
      have := hb.wt
      rw [List.length_cons, Nat.mul_add, Nat.mul_one]
      omega
    · have := ha.dp
      have := hb.dp
      simp only [PyData.depthKv]
      omega
theorem fit_dict {n m N : Nat} {ps : List (PyData × PyData)} (h : ∀ p ∈ ps, Fit n m p.1 ∧ Fit n m p.2) (hN : (2 * n + 2) * ps.length ≤ N) : Fit N (m + 1) (.dict ps) := by
  obtain ⟨h1, h2, h3, h4⟩ := fit_kv h
  refine ⟨h1, h2, Nat.le_trans h3 hN, ?_⟩
  simp only [PyData.depth]
  omega
end Tw

/-! sorted(set(a list of texts)) -/
namespace Tw
open PySem PySem.Spec PyProof.Rows L2
/-- a new set -/
def nwS (w : World) : Obj := { cls := .type "set", dict := none, data := .set #[] 0 (.fresh 0 0 (!w.params.followText "set-order")) }
def txO (e : Int × Value) : Str := match e.2 with | .str k _ => k | _ => Str.empty
def TxE (w : World) (e : Int × Value) : Prop := ∃ k u, e.2 = Value.str k u ∧ e.1 = hashStr w k
/-- the entries of a set of texts, and its table -/
structure TxS (w : World) (S : Str → Bool) (es : Array (Int × Value)) (t : SetTable) : Prop where
  gd : ∀ e ∈ es.toList, TxE w e
  nd : (es.toList.map txO).Nodup
  mm : ∀ k, S k = true ↔ k ∈ es.toList.map txO
  sb : es.size < scanBound
  ft : t.fits es.size = true
  rs : Ris t.place.toList
  ld : w.params.followText "set-order" = true ∨ t.led = true
def SetS (w : World) (h : Heap) (a : Addr) (S : Str → Bool) (n : Nat) : Prop := ∃ o es ep t, h.get? a = some o ∧ o.ExactSet ∧ o.data = .set es ep t ∧ es.size = n ∧ TxS w S es t
section
variable {P : Program} {w : World} {h h' : Heap} {a : Addr} {S : Str → Bool} {n : Nat}
theorem SetS.up (R : SetS w h a S n) (k : ∀ o, h.get? a = some o → h'.get? a = some o) : SetS w h' a S n := by
  obtain ⟨o, es, ep, t, ho, r⟩ := R
  exact ⟨o, es, ep, t, k o ho, r⟩
theorem SetS.same {S' : Str → Bool} (R : SetS w h a S n) (e : ∀ k, S' k = S k) : SetS w h a S' n := by
  obtain rfl : S' = S := funext e
  exact R
theorem txE_elems {l : List (Int × Value)} (g : ∀ e ∈ l, TxE w e) : ElemsOf (PySem.strKind P w) l := fun e he => by
  obtain ⟨k, u, e1, e2⟩ := g e he
  refine ⟨⟨k, ?_, e2⟩, ?_⟩
  · rw [e1]
    exact strKind_is P w k u
  · rw [e1]
    rfl
theorem txE_is {e : Int × Value} (g : TxE w e) (k : Str) : (PySem.strKind P w).is k e.2 = true ↔ txO e = k := by
  obtain ⟨k0, u, e1, _⟩ := g
  have ek : txO e = k0 := by
    unfold txO
    rw [e1]
  rw [ek, e1]
  constructor
  · intro z
    obtain ⟨t, q⟩ := Value.isStrOf_shape (x := k) (v := .str k0 u) z
    injection q
  · rintro rfl
    exact strKind_is P w _ u
theorem txE_mem {l : List (Int × Value)} (g : ∀ e ∈ l, TxE w e) (k : Str) : k ∈ l.map txO ↔ ∃ e ∈ l, (PySem.strKind P w).is k e.2 = true := by
  rw [List.mem_map]
  exact ⟨fun ⟨e, m, q⟩ => ⟨e, m, (txE_is (g e m) k).2 q⟩, fun ⟨e, m, q⟩ => ⟨e, m, (txE_is (g e m) k).1 q⟩⟩
theorem SetS.gen (R : SetS w h a S n) : h.SetOf (PySem.strKind P w) a S n := by
  obtain ⟨o, es, ep, t, ho, hx, hd, hn, T⟩ := R
  exact ⟨o, es, ep, t, ho, hx, hd, txE_elems T.gd, fun k => (T.mm k).trans (txE_mem T.gd k), T.sb, T.ft, hn⟩
end
section
variable {P : Program} {w : World} {A : Around} {E : Value → Shared → Prop} {s : Shared} {a : Addr} {S : Str → Bool} {n : Nat}
theorem setS_tail {g : Bool → Sem Unit} (hg : ∀ (b : Bool) (s1 : Shared) (Q1 : Unit → Shared → Prop), Q1 () s1 → wpAny (model P w) A (g b) Q1 E s1)
    {o : Obj} {es es1 : Array (Int × Value)} {ep : Nat} {t t2 : SetTable} {S1 : Str → Bool} (lo : s.heap.get? a = some o) (ex : o.ExactSet) (dt : o.data = .set es ep t) (T : TxS w S1 es1 t2) {wd : Bool} {R : Option Bool → Shared → Prop}
    (hR : ∀ h1, Heap.SameBut a s.heap h1 → SetS w h1 a S1 es1.size → R (some true) { s with heap := h1 }) :
    wpAny (model P w) A (do
        storeSet a es1 t2
        if (!wd && t2.tooFull) = true then do
            g (relayAll t2 es1 (SetTable.grown es1.size)).2.2
            storeSet a (relayAll t2 es1 (SetTable.grown es1.size)).1 (relayAll t2 es1 (SetTable.grown es1.size)).2.1
            pure (some true)
          else pure (some true)) R E s := by
  refine wpAny_bind (wpAny_storeSet_of lo dt ?_ (fits_of_scanBound T.sb))
  have lo1 := store_at (es' := es1) (t' := t2) lo dt
  have same1 := Heap.SameBut.update s.heap a (Obj.putSet es1 t2)
  split
  · have p1 := relayAll_perm t2 es1 (SetTable.grown es1.size)
    have p2 := relayAll_fits t2 es1 (SetTable.grown es1.size)
    have p3 := relayAll_ris t2 es1 (SetTable.grown es1.size)
    have p4 := relayAll_led t2 es1 (SetTable.grown es1.size)
    generalize relayAll t2 es1 (SetTable.grown es1.size) = Y at p1 p2 p3 p4 ⊢
    obtain ⟨es2, t3, gv⟩ := Y
    dsimp only at p1 p2 p3 p4 ⊢
    have z2 : es2.size = es1.size := by rw [← Array.length_toList, p1.length_eq, Array.length_toList]
    have b2 : es2.size < scanBound := by rw [z2]; exact T.sb
    refine wpAny_bind (hg _ _ _ ?_)
    refine wpAny_bind (wpAny_storeSet_of lo1 rfl ?_ (fits_of_scanBound b2))
    have lo2 := store_at (es' := es2) (t' := t3) lo1 rfl
    refine wpAny_pure (hR _ (same1.trans (Heap.SameBut.update _ a _)) ⟨_, es2, _, t3, lo2, ex, rfl, z2, ?_⟩)
    exact ⟨fun e he => T.gd e (p1.mem_iff.mp he), (p1.map txO).nodup_iff.mpr T.nd, fun k => (T.mm k).trans (p1.map txO).mem_iff.symm, b2, p2, p3, T.ld.imp id fun z => by rw [p4]; exact z⟩
  · exact wpAny_pure (hR _ same1 ⟨_, es1, _, t2, lo1, ex, rfl, rfl, T⟩)
theorem setS_add {k : Str} {u : Tok} {Q : Bool → Shared → Prop} (R : SetS w s.heap a S n) (room : n + 1 < scanBound)
    (hQ : ∀ h1, Heap.SameBut a s.heap h1 → SetS w h1 a (fun j => S j || decide (j = k)) (if S k = true then n else n + 1) → Q (!S k) { s with heap := h1 }) :
    wpAny (model P w) A (setAddHashed a (.str k u) (hashStr w k)) Q E s := by
  obtain ⟨o, es, ep, t, lo, ex, dt, hn, T⟩ := R
  have isk : (PySem.strKind P w).is k (.str k u) = true := strKind_is P w k u
  have scn : (Value.str k u).scannable = true := rfl
  have els : ElemsOf (PySem.strKind P w) es.toList := txE_elems T.gd
  unfold setAddHashed setAddHashedIn
  refine wpAny_holding (wpAny_bind (wpAny_setState_of lo dt T.ft ?_))
  dsimp only
  rw [byScan_of scn T.sb els]
  simp only [↓reduceIte]
  unfold setAddByScan
  refine wpAny_bind ?_
  refine wpAny_bind (wpAny_rule ?_)
  refine wpAny_bind (wpAny_setScan_of isk lo dt T.ft els ?_)
  cases fi : List.findIdx? (fun e => (PySem.strKind P w).is k e.2) es.toList with
  | some j =>
    dsimp only
    obtain ⟨jl, jp, _⟩ := List.findIdx?_eq_some_iff_getElem.mp fi
    have sk : S k = true := (T.mm k).2 ((txE_mem (P := P) (w := w) T.gd k).2 ⟨es.toList[j], List.getElem_mem jl, jp⟩)
    refine wpAny_pure (wpAny_pure ?_)
    have q := hQ s.heap (Heap.SameBut.refl a s.heap) ⟨o, es, ep, t, lo, ex, dt, by rw [if_pos sk]; exact hn, T.gd, T.nd, fun i => by
      rw [Bool.or_eq_true, decide_eq_true_eq, ← T.mm i]
      exact ⟨fun z => z.elim id (fun e => e ▸ sk), .inl⟩, T.sb, T.ft, T.rs, T.ld⟩
    rw [sk] at q
    exact q
  | none =>
    dsimp only
    have nk : k ∉ es.toList.map txO := fun z => by
      obtain ⟨e, he, q⟩ := (txE_mem (P := P) (w := w) T.gd k).1 z
      have c := List.findIdx?_eq_none_iff.mp fi e he
      rw [q] at c
      cases c
    have sk : S k = false := by
      cases q : S k with
      | false => rfl
      | true => exact absurd ((T.mm k).1 q) nk
    have gw : ∀ (b : Bool) {s1 : Shared} {Q1 : Unit → Shared → Prop}, Q1 () s1 → wpAny (model P w) A (match b with | true => rule "set.scan.the-table-gave-way" | false => pure ()) Q1 E s1 :=
      fun b s1 Q1 q => by cases b <;> first | exact wpAny_pure q | exact wpAny_rule q
    have p1 := layNew_perm t es (hashStr w k) (.str k u)
    have p2 := layNew_fits t es (hashStr w k) (.str k u)
    have p3 := layNew_ris t es (hashStr w k) (.str k u) T.rs
    have p4 := layNew_led t es (hashStr w k) (.str k u)
    generalize layNew t es (hashStr w k) (.str k u) = Y at p1 p2 p3 p4 ⊢
    obtain ⟨es1, t1, wd, gv⟩ := Y
    dsimp only at p1 p2 p3 p4 ⊢
    rw [Array.toList_push] at p1
    have pc : es1.toList.Perm ((hashStr w k, Value.str k u) :: es.toList) := p1.trans (List.perm_append_singleton _ _)
    have pk : (es1.toList.map txO).Perm (k :: es.toList.map txO) := pc.map txO
    have z1 : es1.size = n + 1 := by rw [← Array.length_toList, pc.length_eq, List.length_cons, Array.length_toList, hn]
    have TT : ∀ t9 : SetTable, t9.fits es1.size = true → Ris t9.place.toList → t9.led = t.led → TxS w (fun j => S j || decide (j = k)) es1 t9 := fun t9 f9 r9 l9 => by
      refine ⟨fun e he => ?_, pk.nodup_iff.mpr (List.nodup_cons.mpr ⟨nk, T.nd⟩), fun i => ?_, by rw [z1]; exact room, f9, r9, T.ld.imp id fun z => by rw [l9]; exact z⟩
      · rcases List.mem_cons.mp (pc.mem_iff.mp he) with z | z
        · rw [z]; exact ⟨k, u, rfl, rfl⟩
        · exact T.gd e z
      · rw [Bool.or_eq_true, decide_eq_true_eq, T.mm i, pk.mem_iff, List.mem_cons]
        exact Or.comm
    have fin : ∀ h1, Heap.SameBut a s.heap h1 → SetS w h1 a (fun j => S j || decide (j = k)) es1.size → Q true { s with heap := h1 } := fun h1 sb r => by
      have q := hQ h1 sb
      rw [sk] at q
      rw [z1] at r
      exact q r
    refine wpAny_bind (gw _ ?_)
    split
    · refine wpAny_bind ?_
      rw [hashByValue_scannable 8 scn]
      refine wpAny_pure ?_
      refine setS_tail ?_ lo ex dt (TT _ ?_ ?_ ?_) ?_
      · intro b s1 Q1 q; cases b <;> first | exact wpAny_pure q | exact wpAny_rule q
      · first | (split <;> first | exact p2 | exact SetTable.fits_plain_off p2) | exact p2
      · first | (split <;> exact p3) | exact p3
      · first | (split <;> exact p4) | exact p4
      · intro h1 sb r; dsimp only; exact wpAny_pure (fin h1 sb r)
    · refine wpAny_bind (wpAny_pure ?_)
      simp only [↓reduceIte]
      refine setS_tail ?_ lo ex dt (TT _ p2 p3 p4) ?_
      · intro b s1 Q1 q; cases b <;> first | exact wpAny_pure q | exact wpAny_rule q
      · intro h1 sb r; dsimp only; exact wpAny_pure (fin h1 sb r)
theorem setS_empty {h : Heap} {zs : List Str} (ho : h.get? a = some (nwS w)) : SetS w h a (fun j => decide (j ∈ zs.take 0)) 0 := by
  refine ⟨_, #[], 0, _, ho, ⟨rfl, rfl, rfl⟩, rfl, rfl, (fun e he => by simp at he), (by simp), (fun k => by simp), (by decide), (by rfl), List.Pairwise.nil, ?_⟩
  show _ ∨ (!w.params.followText "set-order") = true
  cases w.params.followText "set-order" with
  | false => exact .inr rfl
  | true => exact .inl rfl
theorem upd_texts {I : Addr} {fp wr : List Addr} {G : Array GenState → Array GenState → Prop} {n : Nat} {Pv : Nat → Value → Prop} {St : Nat → Shared → Prop} {R : Result → Shared → Prop}
    (W : WalksS P w A.in1 I fp wr G n Pv St) (D : Addr) (hD : D ∉ fp) (zs : List Str) (hn : n = zs.length) (hb : zs.length + 1 < scanBound) (hv : ∀ i v, Pv i v → ∃ k u, zs[i]? = some k ∧ v = .str k u) :
    ∀ (m i : Nat) (s : Shared), n - i = m → i ≤ n → St i s → (∃ c, c ≤ i ∧ SetS w s.heap D (fun j => decide (j ∈ zs.take i)) c) →
      (∀ s1 c, Moved (D :: wr) G s s1 → c ≤ n → SetS w s1.heap D (fun j => decide (j ∈ zs)) c → R (.ok (.ret .none)) s1) →
      codeAny (model P w) A (.builtin "set.update.loop" ⟨[.ref D, .ref I], []⟩) R s := by
  have dw : D ∉ wr := fun z => hD (W.sub _ z)
  have up : ∀ b ∈ wr, b ∈ D :: wr := fun b z => List.mem_cons_of_mem _ z
  intro m
  induction m with
  | zero =>
    intro i s hm hi st ⟨c, hc, hS⟩ hR
    obtain rfl : i = n := by omega
    refine codeAny_builtin F.entry_set_update_loop ?_
    rw [Around.under_plainId F.plain_set_update_loop _]
    show wpAny _ A.in1 (pyNext (.ref I) >>= _) _ _ s
    refine wpAny_bind (W.done s _ _ st fun s1 mv => ?_)
    show wpAny _ A.in1 (ret Value.none) _ _ s1
    have e : zs.take i = zs := List.take_of_length_le (by omega)
    rw [e] at hS
    exact wpAny_pure (hR s1 c (mv.mono up) hc (hS.up fun o e => mv.heap D o dw e))
  | succ m ih =>
    intro i s hm hi st ⟨c, hc, hS⟩ hR
    have lt : i < n := by omega
    refine codeAny_builtin F.entry_set_update_loop ?_
    rw [Around.under_plainId F.plain_set_update_loop _]
    show wpAny _ A.in1 (pyNext (.ref I) >>= _) _ _ s
    refine wpAny_bind (W.item i s _ _ lt st fun v s1 hP st1 mv => ?_)
    obtain ⟨z, u, hz, rfl⟩ := hv i v hP
    have hS1 : SetS w s1.heap D (fun j => decide (j ∈ zs.take i)) c := hS.up fun o e => mv.heap D o dw e
    show wpAny _ A.in1 (holding [Value.str z u] (setAdd D (.str z u)) >>= _) _ _ s1
    refine wpAny_bind (wpAny_holding ?_)
    unfold setAdd
    refine wpAny_holding ?_
    refine wpAny_bind ((PySem.strKind P w).pyHash (k := z) (strKind_is _ _ _ _) ?_)
    refine setS_add (s := { s1 with toks := s1.toks + 1 }) hS1 (by omega) fun h1 sm hS2 => ?_
    have hS3 : SetS w h1 D (fun j => decide (j ∈ zs.take (i + 1))) (if decide (z ∈ zs.take i) = true then c else c + 1) := hS2.same fun j => by
      rw [List.take_add_one, hz]
      simp [List.mem_append]
    have c3 : (if decide (z ∈ zs.take i) = true then c else c + 1) ≤ i + 1 := by
      split <;> omega
    refine wpAny_pure ⟨plainId_quiet F.plain_set_update_loop _, ih (i + 1) _ (by omega) lt (W.frame _ s1 _ _ st1 (Nat.le_succ _) fun b hb o e => ?_) ⟨_, c3, hS3⟩ fun s2 c2 mv2 hc2 hS2 => ?_⟩
    · rw [sm.2 b (fun z : b = D => hD (by rw [← z]; exact hb))]; exact e
    · refine hR s2 c2 (Moved.trans W.gtrans ((mv.mono up).then_heap (Nat.le_succ _) fun b o hb e => ?_) mv2) hc2 hS2
      rw [sm.2 b (fun z : b = D => hb (by rw [z]; exact List.mem_cons_self))]; exact e
theorem call_set_texts {l : Addr} {its : Array Value} (zs : List Str) {Q : Value → Shared → Prop} (hh : A.handled = none) (hl : s.heap.IsList l its) (hit : ∀ (i : Nat) (v : Value), its[i]? = some v → ∃ k u, zs[i]? = some k ∧ v = .str k u) (hsz : its.size = zs.length) (hb : zs.length + 1 < scanBound)
    (h : ∀ (h1 : Heap) (tk c : Nat), SetS w h1 s.heap.objs.size (fun j => decide (j ∈ zs)) c → c ≤ zs.length → (∀ b o, s.heap.get? b = some o → h1.get? b = some o) → Q (.ref s.heap.objs.size) { s with heap := h1, toks := tk }) :
    wpAny (model P w) A (call (.type "set") [.ref l]) Q E s := by
  obtain ⟨c, tl, k1⟩ := F.called_set.mro
  have k2 := F.called_set.made
  have k3 := F.called_set.sub
  refine wpAny_call (codeAny_of_tree ?_)
  show wpAny _ _ (callAny (.type "set") _) _ _ _
  refine wpAny_pure ⟨Code.quiet_builtin _ (by decide +kernel), codeAny_builtin F.entry_type_call ?_⟩
  rw [Around.under_plain (weight_type_call_type "set" [.ref l] []) rfl]
  have k4 := F.called_set.notType
  have k5 := F.called_set.canCreate
  have k6 := F.typeCall_set_1 (.ref l)
  repeat (any_goals (first | assumption | wp_step))
  refine codeAny_mono (code_set_led1 (.ref l) (E := E) (Q₁ := fun ob s1 => ob = .ref s.heap.objs.size ∧ s1 = { s with heap := s.heap.push (nwS w) }) ⟨rfl, rfl⟩) fun r s1 hr => ?_
  cases r with
  | error e => exact hr
  | ok fl =>
    cases fl with
    | ret ob =>
      obtain ⟨rfl, rfl⟩ := hr
      have hS : (s.heap.push (nwS w)).get? s.heap.objs.size = some (nwS w) := Heap.get?_push_size _ rfl
      have hT : Shared.TypeIs { s with heap := s.heap.push (nwS w) } (.ref s.heap.objs.size) "set" := ⟨_, hS, rfl⟩
      have k7 := F.called_set.init.lookup
      have k8 := F.called_set.init.bind (.ref s.heap.objs.size)
      repeat (any_goals (first | assumption | wp_step))
      refine codeAny_mono (codeAny_call_builtin (R := wants (fun r s2 => r = .none ∧ ∃ h1 tk c, s2 = { s with heap := h1, toks := tk } ∧ SetS w h1 s.heap.objs.size (fun j => decide (j ∈ zs)) c ∧ c ≤ zs.length ∧
          (∀ b o, s.heap.get? b = some o → h1.get? b = some o)) E) F.called_set.init.plain F.entry_set_init (check_set_init_1 hT ?_)) fun r2 s2 hr2 => ?_
      · obtain ⟨ol, lol, c1, nl, d1⟩ := hl
        obtain ⟨ocl, odi, oda, osl⟩ := ol
        simp only at c1 d1
        subst c1; subst d1
        have lol1 : (s.heap.push (nwS w)).get? l = some { cls := .type "list", dict := odi, data := .seq its nl, slots := osl } := Heap.get?_push_of_some _ lol
        have k9 := PySem.F.sub_list_set
        have k10 := PySem.F.sub_list_frozenset
        have k11 : (Value.type "list" == Value.type "dict") = false := by decide
        have hl1 : (s.heap.push (nwS w)).IsList l its := ⟨_, lol1, rfl, nl, rfl⟩
        unfold Builtin.«set.__init__» noKeywords Builtin.Frozenset.updateFrom
        generalize hPI : pyIter = PI
        wp_walk
        subst hPI
        refine wpAny_pyIter_list hl1 ?_
        refine wpAny_bind (wpAny_runValue ?_)
        have lS : l < s.heap.objs.size := Heap.lt_size lol
        have hh3 : A.in1.in1.in1.handled = none := by simp [hh]
        have nI : l ≠ (s.heap.push (nwS w)).objs.size := by
          rw [Heap.size_push]; exact Nat.ne_of_lt (Nat.lt_succ_of_lt lS)
        have Sf : s.heap.objs.size ∉ [(s.heap.push (nwS w)).objs.size, l] := by
          rw [Heap.size_push]; simp only [List.mem_cons, List.mem_singleton, List.not_mem_nil, or_false, not_or]
          exact ⟨Nat.ne_of_lt (Nat.lt_succ_self _), Nat.ne_of_gt lS⟩
        refine upd_texts ((Walks.list hh3 _ l nI its).toS) s.heap.objs.size Sf zs hsz hb hit (its.size - 0) 0 _ (by omega) (Nat.zero_le _)
          ⟨⟨_, Heap.get?_push_size _ rfl, rfl, rfl⟩, (hl1.push _)⟩ ?hS0 ?hR
        case hS0 =>
          exact ⟨0, Nat.le_refl 0, setS_empty (Heap.get?_push_of_some _ hS)⟩
        case hR =>
          intro s3 c3 mv hc3 hS3
          obtain ⟨h3, g3, d3, tk3, os3⟩ := s3
          have eg : g3 = s.gens := mv.gens
          have ed : d3 = s.drawn := mv.drawn
          have eo : os3 = s.os := mv.os
          subst eg; subst ed; subst eo
          show wpAny _ _ _ _ _ _
          refine wpAny_pure ?_
          show wpAny _ _ (ret Value.none) _ _ _
          rw [hsz] at hc3
          refine wpAny_pure ⟨rfl, h3, tk3, c3, rfl, hS3, hc3, fun b o e => ?_⟩
          have b0 : b < s.heap.objs.size := Heap.lt_size e
          have b2 : b ≠ (s.heap.push (nwS w)).objs.size := by
            rw [Heap.size_push]; exact Nat.ne_of_lt (Nat.lt_succ_of_lt b0)
          exact mv.heap b o (by simp only [List.mem_cons, List.mem_singleton, List.not_mem_nil, or_false, not_or]; exact ⟨Nat.ne_of_lt b0, b2⟩) (Heap.get?_push_of_some _ (Heap.get?_push_of_some _ e))
      · cases r2 with
        | error e => exact hr2
        | ok f2 =>
          cases f2 with
          | ret r =>
            obtain ⟨rfl, h1, tk, c1, rfl, hS1, hc1, hk1⟩ := hr2
            repeat (any_goals (first | assumption | wp_step))
            exact h _ _ _ hS1 hc1 hk1
          | _ => exact hr2.elim
    | _ => exact hr.elim
end
end Tw

namespace Tw
open PySem PySem.Spec PyProof.Rows L2
/-- the set of texts at a -/
def SetTx (w : World) (a : Addr) (S : Str → Bool) (n : Nat) : HO := .ext fun h => SetS w h a S n
theorem setTx_new {w : World} {P : Program} {H : Hp} {h : Heap} {a : Addr} {S : Str → Bool} {n : Nat} (R : SetS w h a S n) : ObjOk P w H h a (SetTx w a S n) := by
  have ⟨o, _, _, _, ho, _⟩ := R
  exact ⟨R, ⟨o, ho⟩, fun _ _ p k => SetS.up p k⟩
theorem strs_of_vals : ∀ {zs : List Str} {us : List Value}, Vals (zs.map V.str) us → ∀ (i : Nat) (v : Value), us[i]? = some v → ∃ k u, zs[i]? = some k ∧ v = .str k u
  | [], _, .nil, i, v, e => by simp at e
  | z :: r, _, .cons h a, 0, v, e => by
    obtain ⟨u, rfl⟩ := h
    simp at e
    exact ⟨z, u, rfl, e.symm⟩
  | z :: r, _, .cons h a, i + 1, v, e => by
    obtain ⟨k, u, h1, h2⟩ := strs_of_vals a i v (by simpa using e)
    exact ⟨k, u, by simpa using h1, h2⟩
theorem strsAre_out : ∀ (l : List Value), (∀ v ∈ l, ∃ k u, v = Value.str k u) → ∃ ks, StrsAre l ks ∧ ks = l.map fun v => txO (0, v)
  | [], _ => ⟨[], .nil, rfl⟩
  | v :: l, h => by
    obtain ⟨k, u, rfl⟩ := h v List.mem_cons_self
    obtain ⟨ks, h1, h2⟩ := strsAre_out l fun x hx => h x (List.mem_cons_of_mem _ hx)
    exact ⟨k :: ks, .cons k u h1, by rw [h2]; rfl⟩
section
variable {X : Cx}
/-- set(l) of a list of texts -/
def rSetL (w : World) (K : PySem.W.Frag) : List V → Hp → VK → Prop := fun xs H Q => ∃ (l : Addr) (zs : List Str), xs = [.ref l] ∧ SqL K H l (zs.map V.str) ∧ zs.length ≤ 100 ∧ ∀ p H' c, H p = none → Same H H' → H' p = some (SetTx w p (fun j => decide (j ∈ zs)) c) → c ≤ zs.length → Q (.ref p) H'
theorem cr_setL (hc : X.calm = true) (K : PySem.W.Frag) (w : World) (h : X.K = K := by rfl) (hw : X.w = w := by rfl) : CallR X (.type "set") (rSetL w K) := by
  subst h hw
  intro pins s σ H xs us Q I r q
  obtain ⟨l, zs, rfl, hl, hz, q⟩ := q
  obtain rfl := Vals.ref1 r
  obtain ⟨its, rv, ⟨o, n, ho, hcl, _, hd⟩, _⟩ := I.list hl
  have hlen : its.length = zs.length := by
    rw [← rv.length, List.length_map]
  refine call_set_texts (l := l) (its := its.toArray) zs (I.ok.hd hc) ⟨o, ho, hcl, n, hd⟩ (fun i v e => strs_of_vals rv i v (by simpa using e)) (by simpa using hlen) (by
    have : scanBound = 4096 := rfl
    omega) fun h1 tk c hS hcz hk => ?_
  have fr := I.hok.fresh (Nat.le_refl s.heap.objs.size)
  have J : Inv X pins σ (upd H s.heap.objs.size (SetTx X.w s.heap.objs.size (fun j => decide (j ∈ zs)) c)) { s with heap := h1, toks := tk } := I.laid (t' := tk) hk (Nat.le_refl _) (setTx_new hS)
  exact ⟨.ref s.heap.objs.size, _, J, rfl, q _ _ c fr (same_new fr) upd_same hcz⟩
/-- sorted(s) of a set of texts, fewer than 64 -/
def rSortTx (w : World) : List V → Hp → VK → Prop := fun xs H Q => ∃ (a : Addr) (S : Str → Bool) (n : Nat), xs = [.ref a] ∧ H a = some (SetTx w a S n) ∧ n < 64 ∧ ∀ ys p H', ys.Nodup → (∀ k, k ∈ ys ↔ S k = true) → sortedS ys = true → ys.length = n → H p = none → Same H H' → H' p = some (.lst (ys.map V.str)) → Q (.ref p) H'
theorem cr_sortTx (hc : X.calm = true) (w : World) (hw : X.w = w := by rfl) : CallR X (.builtin "sorted") (rSortTx w) := by
  subst hw
  intro pins s σ H xs us Q I r q
  obtain ⟨a, S, n, rfl, ha, h64, q⟩ := q
  obtain rfl := Vals.ref1 r
  obtain ⟨o, es, ep, t, lo, ex, dt, hn, T⟩ : SetS X.w s.heap a S n := (I.hok a _ ha).1
  refine Calls.call_function_entry kind_sorted plain_sorted entry_sorted (args_sorted1 _) ?_
  unfold Builtin.«sorted»
  refine wpAny_bind (m := checkCount "sorted" 1 1 _) (wpAny_pure ?_)
  refine wpAny_bind (collect_set (A := X.A.in1) (I.ok.hd hc) ⟨o, lo, ex.1, dt⟩ T.ft T.sb T.rs T.ld fun s1 vs k1 z1 g1 o1 pm => ?_)
  have hvl : vs.length = n := by rw [pm.length_eq, List.length_map, Array.length_toList]; exact hn
  obtain ⟨ks, hS, hks⟩ := strsAre_out vs fun v hv => by
    obtain ⟨e, he, rfl⟩ := List.mem_map.mp (pm.mem_iff.mp hv)
    obtain ⟨k, u, e1, _⟩ := T.gd e he
    exact ⟨k, u, e1⟩
  have pk : ks.Perm (es.toList.map txO) := by
    have q := pm.map (fun v => txO (0, v))
    rw [List.map_map] at q
    rw [hks]
    exact q
  refine wpAny_bind (wpAny_newList ?_ (by rw [hvl, sizeLine_eq]; omega))
  have hoL : (s1.heap.push (seqObj "list" vs.toArray 0)).get? s1.heap.objs.size = some (seqObj "list" vs.toArray 0) := Heap.get?_push_size _ rfl
  refine wpAny_bind (wpAny_holding (wpAny_call_entry slot_list_sort ⟨_, hoL, rfl⟩ entry_list_sort
    (list_sort_treeK strKind_oneLt (s := { s1 with heap := s1.heap.push (seqObj "list" vs.toArray 0) }) hoL hS.keysOf (fun v1 v2 rest e => keyKind_strs (by rw [← e]; exact hS)) (by rw [hvl]; exact h64) fun st hp hs => ⟨_, rfl, ?_⟩)
    (args_list_sort _)))
  obtain ⟨ys, g2, g3, g4⟩ := sorted_out_str hS hp hs
  obtain ⟨e9, he9⟩ := sortedHeap_at (vs := vs) (out := (arrOf st).map (·.2)) hoL
  have py : ys.Perm (es.toList.map txO) := g3.trans pk
  have hyl : ys.length = n := by
    rw [py.length_eq, List.length_map, Array.length_toList]
    exact hn
  have hlen : (ys.map V.str).length ≤ sizeLine := by
    rw [List.length_map, hyl]
    exact Nat.le_trans (Nat.le_of_lt h64) (by decide)
  have fr : H s1.heap.objs.size = none := I.hok.fresh z1
  generalize hs2 : ({ s1 with heap := sortedHeap (s1.heap.push (seqObj "list" vs.toArray 0)) s1.heap.objs.size vs ((arrOf st).map (·.2)) } : Shared) = s2
  have kp : ∀ b u, s.heap.get? b = some u → s2.heap.get? b = some u := fun b u e => by
    have q := k1 b u e
    have lt := Heap.lt_size q
    rw [← hs2]
    show (sortedHeap (s1.heap.push (seqObj "list" vs.toArray 0)) s1.heap.objs.size vs ((arrOf st).map (·.2))).get? b = some u
    rw [sortedHeap_old (Nat.ne_of_lt lt) (by rw [size_push']; exact Nat.lt_succ_of_lt lt)]
    exact Heap.get?_push_of_some _ q
  have J : Inv X pins σ (upd H s1.heap.objs.size (.lst (ys.map V.str))) { s with heap := s2.heap, gens := s2.gens, drawn := s2.drawn, toks := s2.toks } := by
    refine I.call (ch := []) (Un.laid kp z1 fr) (I.hok.laid kp z1 ⟨hlen, ((arrOf st).map (·.2)).toList, e9, vals_of_strs g2, ?_⟩) ?_ (fun _ z => nomatch z)
    · rw [Array.toArray_toList, ← hs2]
      exact he9
    · have : s2.gens = s.gens := by rw [← hs2]; exact g1
      rw [this]
      exact I.bare
  have es2 : s2 = { s with heap := s2.heap, gens := s2.gens, drawn := s2.drawn, toks := s2.toks } := by
    have : s2.os = s.os := by rw [← hs2]; exact o1
    cases s2
    cases s
    cases this
    rfl
  refine wpAny_pure ⟨_, rfl, ?_⟩
  refine ⟨.ref s1.heap.objs.size, _, ?_, rfl, q ys _ _ (py.nodup_iff.mpr T.nd) (fun k => by rw [py.mem_iff, ← T.mm k]) g4 hyl fr (same_new fr) upd_same⟩
  rw [← es2] at J
  exact J
end
end Tw

/-! helpers: what a code shows; a local name that holds a def, called by place and by keyword -/
namespace Tw
open PySem PySem.Spec PyProof.Rows L2
theorem takesN_pos {z : Str} : ∀ {as : List Act}, Act.take z ∈ as → 0 < takesN z as
  | a :: r, h => by
    rcases List.mem_cons.mp h with rfl | h
    · show 0 < (if z = z then 1 else 0) + takesN z r
      rw [if_pos rfl]
      omega
    · have := takesN_pos h
      cases a <;> simp only [takesN] <;> omega
theorem givesN_pos {z : Str} : ∀ {as : List Act}, Act.give z ∈ as → 0 < givesN z as
  | a :: r, h => by
    rcases List.mem_cons.mp h with rfl | h
    · show 0 < (if z = z then 1 else 0) + givesN z r
      rw [if_pos rfl]
      omega
    · have := givesN_pos h
      cases a <;> simp only [givesN] <;> omega
theorem CodeOf.takeIn {K : PySem.W.Frag} {H : Hp} {p : Addr} {takes gives : List Str} {places : Nat} {xs : List V} {acts : List Act} (h : CodeOf K H p takes gives places xs acts) {z : Str} (hz : Act.take z ∈ acts) : z ∈ takes := by
  have h1 := takesN_pos hz
  rw [h.ct z] at h1
  exact List.count_pos_iff.mp h1
theorem CodeOf.giveIn {K : PySem.W.Frag} {H : Hp} {p : Addr} {takes gives : List Str} {places : Nat} {xs : List V} {acts : List Act} (h : CodeOf K H p takes gives places xs acts) {z : Str} (hz : Act.give z ∈ acts) : z ∈ gives := by
  have h1 := givesN_pos hz
  rw [h.cg z] at h1
  exact List.count_pos_iff.mp h1
/-- act == ("take", tray) -/
def isTake (tr : Str) : Act → Bool
  | .take u => decide (u = tr)
  | _ => false
def actD : Act → PyData
  | .take t => .tuple [.str "take", .str t] | .give t => .tuple [.str "give", .str t] | .num n => .tuple [.str "number", .int n] | .keep k => .tuple [.str "keep", .int (k : Int)] | .kept k => .tuple [.str "kept", .int (k : Int)] | .wrd w => .tuple [.str w]
def nmAct : Act → Prop
  | .take t => IsNm t | .give t => IsNm t | _ => True
theorem act_dpa {K : PySem.W.Frag} {H : Hp} {q : Addr} {a : Act} (h : H q = some (.tup (actV a))) : Dp K H (.ref q) (actD a) := by
  cases a with
  | take t => exact .tup (SqT.of h) (.cons (.str _) (.cons (.str _) .nil))
  | give t => exact .tup (SqT.of h) (.cons (.str _) (.cons (.str _) .nil))
  | num t => exact .tup (SqT.of h) (.cons (.str _) (.cons (.int _) .nil))
  | keep t => exact .tup (SqT.of h) (.cons (.str _) (.cons (.int _) .nil))
  | kept t => exact .tup (SqT.of h) (.cons (.str _) (.cons (.int _) .nil))
  | wrd t => exact .tup (SqT.of h) (.cons (.str _) .nil)
theorem fit_item {i : Int} (h : it i) : Fit 41 1 (.int i) := by
  obtain ⟨a, b⟩ := h
  exact fit_int (by omega) (by omega)
theorem fit_act {a : Act} {n : Nat} (h1 : actOk a) (h2 : nmAct a) (h3 : plOk n a) (hn : n ≤ 100000) : Fit 100 2 (actD a) := by
  have lit : ∀ s : Str, (s.cps.toList.all fun c => decide (c < 16 ^ 8)) = true → s.length ≤ 8 → Fit 41 1 (.str s) := fun s h l => fit_str (n := 41) (fun c hc => of_decide_eq_true (List.all_eq_true.mp h c hc)) (by omega)
  have two : ∀ (s : Str) (d : PyData), Fit 41 1 (.str s) → Fit 41 1 d → Fit 100 2 (.tuple [.str s, d]) := fun s d hs hd => fit_tuple (n := 41) (m := 1) (fun x hx => by
    rcases List.mem_cons.mp hx with rfl | hx
    · exact hs
    · rw [List.mem_singleton.mp hx]
      exact hd) (by show 42 * 2 ≤ 100; decide)
  cases a with
  | take t => exact two _ _ (lit _ (by decide +kernel) (by decide)) ((fit_nm h2).mono (by decide) (by decide))
  | give t => exact two _ _ (lit _ (by decide +kernel) (by decide)) ((fit_nm h2).mono (by decide) (by decide))
  | num i => exact two _ _ (lit _ (by decide +kernel) (by decide)) (fit_item h1)
  | keep k =>
    have hk : k < n := h3
    exact two _ _ (lit _ (by decide +kernel) (by decide)) (fit_int (by omega) (by omega))
  | kept k =>
    have hk : k < n := h3
    exact two _ _ (lit _ (by decide +kernel) (by decide)) (fit_int (by omega) (by omega))
  | wrd w =>
    have hm : w ∈ words8 := h1
    have hw : Fit 41 1 (.str w) := by
      simp only [words8, List.mem_cons, List.not_mem_nil, or_false] at hm
      rcases hm with rfl | rfl | rfl | rfl | rfl | rfl | rfl | rfl <;> exact lit _ (by decide +kernel) (by decide)
    exact fit_tuple (n := 41) (m := 1) (fun x hx => by
      rw [List.mem_singleton.mp hx]
      exact hw) (by show 42 * 1 ≤ 100; decide)

theorem dp_acts {K : PySem.W.Frag} {H : Hp} : ∀ {xs : List V} {acts : List Act}, Paired (ActV K H) xs acts → DpAll K H xs (acts.map actD)
  | _, _, .nil => .nil
  | _, a :: _, .cons ⟨q, e, h⟩ r => by
    subst e
    refine .cons ?_ (dp_acts r)
    cases a with
    | take t => exact .tup h (.cons (.str _) (.cons (.str _) .nil))
    | give t => exact .tup h (.cons (.str _) (.cons (.str _) .nil))
    | num t => exact .tup h (.cons (.str _) (.cons (.int _) .nil))
    | keep t => exact .tup h (.cons (.str _) (.cons (.int _) .nil))
    | kept t => exact .tup h (.cons (.str _) (.cons (.int _) .nil))
    | wrd t => exact .tup h (.cons (.str _) .nil)
theorem fit_code {acts : List Act} {n : Nat} (ha : ∀ a ∈ acts, actOk a ∧ nmAct a ∧ plOk n a) (hn : n ≤ 100000) (hl : acts.length < 60) : Fit 6060 3 (.tuple (acts.map actD)) :=
  fit_tuple (n := 100) (m := 2) (fun d hd => by
    obtain ⟨a, h, rfl⟩ := List.mem_map.mp hd
    obtain ⟨h1, h2, h3⟩ := ha a h
    exact fit_act h1 h2 h3 hn) (by rw [List.length_map]; omega)
/-! a local name that holds a def -/
structure HeldC (P : Program) (w : World) (K : PySem.W.Frag) (mg : Str → Option Value) (base : Heap) (k : Nat) (ks : List Str) (gV : List V → List V) (f : Addr) (sp : Sp) : Prop where
  ex : ∃ (fd : FuncData) (ps : List Str) (g : List Value → List Value → List Value), FnOk P w K mg base CX0 k f fd ps sp ∧ PySem.W.keepIn K (.ref f) = true ∧ Binds K fd ps [] ∧ KBn K fd ps 0 ks g (fun _ zs => gV zs)
def tCallT (i : Nat) (T : Addr → Sp → Prop) (t : TA) : TE := fun σ H Q => ∃ f sp, σ[i]? = some (some (.ref f)) ∧ T f sp ∧ t σ H fun vs H1 => sp vs H1 Q E0
def tCallTK (i : Nat) (T : Addr → Sp → Prop) (m : Nat) (gV : List V → List V) (t : TA) : TE := fun σ H Q => ∃ f sp, σ[i]? = some (some (.ref f)) ∧ T f sp ∧ t σ H fun zs H1 => zs.length = m ∧ sp (gV zs) H1 Q E0
section
variable {X : Cx} {T : Addr → Sp → Prop} {i j k : Nat} {ks : List Str} {gV : List V → List V} {x : Str} {p pos : Pos} {e : Expr} {es : List Expr} {t : TA}
theorem pe_callT (A : ∀ f sp, T f sp → HeldC X.prog X.w X.K X.mg X.base k ks gV f sp) (hr : Room j X.A) (hk : k ≤ j) (ha : PA X (e :: es) t) (hN : X.N[i]? = some x := by rfl) (hv : Vis X.env.scope x := by first | exact .inl rfl | exact .inr (.inl rfl) | exact .inr (.inr rfl))
    (hdb : (x == ("__debug__" : Str)) = false := by decide) (hcd : (x == ("__classdict__" : Str)) = false := by decide)
    (he : starEach (e :: es) X.env = (false, eval e X.env) :: starEach es X.env := by rfl) (hpl : (backTo pos (starEach es X.env)).any (·.1) = false := by rfl) : PE X (.Call (.Name x p) (e :: es) [] pos) (tCallT i T t) := by
  refine ⟨fun pins s σ H Q I h => ?_⟩
  obtain ⟨f, sp, hs, hT, ht⟩ := h
  obtain ⟨fd, ps, g, F, hkp, hb, _⟩ := (A f sp hT).ex
  refine (pe_callL (i := i) (f := f) (sp := sp) (dvs := []) (E := E0) F (hr.mono hk) hN hv hkp hb .nil pass0 ha hdb hcd he hpl).run pins s σ H Q I ⟨hs, ?_⟩
  have e0 : (fun (vs : List V) (H1 : Hp) => sp (vs ++ []) H1 Q E0) = fun vs H1 => sp vs H1 Q E0 := by
    funext vs H1
    rw [List.append_nil]
  show t σ H (fun vs H1 => sp (vs ++ []) H1 Q E0)
  rw [e0]
  exact ht
theorem pe_callTK {kws : List Keyword} {tk : TA} (A : ∀ f sp, T f sp → HeldC X.prog X.w X.K X.mg X.base k ks gV f sp) (hr : Room j X.A) (hk : k ≤ j) (hkw : PK X kws tk) (hN : X.N[i]? = some x := by rfl) (hv : Vis X.env.scope x := by first | exact .inl rfl | exact .inr (.inl rfl) | exact .inr (.inr rfl))
    (hdb : (x == ("__debug__" : Str)) = false := by decide) (hcd : (x == ("__classdict__" : Str)) = false := by decide)
    (hall : (backToKw pos (keywordEach kws X.env)).all (·.1.isSome) = true := by rfl) (hks : (backToKw pos (keywordEach kws X.env)).filterMap (·.1) = ks := by rfl)
    (hpl : ((backTo pos (starEach [] X.env)).any (·.1) || (backToKw pos (keywordEach kws X.env)).any (·.1.isNone)) = false := by rfl) : PE X (.Call (.Name x p) [] kws pos) (tCallTK i T ks.length gV tk) := by
  refine ⟨fun pins s σ H Q I h => ?_⟩
  obtain ⟨f, sp, hs, hT, ht⟩ := h
  obtain ⟨fd, ps, g, F, hkp, _, hb⟩ := (A f sp hT).ex
  refine wpAny_Call_Name_kw (thn ((pe_var (pos := p) hN hv hdb hcd).run pins s σ H (fun v H1 => v = .ref f ∧ H1 = H) I ⟨.ref f, hs, rfl, rfl⟩) fun u s1 ⟨v, H1, I1, r1, q1⟩ => ?_)
  obtain ⟨rfl, rfl⟩ := q1
  cases r1
  refine PySem.W.callWith_KW0 (h₀ := X.base) I.ok.mod.kin hkp hall ?_ hpl
  refine thn (hkw.run pos pins s1 σ _ _ I1 ht) fun ws s2 ⟨zs, H2, I2, rz, l2, q2⟩ => ⟨I2.kIn, ?_⟩
  rw [hks]
  exact run_fnN (n := 0) (us := []) (vs := []) F (hr.mono hk) hb pass0 I2 .nil rz rfl l2 q2
end
end Tw

namespace Tw
open PySem PySem.Spec PyProof.Rows L2
abbrev sSame : Stmt := topS 12
theorem scSame : FnScope ["_law_found", "_law_due", "_law_one", "_law_other"] ["_law_found", "_law_due"] (defScope sSame) := ⟨rfl, rfl, rfl, by decide +kernel, rfl, by decide +kernel, by decide +kernel⟩
section
variable {P : Program} {w : World} {K : PySem.W.Frag} {mg : Str → Option Value} {base : Heap}
theorem ok_same {f : Addr} {fd : FuncData} (g : Bl mg) (F : Fun K "_law_same" "_law_same" sSame f fd) (hm : mg "_law_same" = some (.ref f)) (hb : Binds K fd ["_law_found", "_law_due"] []) (n : Nat) : FnOk P w K mg base CX0 (n + 2) f fd ["_law_found", "_law_due"] (spSame K n) := by
  refine F.ok scSame (fun vs H Q E h => ?_) (fun cdv A outer s H vs Q E hr h => ?_)
  · obtain ⟨x, y, d, rfl, _⟩ := h
    rfl
  · -- the call of itself: one storey less
    obtain ⟨j, sp, hsp, C_law_same⟩ : ∃ (j : Nat) (sp : Sp), (∀ m, n = m + 1 → sp = spSame K m) ∧ j ≤ n + 1 ∧ Cal P w K mg base "_law_same" j ["_law_found", "_law_due"] sp := by
      cases n with
      | zero => exact ⟨1, fun _ _ _ _ => False, fun m e => (by omega), by omega, ⟨f, fd, ⟨fun _ _ _ _ h => h.elim, fun _ _ _ _ _ _ _ _ _ _ _ _ _ h => h.elim⟩, hm, F.kp, hb⟩⟩
      | succ m => exact ⟨m + 2, spSame K m, fun m' e => by cases e; rfl, by omega, ⟨f, fd, ok_same g F hm hb m, hm, F.kp, hb⟩⟩
    obtain ⟨hj, C_law_same⟩ := C_law_same
    obtain ⟨x, y, d, rfl, hx, hy, hd, q⟩ := h
    refine ⟨_, (pss_cons (ps_if (pt_val (pe_callB call_isiT (by rfl) g.isinstance boot_isinstance (pa_cons (pv 1) (pa_cons (pe_tup (pa_cons (pe_bltn (v := .ty "list") rfl g.list PyProof.Rows.boot_list rfl) (pa_cons (pe_bltn (v := .ty "tuple") rfl g.tuple PyProof.Rows.boot_tuple rfl) pa_nil))) pa_nil))))
    (pss_cons (ps_if (PW.pt (pw_or (pt_cmpR op_ne (pe_callB call_isi (by rfl) g.isinstance boot_isinstance (pa_cons (pv 0) (pa_cons (pe_bltn (v := .ty "list") rfl g.list PyProof.Rows.boot_list rfl) pa_nil))) (pe_callB call_isi (by rfl) g.isinstance boot_isinstance (pa_cons (pv 1) (pa_cons (pe_bltn (v := .ty "list") rfl g.list PyProof.Rows.boot_list rfl) pa_nil))) (nomark _)) (pw_or1 (pt_cmpR op_ne (pe_callB call_isi (by rfl) g.isinstance boot_isinstance (pa_cons (pv 0) (pa_cons (pe_bltn (v := .ty "tuple") rfl g.tuple PyProof.Rows.boot_tuple rfl) pa_nil))) (pe_callB call_isi (by rfl) g.isinstance boot_isinstance (pa_cons (pv 1) (pa_cons (pe_bltn (v := .ty "tuple") rfl g.tuple PyProof.Rows.boot_tuple rfl) pa_nil))) (nomark _)))))
      (pss_one (ps_ret pe_bl))
      pss_nil)
    (pss_one (ps_ret (pe_and (pe_cmpR op_eq (pe_callB call_len_seq (by rfl) g.len PySem.boot_len (pa_cons (pv 0) pa_nil)) (pe_callB call_len_seq (by rfl) g.len PySem.boot_len (pa_cons (pv 1) pa_nil)) (nomark _)) (pe_one (pe_callB (cr_all rfl) (by rfl) g.all boot_all (pa_cons (pe_lc (own := [("_law_one", 2), ("_law_other", 3)]) (g := gTup K 2 (gCons (gName 2) (gCons (gName 3) gNil))) (tt := tYes) rfl scSame.nd (RZ.pi_zipA (by rfl) g.zip (pa_cons (pv 0) (pa_cons (pv 1) pa_nil))) (blkOk_by (own := [("_law_one", 2), ("_law_other", 3)]) (N := ["_law_found", "_law_due", "_law_one", "_law_other"]) (sc := defScope sSame) (by decide +kernel)) (fun _ _ _ _ _ => (pg_tup rfl (pgs_cons (pg_name (i := 2) scSame.nd rfl (Or.inl rfl)) (pgs_cons (pg_name (i := 3) scSame.nd rfl (Or.inl rfl)) pgs_nil)))) (fun _ _ _ _ _ => pts_nil) (fun _ _ _ _ _ => (pe_c C_law_same hr hj (ha := (pa_cons (pv 2) (pa_cons (pv 3) pa_nil)))))) pa_nil)))))))
    pss_nil)
  (pss_cons (ps_if (PW.pt (pw_or (pt_cmpR op_isN (pv 1) pe_non (nomark _)) (pw_or1 (pt_val (pe_callB call_isiT (by rfl) g.isinstance boot_isinstance (pa_cons (pv 1) (pa_cons (pe_tup (pa_cons (pe_bltn (v := .ty "str") rfl g.str PyProof.Rows.boot_str rfl) (pa_cons (pe_bltn (v := .ty "bool") rfl g.bool PyProof.Rows.boot_bool rfl) pa_nil))) pa_nil)))))))
    (pss_one (ps_ret (pe_and (pe_cmpR op_eq (pe_callB call_isi (by rfl) g.isinstance boot_isinstance (pa_cons (pv 0) (pa_cons (pe_bltn (v := .ty "bool") rfl g.bool PyProof.Rows.boot_bool rfl) pa_nil))) (pe_callB call_isi (by rfl) g.isinstance boot_isinstance (pa_cons (pv 1) (pa_cons (pe_bltn (v := .ty "bool") rfl g.bool PyProof.Rows.boot_bool rfl) pa_nil))) (nomark _)) (pe_one (pe_cmpR op_eq (pv 0) (pv 1) (nomark _))))))
    pss_nil)
  (pss_one (ps_ret (pe_and (pe_callB call_isi (by rfl) g.isinstance boot_isinstance (pa_cons (pv 0) (pa_cons (pe_bltn (v := .ty "int") rfl g.int PyProof.Rows.boot_int rfl) pa_nil))) (pe_and (pe_not (pe_callB call_isi (by rfl) g.isinstance boot_isinstance (pa_cons (pv 0) (pa_cons (pe_bltn (v := .ty "bool") rfl g.bool PyProof.Rows.boot_bool rfl) pa_nil)))) (pe_one (pe_cmpR op_eq (pv 0) (pv 1) (nomark _))))))))), ?_⟩
    have h2 : 2 ≤ sizeLine := by decide
    cases hy with
    | non =>
      cases hx
      refine ⟨_, rfl, h2, fun tp np => ⟨_, tp, _, _, [.type "list", .type "tuple"], false, rfl, upd_same, .cons (.ty _) (.cons (.ty _) .nil), .base .non, any2 (x := false) (y := false) (by decide +kernel) (by decide +kernel), _, rfl, iteF ?_⟩⟩
      refine ⟨_, rfl, rfl, _, rfl, iteT (iteT ?_)⟩
      refine ⟨_, rfl, _, _, _, _, false, rfl, .ty _, .base .non, kit_ty (by decide +kernel), _, rfl, _, _, _, _, false, rfl, .ty _, .base .non, kit_ty (by decide +kernel), rfl, _, rfl, iteT ?_⟩
      exact ⟨_, rfl, _, rfl, rfl, q _ (same_new np)⟩
    | bl b =>
      cases hx
      refine ⟨_, rfl, h2, fun tp np => ⟨_, tp, _, _, [.type "list", .type "tuple"], false, rfl, upd_same, .cons (.ty _) (.cons (.ty _) .nil), .base (.bl b), any2 (x := false) (y := false) (by decide +kernel) (by decide +kernel), _, rfl, iteF ?_⟩⟩
      refine ⟨_, rfl, rfl, _, rfl, iteF ?_⟩
      refine ⟨_, rfl, h2, fun tq nq => ⟨_, tq, _, _, [.type "str", .type "bool"], true, rfl, upd_same, .cons (.ty _) (.cons (.ty _) .nil), .base (.bl b), any2 (x := false) (y := true) (by decide +kernel) (by decide +kernel), _, rfl, iteT ?_⟩⟩
      refine ⟨_, rfl, _, _, _, _, true, rfl, .ty _, .base (.bl b), kit_ty (by decide +kernel), _, rfl, _, _, _, _, true, rfl, .ty _, .base (.bl b), kit_ty (by decide +kernel), rfl, _, rfl, iteT ?_⟩
      refine ⟨_, rfl, _, rfl, rfl, ?_⟩
      rw [decide_eq_true rfl]
      exact q _ ((same_new np).trans (same_new nq))
    | int i =>
      cases hx
      refine ⟨_, rfl, h2, fun tp np => ⟨_, tp, _, _, [.type "list", .type "tuple"], false, rfl, upd_same, .cons (.ty _) (.cons (.ty _) .nil), .base (.int i), any2 (x := false) (y := false) (by decide +kernel) (by decide +kernel), _, rfl, iteF ?_⟩⟩
      refine ⟨_, rfl, rfl, _, rfl, iteF ?_⟩
      refine ⟨_, rfl, h2, fun tq nq => ⟨_, tq, _, _, [.type "str", .type "bool"], false, rfl, upd_same, .cons (.ty _) (.cons (.ty _) .nil), .base (.int i), any2 (x := false) (y := false) (by decide +kernel) (by decide +kernel), _, rfl, iteF ?_⟩⟩
      refine ⟨_, rfl, _, _, _, _, true, rfl, .ty _, .base (.int i), kit_ty (by decide +kernel), _, rfl, iteT ?_⟩
      refine ⟨_, rfl, _, _, _, _, false, rfl, .ty _, .base (.int i), kit_ty (by decide +kernel), _, rfl, _, rfl, iteT ?_⟩
      refine ⟨_, rfl, _, rfl, rfl, ?_⟩
      rw [decide_eq_true rfl]
      exact q _ ((same_new np).trans (same_new nq))
    | str z =>
      cases hx
      refine ⟨_, rfl, h2, fun tp np => ⟨_, tp, _, _, [.type "list", .type "tuple"], false, rfl, upd_same, .cons (.ty _) (.cons (.ty _) .nil), .base (.str z), any2 (x := false) (y := false) (by decide +kernel) (by decide +kernel), _, rfl, iteF ?_⟩⟩
      refine ⟨_, rfl, rfl, _, rfl, iteF ?_⟩
      refine ⟨_, rfl, h2, fun tq nq => ⟨_, tq, _, _, [.type "str", .type "bool"], true, rfl, upd_same, .cons (.ty _) (.cons (.ty _) .nil), .base (.str z), any2 (x := true) (y := false) (by decide +kernel) (by decide +kernel), _, rfl, iteT ?_⟩⟩
      refine ⟨_, rfl, _, _, _, _, false, rfl, .ty _, .base (.str z), kit_ty (by decide +kernel), _, rfl, _, _, _, _, false, rfl, .ty _, .base (.str z), kit_ty (by decide +kernel), rfl, _, rfl, iteT ?_⟩
      refine ⟨_, rfl, _, rfl, rfl, ?_⟩
      rw [decide_eq_true rfl]
      exact q _ ((same_new np).trans (same_new nq))
    | @lst b ys ds hb' ay =>
      cases hx with
      | @lst a xs _ ha' ax =>
      cases n with
      | zero => exact hd.elim
      | succ m =>
      cases hsp m rfl
      obtain ⟨hz, hds⟩ := hd
      have hl : xs.length = ys.length := (dpa_len ax).trans (dpa_len ay).symm
      refine ⟨_, rfl, h2, fun tp np => ⟨_, tp, _, _, [.type "list", .type "tuple"], true, rfl, upd_same, .cons (.ty _) (.cons (.ty _) .nil), sqL_ty ((same_new np).seq hb'), any2 (x := true) (y := false) (by decide +kernel) (by decide +kernel), _, rfl, iteT ?_⟩⟩
      have s1 : Same H (upd H tp (.tup [.ty "list", .ty "tuple"])) := same_new np
      refine ⟨_, rfl, _, _, _, _, true, rfl, .ty _, sqL_ty (s1.seq ha'), kit_ty (by decide +kernel), _, rfl, _, _, _, _, true, rfl, .ty _, sqL_ty (s1.seq hb'), kit_ty (by decide +kernel), rfl, _, rfl, iteNS rfl ?_⟩
      refine ⟨_, rfl, _, _, _, _, false, rfl, .ty _, sqL_ty (s1.seq ha'), kit_ty (by decide +kernel), _, rfl, _, _, _, _, false, rfl, .ty _, sqL_ty (s1.seq hb'), kit_ty (by decide +kernel), rfl, _, rfl, iteNS rfl ?_⟩
      refine ⟨_, rfl, a, xs, rfl, .inl (s1.seq ha'), _, rfl, b, ys, rfl, .inl (s1.seq hb'), rfl, _, rfl, ite2 (fun _ => ?_) (fun e => absurd (decide_eq_true (by rw [hl])) e)⟩
      refine ⟨_, rfl, _, rfl, a, b, xs, ys, rfl, .inl ⟨s1.seq ha', s1.seq hb', fun D nD => ?_⟩⟩
      refine lc_zipL hl (fun i H3 => Same H H3 ∧ H3 D = some (.lst (List.replicate i (.bl true))) ∧ H D = none) ⟨s1.trans (same_new nD), upd_same, s1.free nD⟩ (fun i H3 p => ⟨p.1.seq ha', p.1.seq hb'⟩) (fun i x y T H3 hx' hy' p nT => ?_) (fun H3 p => ?_)
      · obtain ⟨p1, p2, p3⟩ := p
        obtain ⟨d1, e1, f1⟩ := dpa_get ax hx'
        obtain ⟨d2, e2, f2⟩ := dpa_get ay hy'
        rw [e1] at e2
        cases e2
        have hi : i < xs.length := (List.getElem?_eq_some_iff.mp hx').1
        have s3 : Same H (upd H3 T (.tup [x, y])) := p1.trans (same_new nT)
        refine ⟨T, [x, y], rfl, .inl (.inl upd_same), rfl, x, [y], rfl, y, [], rfl, rfl, rfl, ?_⟩
        refine ⟨_, rfl, _, rfl, x, y, d1, rfl, dp_mono s3 f1, dp_mono s3 f2, hds _ (List.mem_of_getElem? e1), fun H5 s5 => ?_⟩
        refine ⟨List.replicate i (.bl true), s5 _ _ ((same_new nT) _ _ p2), ?_, same_mut (s3.trans s5) p3, ?_, p3⟩
        · rw [List.length_replicate]
          have : sizeLine = 16777216 := rfl
          have := dpa_len ax
          omega
        · rw [upd_same, List.replicate_succ']
      · obtain ⟨p1, p2, p3⟩ := p
        refine ⟨D, List.replicate xs.length true, rfl, ?_, ?_⟩
        · refine .inl (.inl ?_)
          rw [p2, List.map_replicate]
        · have e : (List.replicate xs.length true).all id = true := by
            rw [List.all_eq_true]
            intro b hb
            exact (List.mem_replicate.mp hb).2
          rw [e]
          exact q _ p1
    | @tup b ys ds hb' ay =>
      cases hx with
      | @tup a xs _ ha' ax =>
      cases n with
      | zero => exact hd.elim
      | succ m =>
      cases hsp m rfl
      obtain ⟨hz, hds⟩ := hd
      have hl : xs.length = ys.length := (dpa_len ax).trans (dpa_len ay).symm
      refine ⟨_, rfl, h2, fun tp np => ⟨_, tp, _, _, [.type "list", .type "tuple"], true, rfl, upd_same, .cons (.ty _) (.cons (.ty _) .nil), sqT_ty (same_sqt (same_new np) hb'), any2 (x := false) (y := true) (by decide +kernel) (by decide +kernel), _, rfl, iteT ?_⟩⟩
      have s1 : Same H (upd H tp (.tup [.ty "list", .ty "tuple"])) := same_new np
      refine ⟨_, rfl, _, _, _, _, false, rfl, .ty _, sqT_ty (same_sqt s1 ha'), kit_ty (by decide +kernel), _, rfl, _, _, _, _, false, rfl, .ty _, sqT_ty (same_sqt s1 hb'), kit_ty (by decide +kernel), rfl, _, rfl, iteNS rfl ?_⟩
      refine ⟨_, rfl, _, _, _, _, true, rfl, .ty _, sqT_ty (same_sqt s1 ha'), kit_ty (by decide +kernel), _, rfl, _, _, _, _, true, rfl, .ty _, sqT_ty (same_sqt s1 hb'), kit_ty (by decide +kernel), rfl, _, rfl, iteNS rfl ?_⟩
      refine ⟨_, rfl, a, xs, rfl, .inr (same_sqt s1 ha'), _, rfl, b, ys, rfl, .inr (same_sqt s1 hb'), rfl, _, rfl, ite2 (fun _ => ?_) (fun e => absurd (decide_eq_true (by rw [hl])) e)⟩
      refine ⟨_, rfl, _, rfl, a, b, xs, ys, rfl, .inr ⟨same_sqt s1 ha', same_sqt s1 hb', fun D nD => ?_⟩⟩
      refine lc_zipT hl (fun i H3 => Same H H3 ∧ H3 D = some (.lst (List.replicate i (.bl true))) ∧ H D = none) ⟨s1.trans (same_new nD), upd_same, s1.free nD⟩ (fun i H3 p => ⟨same_sqt p.1 ha', same_sqt p.1 hb'⟩) (fun i x y T H3 hx' hy' p nT => ?_) (fun H3 p => ?_)
      · obtain ⟨p1, p2, p3⟩ := p
        obtain ⟨d1, e1, f1⟩ := dpa_get ax hx'
        obtain ⟨d2, e2, f2⟩ := dpa_get ay hy'
        rw [e1] at e2
        cases e2
        have hi : i < xs.length := (List.getElem?_eq_some_iff.mp hx').1
        have s3 : Same H (upd H3 T (.tup [x, y])) := p1.trans (same_new nT)
        refine ⟨T, [x, y], rfl, .inl (.inl upd_same), rfl, x, [y], rfl, y, [], rfl, rfl, rfl, ?_⟩
        refine ⟨_, rfl, _, rfl, x, y, d1, rfl, dp_mono s3 f1, dp_mono s3 f2, hds _ (List.mem_of_getElem? e1), fun H5 s5 => ?_⟩
        refine ⟨List.replicate i (.bl true), s5 _ _ ((same_new nT) _ _ p2), ?_, same_mut (s3.trans s5) p3, ?_, p3⟩
        · rw [List.length_replicate]
          have : sizeLine = 16777216 := rfl
          have := dpa_len ax
          omega
        · rw [upd_same, List.replicate_succ']
      · obtain ⟨p1, p2, p3⟩ := p
        refine ⟨D, List.replicate xs.length true, rfl, ?_, ?_⟩
        · refine .inl (.inl ?_)
          rw [p2, List.map_replicate]
        · have e : (List.replicate xs.length true).all id = true := by
            rw [List.all_eq_true]
            intro b hb
            exact (List.mem_replicate.mp hb).2
          rw [e]
          exact q _ p1
termination_by n
end
end Tw

/-! _law_right -/
namespace Tw
open PySem PySem.Spec PyProof.Rows L2
def prD (cn : Str → Nat) (ys : List Str) : PyData := .list (ys.map fun z => .tuple [.str z, .int ((cn z : Nat) : Int)])
theorem dp_pairs {K : PySem.W.Frag} {H : Hp} {cn : Str → Nat} : ∀ {vs : List V} {ys : List Str}, Paired (PrV cn H) vs ys → DpAll K H vs (ys.map fun z => .tuple [.str z, .int ((cn z : Nat) : Int)])
  | _, _, .nil => .nil
  | _, _, .cons ⟨q, e, h⟩ r => by
    subst e
    exact .cons (.tup (SqT.of h) (.cons (.str _) (.cons (.int _) .nil))) (dp_pairs r)
theorem dp_prD {K : PySem.W.Frag} {H : Hp} {cn : Str → Nat} {p : Addr} {vs : List V} {ys : List Str} (h : H p = some (.lst vs)) (pp : Paired (PrV cn H) vs ys) : Dp K H (.ref p) (prD cn ys) := .lst (SqL.of h) (dp_pairs pp)
theorem ok_prD {cn : Str → Nat} {ys : List Str} (hl : ys.length < 60) (n : Nat) : okD (n + 2) (prD cn ys) := by
  refine ⟨by rw [List.length_map]; omega, fun d hd => ?_⟩
  obtain ⟨z, _, rfl⟩ := List.mem_map.mp hd
  refine ⟨(by decide : 2 ≤ 100000), fun d hd => ?_⟩
  rcases List.mem_cons.mp hd with rfl | hd
  · cases n <;> exact trivial
  · rw [List.mem_singleton.mp hd]
    cases n <;> exact trivial
theorem strs_pair : ∀ {vs : List V} {zs : List Str}, Paired (fun v z => v = V.str z) vs zs → vs = zs.map V.str
  | _, _, .nil => rfl
  | _, _, .cons e r => by
    rw [List.map_cons, ← strs_pair r, e]
def spRight (K : PySem.W.Frag) : Sp := fun vs H Q _ => ∃ (p : Addr) (xs : List V) (acts : List Act), vs = [.ref p] ∧ CodeV K H p xs acts ∧ (∀ a ∈ acts, nmAct a ∧ plOk 1000 a) ∧ ∀ H', Same H H' → Q (.bl true) H'
theorem scRight : FnScope ["_law_a_code", "_law_word", "_law_asked", "_law_trays", "_law_due", "_law_kept", "_law_found", "_law_act", "_law_tray"] ["_law_a_code"] (defScope (topS 17)) := ⟨rfl, rfl, rfl, by decide +kernel, rfl, by decide +kernel, by decide +kernel⟩
section
variable {P : Program} {w : World} {K : PySem.W.Frag} {mg : Str → Option Value} {base : Heap}
theorem ok_right {f fT fG : Addr} {fd : FuncData} {k k1 k2 k3 : Nat} (g : Bl mg) (gm : Bm mg) (hsy : SysB base) (C_law_many : Cal P w K mg base "_law_many" k1 ["_law_a_code", "_law_word", "_law_tray"] (spMoves K)) (C_law_same : Cal P w K mg base "_law_same" k2 ["_law_found", "_law_due"] (spSame K 3))
    (hldT : HeldC P w K mg base k3 ["code"] id fT (spTold K false)) (mT : mg "takes_of" = some (.ref fT)) (hldG : HeldC P w K mg base k3 ["code"] id fG (spTold K true)) (mG : mg "gives_of" = some (.ref fG)) (h_law_many : k1 ≤ k) (h_law_same : k2 ≤ k) (h3 : k3 ≤ k)
    (F : Fun K "_law_right" "_law_right" (topS 17) f fd) : FnOkG P w K mg base (k + 1) f fd ["_law_a_code"] (spRight K) := by
  refine okG F scRight (fun vs H Q E h => ?_) (fun cdv A outer s H vs Q E hr hg h => ?_)
  · obtain ⟨p, xs, acts, rfl, _⟩ := h
    rfl
  · obtain ⟨p, xs, acts, rfl, C, hnm, q⟩ := h
    have hTT : ∀ f sp, ((f = fT ∧ sp = spTold K false) ∨ (f = fG ∧ sp = spTold K true)) → HeldC P w K mg base k3 ["code"] id f sp := by
      rintro f sp (⟨rfl, rfl⟩ | ⟨rfl, rfl⟩)
      · exact hldT
      · exact hldG
    generalize hTd : (fun f sp => (f = fT ∧ sp = spTold K false) ∨ (f = fG ∧ sp = spTold K true)) = TT at *
    have hTT : ∀ f sp, TT f sp → HeldC P w K mg base k3 ["code"] id f sp := by
      rw [← hTd]
      exact hTT
    refine ⟨_, (pss_cons (ps_for PassesOwn.never rfl (pi_tup' K (pe_tupU (pa_cons (pe_tupU (pa_cons pe_str (pa_cons (pe_glob (v := .ref fT) rfl mT rfl) pa_nil))) (pa_cons (pe_tupU (pa_cons pe_str (pa_cons (pe_glob (v := .ref fG) rfl mG rfl) pa_nil))) pa_nil)))) (pg_tup rfl (pgs_cons (pg_name (i := 1) scRight.nd rfl (Or.inr rfl)) (pgs_cons (pg_name (i := 2) scRight.nd rfl (Or.inl rfl)) pgs_nil)))
        (pss_cons (ps_set (i := 3) scRight.nd rfl (Or.inl rfl) (pe_callB (cr_sortTx rfl w) (by rfl) gm.sorted PyProof.Rows.boot_sorted (pa_cons (pe_callTy (cr_setL rfl K w) (by rfl) gm.set PyProof.Rows.boot_set (pa_cons (pe_lc (own := [("_law_act", 7)]) (g := (gName 7)) (tt := _) rfl scRight.nd (pi_tup' K (pv 0)) (blkOk_by (own := [("_law_act", 7)]) (N := ["_law_a_code", "_law_word", "_law_asked", "_law_trays", "_law_due", "_law_kept", "_law_found", "_law_act", "_law_tray"]) (sc := defScope (topS 17)) (by decide +kernel)) (fun _ _ _ _ _ => (pg_name (i := 7) scRight.nd rfl (Or.inl rfl))) (fun _ _ _ _ _ => (pts_one (pt_cmpR op_eq (pe_ix (ix_tup' K) (pv 7) pe_int (fun _ _ => rfl)) (pv 1) (nomark _)))) (fun _ _ _ _ _ => (pe_ix (ix_tup' K) (pv 7) pe_int (fun _ _ => rfl)))) pa_nil)) pa_nil)))
        (pss_cons (ps_par (i := 4) (j := 5) rfl scRight.nd rfl rfl (by decide) rfl rfl (pa_cons (pe_lc (own := [("_law_tray", 8)]) (g := (gName 8)) (tt := tYes) rfl scRight.nd (pi_list' K (pv 3)) (blkOk_by (own := [("_law_tray", 8)]) (N := ["_law_a_code", "_law_word", "_law_asked", "_law_trays", "_law_due", "_law_kept", "_law_found", "_law_act", "_law_tray"]) (sc := defScope (topS 17)) (by decide +kernel)) (fun _ _ _ _ _ => (pg_name (i := 8) scRight.nd rfl (Or.inl rfl))) (fun _ _ _ _ _ => pts_nil) (fun _ _ _ _ _ => (pe_tupU (pa_cons (pv 8) (pa_cons (pe_c C_law_many hr h_law_many (ha := (pa_cons (pv 0) (pa_cons (pv 1) (pa_cons (pv 8) pa_nil))))) pa_nil))))) (pa_cons (pe_callB (call_repr' K hg hsy hr.units) (by rfl) gm.repr PyProof.Rows.boot_repr (pa_cons (pv 0) pa_nil)) pa_nil)) rfl)
        (pss_cons (ps_set (i := 6) scRight.nd rfl (Or.inl rfl) (pe_callT (i := 2) (T := TT) hTT hr h3 (pa_cons (pv 0) pa_nil)))
        (Evl.pss_cut (ps_if (pt_not (pt_val (pe_c C_law_same hr h_law_same (ha := (pa_cons (pe_lstU (pa_cons (pv 6) (pa_cons (pe_callTK (i := 2) (T := TT) hTT hr h3 (pk_cons (pv 0) pk_nil)) pa_nil))) (pa_cons (pe_lstU (pa_cons (pv 4) (pa_cons (pv 4) pa_nil))) pa_nil))))))
          (pss_one (ps_ret pe_bl))
          pss_nil)
        (pss_cons (ps_expr (pe_bm PySem.F.plainAttrs_list PySem.F.slot_list_append PySem.F.type_list_append mt_append (pv 6) (pa_cons (pe_tupU (pa_cons pe_str (pa_cons pe_int pa_nil))) pa_nil)))
        (pss_cons (ps_expr (pe_bm0 PySem.F.plainAttrs_list PySem.F.slot_list_reverse PySem.F.type_list_reverse mt_reverse (pv 6)))
        (pss_one (ps_if (PW.pt (pw_or (pt_not (pt_val (pe_c C_law_same hr h_law_same (ha := (pa_cons (pe_callT (i := 2) (T := TT) hTT hr h3 (pa_cons (pv 0) pa_nil)) (pa_cons (pv 4) pa_nil)))))) (pw_or1 (pt_cmpR op_ne (pe_callB (call_repr' K hg hsy hr.units) (by rfl) gm.repr PyProof.Rows.boot_repr (pa_cons (pv 0) pa_nil)) (pv 5) (nomark _)))))
          (pss_one (ps_ret pe_bl))
          pss_nil)))))))))
      (pss_one (ps_ret pe_bl))), ?_⟩
    have z2 : 2 ≤ 100000 := by decide
    refine ⟨z2, fun T1 H1 n1 s1 c1 => ⟨z2, fun T2 H2 n2 s2 c2 => ⟨z2, fun T3 H3 n3 s3 c3 => ?_⟩⟩⟩
    have s03 : Same H H3 := same_trans s1 (same_trans s2 s3)
    have hlen := C.len
    refine ⟨T3, rfl, ⟨_, SqT.of c3⟩, for_it (walk_tup (K := K) (a := T3) (xs := [.ref T1, .ref T2])) (fun i σ H9 => Same H3 H9 ∧ ∃ y1 y2 y3 y4 y5 y6 , σ = [some (.ref p), y1, y2, y3, y4, y5, y6, none, none]) ⟨Same.refl _, _, _, _, _, _, _, rfl⟩ (fun i σ H9 _ h => SqT.of (h.1 _ _ c3)) ?_ ?_⟩
    · rintro i x σ H9 H9' hi ⟨s9, y1, y2, y3, y4, y5, y6, rfl⟩ ⟨rfl, hx⟩
      obtain ⟨b, Tb, fb, rfl, cTb, hTb⟩ : ∃ b Tb fb, x = .ref Tb ∧ H3 Tb = some (.tup [.str (mvW b), .ref fb]) ∧ TT fb (spTold K b) := by
        rw [← hTd]
        match i, hi, hx with
        | 0, _, hx =>
          cases hx
          exact ⟨false, T1, fT, rfl, s3 _ _ (s2 _ _ c1), .inl ⟨rfl, rfl⟩⟩
        | 1, _, hx =>
          cases hx
          exact ⟨true, T2, fG, rfl, s3 _ _ c2, .inr ⟨rfl, rfl⟩⟩
      refine ⟨Tb, _, rfl, SqT.of (s9 _ _ cTb), rfl, _, _, rfl, _, _, rfl, rfl, ?_⟩
      have C9 := C.same (same_trans s03 s9)
      -- the trays
      refine ⟨_, rfl, p, rfl, ⟨xs, C9.sq⟩, fun D nD => ?_⟩
      have hxl := C.pa.length
      have W := walk_tup (K := K) (a := p) (xs := xs)
      rw [hxl] at W
      refine lcF W (trayOf b) (fun _ v z => v = V.str z) (fun _ _ _ _ _ h => h) nD (by omega) (fun H' s' => same_sqt s' C9.sq) ?_ ?_
      · intro i x a Hi Hi' R1 R0 ha si y h1 h0
        obtain ⟨rfl, hx⟩ := y
        obtain ⟨a', e', q', rfl, hq⟩ := paired_get C9.pa hx
        rw [ha] at e'
        cases e'
        have hq := same_sqt si hq
        have oka := C.ok a (List.mem_of_getElem? ha)
        refine ⟨rfl, _, rfl, q', _, 0, _, rfl, rfl, hq, atI_nat (j := 0) (act_head a), _, rfl, rfl, _, rfl, ite2 (fun e => ?_) (fun e => ?_)⟩
        · have e : hwd a = mvW b := by
            have := of_decide_eq_true e
            injection this
          obtain ⟨t, e1, e2⟩ := act_tray oka e
          exact ⟨_, rfl, q', _, 1, _, rfl, rfl, hq, atI_nat (j := 1) e2, h1 t e1 _ _ (Same.refl _) rfl⟩
        · have e : ¬ hwd a = mvW b := fun z => e (decide_eq_true (by rw [z]))
          exact h0 (act_none e) _ (Same.refl _)
      intro H4 ws s4 c4 pp
      have pp : Paired (fun v z => v = V.str z) ws (mvT b acts) := pp
      rw [strs_pair pp] at c4
      have hml := mvT_len b acts
      refine ⟨D, mvT b acts, rfl, SqL.of c4, by omega, fun S5 H5 c nS5 s5 c5 hc => ⟨S5, _, c, rfl, c5, by omega, fun ys L H6 nd mm srt _ nL s6 c6 => ?_⟩⟩
      have U : Ups (mvT b acts) ys := ⟨nd, srt, fun k => by rw [mm]; exact decide_eq_true_iff⟩
      have hyl : ys.length < 60 := Nat.lt_of_le_of_lt (Nat.le_trans U.len hml) hlen
      have s06 : Same H H6 := same_trans s03 (same_trans s9 (same_trans s4 (same_trans s5 s6)))
      have C6 := C.same s06
      -- what is due
      refine ⟨_, rfl, L, rfl, ⟨_, SqL.of c6⟩, fun D2 nD2 => ?_⟩
      have W := walk_list (K := K) (a := L) (xs := ys.map V.str)
      rw [List.length_map] at W
      refine lcF W some (PrV (fun z => (mvT b acts).count z)) prV_mono nD2 (by omega) (fun H' s' => SqL.of (s' _ _ c6)) ?_ ?_
      · intro i x z Hi Hi' R1 R0 ha si y h1 h0
        obtain ⟨rfl, hx⟩ := y
        rw [List.getElem?_map, ha] at hx
        cases hx
        refine ⟨rfl, _, rfl, _, rfl, _, rfl, _, rfl, p, b, z, xs, acts, rfl, C6.same si, fun H2 s2 => ⟨z2, fun qq H3 nq s3 c3 => h1 z rfl _ _ (same_trans s2 s3) ⟨qq, rfl, c3⟩⟩⟩
      intro H7 du s7 c7 p7
      rw [fm_some] at p7
      have C7 := C6.same s7
      have fitc := fit_code (n := 1000) (fun a ha => ⟨C.ok a ha, hnm a ha⟩) (by decide) hlen
      have drc : ∀ H8, Same H7 H8 → DR K H8 (.ref p) (.tuple (acts.map actD)) := fun H8 s8 => dp_dr (.tup (C7.same s8).sq (dp_acts (C7.same s8).pa))
      refine ⟨_, rfl, p, _, rfl, drc _ (Same.refl _), fitc.sh, Nat.le_trans fitc.dp (by decide), fitc.shown (by decide), _, _, rfl, ?_⟩
      -- asked
      refine ⟨fb, _, rfl, hTb, _, rfl, p, xs, acts, rfl, C7, fun ys8 p8 H8 v8 U8 n8 s8 c8 p8' => ?_⟩
      cases U.one U8
      refine ⟨fun σ H9 => Same H7 H9 ∧ H9 p8 = some (.lst v8) ∧ σ = [some (.ref p), some (.str (mvW b)), some (.ref fb), some (.ref L), some (.ref D2), some (.str (PyData.shown (.tuple (acts.map actD)))), some (.ref p8), none, none], ?_, ?_⟩
      · refine ⟨_, rfl, fb, _, rfl, hTb, _, rfl, rfl, p, xs, acts, rfl, C7.same s8, fun ysA pA HA vA UA nA sA cA pA' => ?_⟩
        cases U.one UA
        refine ⟨z2, fun L1 HB nB sB cB => ⟨_, rfl, _, rfl, z2, fun L2 HC nC sC cC => ?_⟩⟩
        have sAC : Same HA HC := same_trans sB sC
        have s8C : Same H8 HC := same_trans sA sAC
        have dP : Dp K HC (.ref p8) (prD (fun z => (mvT b acts).count z) ys) := dp_mono s8C (dp_prD c8 p8')
        have dA : Dp K HC (.ref pA) (prD (fun z => (mvT b acts).count z) ys) := dp_mono sAC (dp_prD cA pA')
        have dD : Dp K HC (.ref D2) (prD (fun z => (mvT b acts).count z) ys) := dp_mono (same_trans s8 s8C) (dp_prD c7 p7)
        refine ⟨.ref L1, .ref L2, .list [prD (fun z => (mvT b acts).count z) ys, prD (fun z => (mvT b acts).count z) ys], rfl, .lst (SqL.of (sC _ _ cB)) (.cons dP (.cons dA .nil)), .lst (SqL.of cC) (.cons dD (.cons dD .nil)), ⟨z2, fun d hd => ?_⟩, fun HE sE => ?_⟩
        · have : d = prD (fun z => (mvT b acts).count z) ys := by
            rcases List.mem_cons.mp hd with h | hd
            · exact h
            · exact List.mem_singleton.mp hd
          rw [this]
          exact ok_prD hyl 0
        · refine ⟨true, rfl, iteF ?_⟩
          exact ⟨same_trans s8 (same_trans s8C sE), sE _ _ (s8C _ _ c8), rfl⟩
      rintro σ HF ⟨sF, cF, rfl⟩
      -- told lists changed
      refine ⟨_, rfl, .inl ⟨rfl, _, SqL.of cF⟩, z2, fun qG HG nG sG cG => ?_⟩
      have cFG := sG _ _ cF
      refine ⟨p8, v8, _, rfl, rfl, cFG, ?_, ?_⟩
      · rw [p8'.length]
        exact Nat.lt_trans hyl (by decide)
      have s7G : Same H7 HG := same_trans sF sG
      have hn8 : H7 p8 = none := n8
      refine ⟨_, rfl, .inl ⟨rfl, _, SqL.of upd_same⟩, p8, _, rfl, rfl, upd_same, ?_⟩
      generalize hH : upd (upd HG p8 _) p8 _ = HH
      have s7H : Same H7 HH := by
        rw [← hH]
        exact same_mut (same_mut s7G hn8) hn8
      refine ⟨fb, _, rfl, hTb, _, rfl, p, xs, acts, rfl, C7.same s7H, fun ysA pA HA vA UA nA sA cA pA' => ?_⟩
      cases U.one UA
      have s7A := same_trans s7H sA
      refine ⟨_, rfl, .ref pA, .ref D2, prD (fun z => (mvT b acts).count z) ys, rfl, dp_prD cA pA', dp_mono s7A (dp_prD c7 p7), ok_prD hyl 1, fun HB sB => ⟨true, rfl, iteF ?_⟩⟩
      have s7B := same_trans s7A sB
      refine ⟨_, rfl, p, _, rfl, drc _ s7B, fitc.sh, Nat.le_trans fitc.dp (by decide), fitc.shown (by decide), _, rfl, rfl, _, rfl, ite2 (fun e => absurd e (by simp)) (fun _ => ?_)⟩
      exact ⟨same_trans s9 (same_trans s4 (same_trans s5 (same_trans s6 (same_trans s7 s7B)))), _, _, _, _, _, _, rfl⟩
    · rintro σ H9 ⟨s9, y1, y2, y3, y4, y5, y6, rfl⟩
      exact q _ (same_trans s03 s9)
end
end Tw

namespace Tw
open PySem PySem.Spec PyProof.Rows L2
abbrev sTape : Stmt := topS 8
abbrev sFolded : Stmt := topS 10
theorem scTape : FnScope ["_law_script", "_law_k", "_law_cell"] ["_law_script", "_law_k"] (defScope sTape) := ⟨rfl, rfl, rfl, by decide +kernel, rfl, by decide +kernel, by decide +kernel⟩
theorem scFolded : FnScope ["_law_script", "_law_many_here", "_law_cells", "_law_k", "_law_cell"] ["_law_script", "_law_many_here"] (defScope sFolded) := ⟨rfl, rfl, rfl, by decide +kernel, rfl, by decide +kernel, by decide +kernel⟩
def spTape (K : PySem.W.Frag) : Sp := fun vs H Q _ => ∃ (a : Addr) (k : Nat) (ns : List Int), vs = [.ref a, .int (k : Int)] ∧ SqL K H a (ns.map V.int) ∧ k ≤ 100 ∧
  ∀ p H', H p = none → Same H H' → Tape H' p 1000000000000 → Q (.ref p) H'
def spFolded (K : PySem.W.Frag) : Sp := fun vs H Q _ => ∃ (a : Addr) (m : Nat) (ns : List Int), vs = [.ref a, .int (m : Int)] ∧ SqL K H a (ns.map V.int) ∧ ns.length ≤ 63 ∧ 1 ≤ ns.length ∧ 1 ≤ m ∧ m ≤ 60 ∧
  ∀ p H' (cs : List Int), H p = none → Same H H' → H' p = some (.lst (cs.map V.int)) → 1 ≤ cs.length → cs.length ≤ m → Q (.ref p) H'
section
variable {P : Program} {w : World} {K : PySem.W.Frag} {mg : Str → Option Value} {base : Heap}
theorem ok_tape {f : Addr} {fd : FuncData} {k : Nat} (g : Bl mg) (F : Fun K "_law_tape" "_law_tape" sTape f fd) : FnOk P w K mg base CX0 (k + 1) f fd ["_law_script", "_law_k"] (spTape K) := by
  refine F.ok scTape (fun vs H Q E h => ?_) (fun cdv A outer s H vs Q E hr h => ?_)
  · obtain ⟨a, k, ns, rfl, _⟩ := h
    rfl
  · obtain ⟨a, k, ns, rfl, hS, hk, q⟩ := h
    refine ⟨_, (Evl.pss_cut (ps_set (i := 2) scTape.nd rfl (Or.inl rfl) (pe_ifExp (pt_cmpR op_lt (pv 1) (pe_callB call_len_seq (by rfl) g.len PySem.boot_len (pa_cons (pv 0) pa_nil)) (nomark _)) (pe_ix ix_list (pv 0) (pv 1) (fun _ _ => rfl)) pe_int))
  (pss_one (ps_ret (pe_lst (pa_cons (pe_op op_mul (pe_callB call_abs (by rfl) g.abs boot_abs (pa_cons (pv 2) pa_nil)) (pe_callTy call_int1 (by rfl) g.int PyProof.Rows.boot_int (pa_cons (pe_cmpR op_ge (pe_callB call_abs (by rfl) g.abs boot_abs (pa_cons (pv 2) pa_nil)) (pe_op op_pow pe_int pe_int) (nomark _)) pa_nil))) (pa_cons (pe_op op_add (pe_op op_add (pe_op op_modA (pv 2) pe_int) (pe_op op_mul pe_int (pv 1))) pe_int) (pa_cons pe_int pa_nil))))))), ?_⟩
    refine Evl.q_cut (M := fun σ' H' => ∃ c : Int, σ' = [some (.ref a), some (.int (k : Int)), some (.int c)] ∧ H' = H) ?_ ?_
    · refine ⟨_, rfl, _, rfl, a, _, rfl, .inl hS, _, _, rfl, rfl, _, rfl, ite2 (fun e => ?_) (fun e => ⟨0, rfl, rfl⟩)⟩
      have hlt : k < ns.length := by
        have h1 := of_decide_eq_true e
        rw [List.length_map] at h1
        omega
      refine ⟨_, rfl, _, rfl, a, _, (k : Int), .int ns[k], rfl, rfl, hS, atI_nat (j := k) ?_, ns[k], rfl, rfl⟩
      rw [List.getElem?_map, List.getElem?_eq_getElem hlt]
      rfl
    · rintro σ' H' ⟨c, rfl, rfl⟩
      refine ⟨_, rfl, c, rfl, _, rfl, c, rfl, _, _, rfl, rfl, ⟨by decide, by decide, by decide⟩, _, _, rfl, rfl, .inr ⟨_, rfl, ?_⟩⟩
      refine ⟨_, _, rfl, rfl, .inr ?_, _, rfl, _, _, rfl, rfl, by decide, fun o ho0 ho1 _ => ?_⟩
      · by_cases hc : (10 : Int) ^ (18 : Int).toNat ≤ (if c < 0 then -c else c)
        · rw [if_pos (decide_eq_true hc)]
          exact ⟨by decide, by decide⟩
        · rw [if_neg (by rw [decide_eq_false hc]; decide)]
          exact ⟨by decide, by decide⟩
      · refine ⟨_, rfl, _, _, rfl, rfl, .inl ⟨by decide, by decide⟩, _, _, rfl, rfl, _, _, rfl, rfl, ?_, fun p np => ?_⟩
        · show 3 ≤ sizeLine
          decide
        · exact q p _ np (same_new np) ⟨_, _, _, upd_same, by omega, by omega, by omega, by omega⟩
theorem ok_folded {f : Addr} {fd : FuncData} {k : Nat} (g : Bl mg) (F : Fun K "_law_folded" "_law_folded" sFolded f fd) : FnOk P w K mg base CX0 (k + 1) f fd ["_law_script", "_law_many_here"] (spFolded K) := by
  refine F.ok scFolded (fun vs H Q E h => ?_) (fun cdv A outer s H vs Q E hr h => ?_)
  · obtain ⟨a, m, ns, rfl, _⟩ := h
    rfl
  · obtain ⟨a, m, ns, rfl, hS, hn, hn1, hm1, hm2, q⟩ := h
    refine ⟨_, (pss_cons (ps_set (i := 2) scFolded.nd rfl (Or.inl rfl) (pe_callTy call_list_of (by rfl) g.list PyProof.Rows.boot_list (pa_cons (pe_slice sl_list (pv 0) po_none (po_some (pv 1))) pa_nil)))
  (pss_cons (ps_for PassesOwn.never rfl (pi_enum (by rfl) g.enumerate (pa_cons (pe_slice sl_list (pv 0) (po_some (pv 1)) (po_some pe_int)) pa_nil)) (pg_tup rfl (pgs_cons (pg_name (i := 3) scFolded.nd rfl (Or.inl rfl)) (pgs_cons (pg_name (i := 4) scFolded.nd rfl (Or.inl rfl)) pgs_nil)))
    (pss_one (ps_asg (pe_op op_add (pe_ix ix_list (pv 2) (pe_op op_mod (pv 3) (pv 1)) (fun _ _ => rfl)) (pe_op op_mul (pv 4) (pe_op op_add (pv 3) pe_int))) (pg_sub (pv 2) (pe_op op_mod (pv 3) (pv 1)) set_list))))
  (pss_one (ps_ret (pv 2))))), ?_⟩
    have c1 : cutV (ns.map V.int) none (some (m : Int)) = (ns.take m).map V.int := by
      unfold cutV
      rw [HT.sIx_none, HT.sIx_nat, List.drop_zero, Nat.sub_zero, List.length_map, ← List.map_take]
      congr 1
      rcases Nat.le_total m ns.length with h | h
      · rw [Nat.min_eq_left h]
      · rw [Nat.min_eq_right h, List.take_length, List.take_of_length_le h]
    refine ⟨_, rfl, _, rfl, _, rfl, a, _, rfl, hS, fun x1 n1 => ⟨x1, _, rfl, .inl (.inl (.inl upd_same)), fun l nl => ?_⟩⟩
    have s1 : Same H (upd H x1 (.lst (cutV (ns.map V.int) none (some (m : Int))))) := same_new n1
    have s2 := s1.trans (same_new (o := .lst (cutV (ns.map V.int) none (some (m : Int)))) nl)
    have nl0 : H l = none := s1.free nl
    refine ⟨_, rfl, _, rfl, _, rfl, 63, rfl, a, _, rfl, s2.seq hS, fun x2 n2 => ?_⟩
    have s3 := s2.trans (same_new (o := .lst (cutV (ns.map V.int) (some (m : Int)) (some 63))) n2)
    have c2 : ∃ zs : List Int, cutV (ns.map V.int) (some (m : Int)) (some 63) = zs.map V.int ∧ (zs ≠ [] → m < ns.length) ∧ zs.length ≤ 63 := by
      refine ⟨(ns.drop (HT.sIx (ns.map V.int).length 0 (some (m : Int)))).take (HT.sIx (ns.map V.int).length (ns.map V.int).length (some 63) - HT.sIx (ns.map V.int).length 0 (some (m : Int))), ?_, fun h => ?_, ?_⟩
      · unfold cutV
        rw [← List.map_drop, ← List.map_take]
      · rw [HT.sIx_nat, List.length_map] at h
        rcases Nat.lt_or_ge m ns.length with h1 | h1
        · exact h1
        · rw [Nat.min_eq_right h1, List.drop_length, List.take_nil] at h
          exact absurd rfl h
      · rw [List.length_take, List.length_drop]
        omega
    obtain ⟨zs, ez, hz1, hz2⟩ := c2
    have ex2 : (upd (upd (upd H x1 (.lst (cutV (ns.map V.int) none (some (m : Int))))) l (.lst (cutV (ns.map V.int) none (some (m : Int))))) x2 (.lst (cutV (ns.map V.int) (some (m : Int)) (some 63)))) x2 = some (.lst (zs.map V.int)) := by
      rw [upd_same, ez]
    have elx : l ≠ x2 := fun e => by
      rw [e, upd_same] at n2
      cases n2
    refine ⟨x2, zs.map V.int, rfl, .inl (.inl ex2), for_it walk_enum (fun i σ H3 => ∃ (cs : List Int) (y3 y4 : Option V), σ = [some (.ref a), some (.int (m : Int)), some (.ref l), y3, y4] ∧ Same H H3 ∧ H3 x2 = some (.lst (zs.map V.int)) ∧ H3 l = some (.lst (cs.map V.int)) ∧ cs.length = min m ns.length)
      ⟨ns.take m, none, none, rfl, s3, ex2, ?_, List.length_take⟩ (fun i σ H3 _ ⟨_, _, _, _, _, h, _⟩ => .inl (.inl h)) ?_ ?_⟩
    · rw [upd_ne elx, upd_same, c1]
    · rintro i x σ H3 H4 hi ⟨cs, y3, y4, rfl, t1, t2, t3, t4⟩ ⟨T, u1, u2, rfl, nT, rfl, e1, e2⟩
      cases e1
      rw [List.length_map] at hi
      have hm : m < ns.length := hz1 (fun e => by rw [e] at hi; exact absurd hi (Nat.not_lt_zero _))
      have e3 : u2 = .int zs[i] := by
        dsimp only at e2
        rw [List.getElem?_map, List.getElem?_eq_getElem hi] at e2
        exact (Option.some.inj e2).symm
      subst e3
      have nTl : l ≠ T := ne_of_none t3 nT
      have nTx : x2 ≠ T := ne_of_none t2 nT
      have t3' : (upd H3 T (.tup [.int (i : Nat), .int zs[i]])) l = some (.lst (cs.map V.int)) := by
        rw [upd_ne nTl]
        exact t3
      have hj : ∃ j : Nat, (i : Int) % (m : Int) = (j : Int) ∧ j < cs.length := by
        refine ⟨i % m, by omega, ?_⟩
        rw [t4, Nat.min_eq_left (Nat.le_of_lt hm)]
        exact Nat.mod_lt _ hm1
      obtain ⟨j, ej, hj⟩ := hj
      refine ⟨T, _, rfl, .inl (.inl upd_same), rfl, _, _, rfl, _, _, rfl, rfl, ?_⟩
      refine ⟨_, rfl, _, rfl, _, rfl, _, _, rfl, rfl, (show (0 : Int) < (m : Int) by omega), l, cs.map V.int, (i : Int) % (m : Int), .int cs[j], rfl, rfl, .inl (.inl t3'), ?_, _, rfl, _, rfl, _, _, rfl, rfl, _, _, rfl, rfl, .inr ⟨?_, ?_⟩, _, _, rfl, rfl, ?_⟩
      · rw [ej]
        refine atI_nat ?_
        rw [List.getElem?_map, List.getElem?_eq_getElem hj]
        rfl
      · show -(2 ^ 64) < ((i : Nat) : Int) + 2
        omega
      · show ((i : Nat) : Int) + 2 < 2 ^ 64
        omega
      · refine ⟨_, rfl, _, rfl, _, rfl, _, _, rfl, rfl, (show (0 : Int) < (m : Int) by omega), l, _, (i : Int) % (m : Int), j, rfl, rfl, t3', ?_, ?_⟩
        · rw [ej, List.length_map]
          exact Evl.ixN_nat hj
        · refine ⟨cs.set j (cs[j] + zs[i] * ((i : Nat) + 2)), some (.int (i : Nat)), some (.int zs[i]), rfl, same_mut (t1.trans (same_new nT)) nl0, ?_, ?_, ?_⟩
          · rw [upd_ne elx.symm, upd_ne nTx]
            exact t2
          · rw [upd_same, List.map_set]
          · rw [List.length_set]
            exact t4
    · rintro σ H3 ⟨cs, y3, y4, rfl, t1, t2, t3, t4⟩
      exact ⟨_, rfl, q l H3 cs nl0 t1 t3 (by omega) (by omega)⟩
end
end Tw

/-! the law -/
namespace Tw
open PySem PySem.Spec PyProof.Rows L2
theorem scLaw : FnScope ["_law_script", "_law_cells", "_law_k", "_law_tape_here", "_law_names_here", "_law_turn", "_law_a_code", "_law_places", "_law_longer", "_law_due", "_law_found"] ["_law_script"] (defScope (topS 18)) := ⟨rfl, rfl, rfl, by decide +kernel, rfl, by decide +kernel, by decide +kernel⟩
def spLaw (K : PySem.W.Frag) : Sp := fun vs H Q _ => ∃ (a : Addr) (ns : List Int), vs = [.ref a] ∧ SqL K H a (ns.map V.int) ∧ ns.length ≤ 63 ∧ ∀ H', Q (.bl true) H'
theorem dpa_ints {K : PySem.W.Frag} {H : Hp} : ∀ ns : List Int, DpAll K H (ns.map V.int) (ns.map PyData.int)
  | [] => .nil
  | n :: r => .cons (.int n) (dpa_ints r)
theorem can_ints : ∀ ns : List Int, PyData.canLayAll0 (ns.map PyData.int) = true ∧ PyData.depthAll (ns.map PyData.int) = 0
  | [] => ⟨rfl, rfl⟩
  | n :: r => by
    obtain ⟨h1, h2⟩ := can_ints r
    refine ⟨?_, ?_⟩
    · show (true && PyData.canLayAll0 (r.map PyData.int)) = true
      rw [h1]
      rfl
    · show max 0 (PyData.depthAll (r.map PyData.int)) = 0
      rw [h2]
      rfl
theorem shaped_ints (ns : List Int) : SeqAt.shaped (.list (ns.map PyData.int)) = true := by
  obtain ⟨h1, h2⟩ := can_ints ns
  show (PyData.canLayAll0 (ns.map PyData.int) && decide (PyData.depthAll (ns.map PyData.int) + 1 ≤ 64)) = true
  rw [h1, h2]
  rfl
theorem eqv_ints : ∀ ns : List Int, PyData.eqv (.list (ns.map PyData.int)) (.list (ns.map PyData.int)) = true := fun ns =>
  SeqAt.eqv_refl _ (by
    show PyData.canLayAll0 (ns.map PyData.int) = true
    exact (can_ints ns).1)
/-- dict(list of pairs) -/
def rDictP (K : PySem.W.Frag) : List V → Hp → VK → Prop := fun xs H Q => ∃ (a : Addr) (ps : List Addr) (kvs : List (Key × V)), xs = [.ref a] ∧ SqL K H a (ps.map V.ref) ∧ Paired (fun p kv => SqT K H p [kV kv.1, kv.2]) ps kvs ∧ ∀ p H', H p = none → Same H H' → H' p = some (.dK (mergeK [] kvs)) → Q (.ref p) H'
theorem call_dictP' {X : Cx} (K : PySem.W.Frag) (hcalm : X.calm = true) (h : X.K = K := by rfl) : CallR X (.type "dict") (rDictP K) := by
  subst h
  intro pins s σ H xs us Q I r q
  obtain ⟨a, ps, kvs, e1, h1, h2, q⟩ := q
  exact call_dictP hcalm pins s σ H xs us Q I r ⟨a, ps, kvs, e1, h1, h2, fun p np => q p _ np (same_new np) upd_same⟩
theorem sl_tupU' {X : Cx} (K : PySem.W.Frag) (h : X.K = K := by rfl) : SlR X (rSlU K) := by subst h; exact sl_tupU
theorem op_catU' {X : Cx} (K : PySem.W.Frag) (h : X.K = K := by rfl) : OpR X (binaryOp .Add) (rCatU K) := by subst h; exact op_catU
theorem val_merge {k : Key} {v : V} : ∀ (more kvs : List (Key × V)), (∀ p ∈ more, p.1 = k → p.2 = v) → (valV kvs k = some v ∨ ∃ p ∈ more, p.1 = k) → valV (mergeK kvs more) k = some v
  | [], kvs, _, h => by
    rcases h with h | ⟨p, hp, _⟩
    · exact h
    · cases hp
  | p :: r, kvs, hv, h => by
    show valV (mergeK (putK kvs p.1 p.2) r) k = some v
    refine val_merge r _ (fun x hx => hv x (List.mem_cons_of_mem _ hx)) ?_
    rw [valV_put]
    by_cases e : k = p.1
    · rw [if_pos e]
      exact .inl (by rw [hv p List.mem_cons_self e.symm])
    · rw [if_neg e]
      rcases h with h | ⟨x, hx, hk⟩
      · exact .inl h
      · rcases List.mem_cons.mp hx with rfl | hx
        · exact absurd hk.symm e
        · exact .inr ⟨x, hx, hk⟩
theorem prs_refs {cn : Str → Nat} {K : PySem.W.Frag} {H : Hp} : ∀ {vs : List V} {ys : List Str}, Paired (PrV cn H) vs ys → ∃ ps : List Addr, vs = ps.map V.ref ∧ Paired (fun p (kv : Key × V) => SqT K H p [kV kv.1, kv.2]) ps (ys.map fun z => ((Sum.inr z : Key), V.int ((cn z : Nat) : Int)))
  | _, _, .nil => ⟨[], rfl, .nil⟩
  | _, _, .cons ⟨q, e, h⟩ r => by
    obtain ⟨ps, e2, hp⟩ := prs_refs (K := K) r
    exact ⟨q :: ps, by rw [e, e2]; rfl, .cons (SqT.of h) hp⟩
theorem paired_take {α β : Type} {R : α → β → Prop} : ∀ (n : Nat) {xs : List α} {ys : List β}, Paired R xs ys → Paired R (xs.take n) (ys.take n)
  | 0, _, _, _ => .nil
  | _ + 1, _, _, .nil => .nil
  | n + 1, _, _, .cons h r => .cons h (paired_take n r)
theorem paired_app {α β : Type} {R : α → β → Prop} {us : List α} {vs : List β} (h : Paired R us vs) : ∀ {xs : List α} {ys : List β}, Paired R xs ys → Paired R (xs ++ us) (ys ++ vs)
  | _, _, .nil => h
  | _, _, .cons a r => .cons a (paired_app h r)
theorem cut_takeV (xs : List V) (n : Nat) : cutV xs none (some (n : Int)) = xs.take n := by
  unfold cutV
  rw [HT.sIx_none, HT.sIx_nat, List.drop_zero, Nat.sub_zero]
  rcases Nat.le_total n xs.length with h | h
  · rw [Nat.min_eq_left h]
  · rw [Nat.min_eq_right h, List.take_length, List.take_of_length_le h]
theorem CodeV.take {K : PySem.W.Frag} {H H' : Hp} {p q : Addr} {xs : List V} {acts : List Act} (h : CodeV K H p xs acts) (s : Same H H') (n : Nat) (hq : SqT K H' q (xs.take n)) : CodeV K H' q (xs.take n) (acts.take n) :=
  ⟨hq, paired_take n (h.same s).pa, fun a ha => h.ok a (List.mem_of_mem_take ha), by rw [List.length_take]; have := h.len; omega⟩
theorem CodeOf.v {K : PySem.W.Frag} {H : Hp} {p : Addr} {takes gives : List Str} {places : Nat} {xs : List V} {acts : List Act} (h : CodeOf K H p takes gives places xs acts) (l1 : takes.length < 8) (l2 : gives.length < 8) : CodeV K H p xs acts :=
  ⟨h.sq, h.pa.mono fun _ _ ⟨q, e, a⟩ => ⟨q, e, SqT.of a⟩, fun a ha => (h.ok a ha).1, by have := h.len; omega⟩
/-- the longer code -/
def longer (acts : List Act) (n1 n4 : Str) : List Act := acts.take 20 ++ [.take n1, .give n4]
theorem mvT_app (g : Bool) (a b : List Act) : mvT g (a ++ b) = mvT g a ++ mvT g b := by
  unfold mvT
  rw [List.filterMap_append]
theorem longer_take (acts : List Act) (n1 n4 : Str) : (mvT false (longer acts n1 n4)).count n1 = (mvT false (acts.take 20)).count n1 + 1 := by
  unfold longer
  rw [mvT_app, List.count_append]
  show _ + [n1].count n1 = _
  rw [List.count_singleton_self]
theorem longer_give (acts : List Act) (n1 n4 : Str) : (mvT true (longer acts n1 n4)).count n4 = (mvT true (acts.take 20)).count n4 + 1 := by
  unfold longer
  rw [mvT_app, List.count_append]
  show _ + [n4].count n4 = _
  rw [List.count_singleton_self]
theorem pair_val {cn : Str → Nat} {ys : List Str} {z : Str} (h : z ∈ ys) : some (V.int ((cn z : Nat) : Int)) = valV (mergeK [] (ys.map fun z => ((Sum.inr z : Key), V.int ((cn z : Nat) : Int)))) (Sum.inr z) := by
  refine (val_merge _ _ (fun p hp e => ?_) (.inr ⟨_, List.mem_map.mpr ⟨z, h, rfl⟩, rfl⟩)).symm
  obtain ⟨y, _, rfl⟩ := List.mem_map.mp hp
  cases e
  rfl
section
variable {P : Program} {w : World} {K : PySem.W.Frag} {mg : Str → Option Value} {base : Heap}
theorem ok_law {f : Addr} {fd : FuncData} {k k1 k2 k3 k4 k5 k6 k7 k8 : Nat} (g : Bl mg) (gm : Bm mg) (C_law_tape : Cal P w K mg base "_law_tape" k1 ["_law_script", "_law_k"] (spTape K)) (C_law_folded : Cal P w K mg base "_law_folded" k2 ["_law_script", "_law_many_here"] (spFolded K)) (C_law_names : Cal P w K mg base "_law_names" k3 ["_law_tape_here", "_law_many_here"] spNames) (C_law_right : CalG P w K mg base "_law_right" k4 ["_law_a_code"] (spRight K))
    (C_law_some_code : Cal P w K mg base "_law_some_code" k5 ["_law_tape_here", "_law_names_here", "_law_most"] (spSomeCode K)) (C_law_many : Cal P w K mg base "_law_many" k6 ["_law_a_code", "_law_word", "_law_tray"] (spMoves K)) (Ctakes_of : Cal P w K mg base "takes_of" k7 ["code"] (spTold K false)) (Cgives_of : Cal P w K mg base "gives_of" k8 ["code"] (spTold K true))
    (h_law_tape : k1 ≤ k) (h_law_folded : k2 ≤ k) (h_law_names : k3 ≤ k) (h_law_right : k4 ≤ k) (h_law_some_code : k5 ≤ k) (h_law_many : k6 ≤ k) (htakes_of : k7 ≤ k) (hgives_of : k8 ≤ k) (F : Fun K "law" "law" (topS 18) f fd) : FnOkG P w K mg base (k + 1) f fd ["_law_script"] (spLaw K) := by
  refine okG F scLaw (fun vs H Q E h => ?_) (fun cdv A outer s H vs Q E hr hg h => ?_)
  · obtain ⟨a, ns, rfl, _⟩ := h
    rfl
  · obtain ⟨a, ns, rfl, hS, hlen, q⟩ := h
    refine ⟨_, (pss_cons (ps_set (i := 1) scLaw.nd rfl (Or.inl rfl) (pe_cut (pe_ifExp (pt_cmpR (op_neD hr.units) (pv 0) (pe_lstU pa_nil) (nomark _)) (pe_c C_law_folded hr h_law_folded (ha := (pa_cons (pv 0) (pa_cons pe_int pa_nil)))) (pe_lstU (pa_cons pe_int pa_nil)))))
      (pss_cons (ps_for PassesOwn.never rfl (pi_range1 (by rfl) g.range (pa_cons (pe_callB (call_len' K) (by rfl) g.len PySem.boot_len (pa_cons (pv 1) pa_nil)) pa_nil)) (pg_name (i := 2) scLaw.nd rfl (Or.inl rfl))
        (pss_cons (ps_set (i := 3) scLaw.nd rfl (Or.inl rfl) (pe_c C_law_tape hr h_law_tape (ha := (pa_cons (pv 1) (pa_cons (pv 2) pa_nil)))))
        (pss_cons (ps_set (i := 4) scLaw.nd rfl (Or.inl rfl) (pe_c C_law_names hr h_law_names (ha := (pa_cons (pv 3) (pa_cons pe_int pa_nil)))))
        (pss_one (ps_for PassesOwn.never rfl (pi_range1 (by rfl) g.range (pa_cons pe_int pa_nil)) (pg_name (i := 5) scLaw.nd rfl (Or.inl rfl))
          (pss_cons (ps_asg (pe_c C_law_some_code hr h_law_some_code (ha := (pa_cons (pv 3) (pa_cons (pv 4) (pa_cons pe_int pa_nil))))) (pg_tup rfl (pgs_cons (pg_name (i := 6) scLaw.nd rfl (Or.inl rfl)) (pgs_cons (pg_name (i := 7) scLaw.nd rfl (Or.inl rfl)) pgs_nil))))
          (Evl.pss_cut (ps_if (pt_not (pt_val (pe_cg C_law_right hr hg h_law_right (ha := (pa_cons (pv 6) pa_nil)))))
            (pss_one (ps_ret pe_bl))
            pss_nil)
          (pss_cons (ps_set (i := 8) scLaw.nd rfl (Or.inl rfl) (pe_op (op_catU' K) (pe_slice (sl_tupU' K) (pv 6) po_none (po_some pe_int)) (pe_tupU (pa_cons (pe_tupU (pa_cons pe_str (pa_cons (pe_ix (ix_list' K) (pv 4) pe_int (fun _ _ => rfl)) pa_nil))) (pa_cons (pe_tupU (pa_cons pe_str (pa_cons (pe_ix (ix_list' K) (pv 4) pe_int (fun _ _ => rfl)) pa_nil))) pa_nil)))))
          (pss_cons (ps_set (i := 9) scLaw.nd rfl (Or.inl rfl) (pe_lstU (pa_cons (pe_op op_add (pe_c C_law_many hr h_law_many (ha := (pa_cons (pe_slice (sl_tupU' K) (pv 6) po_none (po_some pe_int)) (pa_cons pe_str (pa_cons (pe_ix (ix_list' K) (pv 4) pe_int (fun _ _ => rfl)) pa_nil))))) pe_int) (pa_cons (pe_op op_add (pe_c C_law_many hr h_law_many (ha := (pa_cons (pe_slice (sl_tupU' K) (pv 6) po_none (po_some pe_int)) (pa_cons pe_str (pa_cons (pe_ix (ix_list' K) (pv 4) pe_int (fun _ _ => rfl)) pa_nil))))) pe_int) pa_nil))))
          (pss_cons (ps_set (i := 10) scLaw.nd rfl (Or.inl rfl) (pe_lstU (pa_cons (pe_dget (hu_of hr) (pe_callTy (call_dictP' K rfl) (by rfl) gm.dict PyProof.Rows.boot_dict (pa_cons (pe_c Ctakes_of hr htakes_of (ha := (pa_cons (pv 8) pa_nil))) pa_nil)) (pe_ix (ix_list' K) (pv 4) pe_int (fun _ _ => rfl)) (fun _ _ => rfl)) (pa_cons (pe_dget (hu_of hr) (pe_callTy (call_dictP' K rfl) (by rfl) gm.dict PyProof.Rows.boot_dict (pa_cons (pe_c Cgives_of hr hgives_of (ha := (pa_cons (pv 8) pa_nil))) pa_nil)) (pe_ix (ix_list' K) (pv 4) pe_int (fun _ _ => rfl)) (fun _ _ => rfl)) pa_nil))))
          (pss_one (ps_if (PW.pt (pw_or (pt_cmpR (op_neD hr.units) (pv 10) (pv 9) (nomark _)) (pw_or1 (pt_not (pt_val (pe_cg C_law_right hr hg h_law_right (ha := (pa_cons (pv 8) pa_nil))))))))
            (pss_one (ps_ret pe_bl))
            pss_nil))))))))))))
      (pss_one (ps_ret pe_bl)))), ?_⟩
    have z1 : 1 ≤ 100000 := by decide
    -- cells
    refine ⟨fun v H' => ∃ cl cs, v = .ref cl ∧ H' cl = some (.lst (List.map V.int cs)) ∧ 1 ≤ cs.length ∧ cs.length ≤ 4, ?_, ?_⟩
    · refine ⟨_, rfl, Nat.zero_le _, fun e0 H1 _ s1 c1 => ?_⟩
      refine ⟨.list (ns.map PyData.int), .list [], .lst (s1.seq hS) (dpa_ints ns), .lst (SqL.of c1) .nil, shaped_ints ns, rfl, _, rfl, ?_⟩
      cases ns with
      | nil =>
        refine iteF ?_
        exact ⟨z1, fun cl H2 _ s2 c2 => ⟨cl, [0], rfl, c2, by decide, by decide⟩⟩
      | cons n r =>
        refine iteT ?_
        refine ⟨_, rfl, a, 4, n :: r, rfl, s1.seq hS, hlen, Nat.succ_pos _, by decide, by decide, fun p H2 cs _ s2 c2 h1 h2 => ⟨p, cs, rfl, c2, h1, h2⟩⟩
    rintro v H1 ⟨cl, cs, rfl, hcl, hc1, hc4⟩
    refine ⟨_, rfl, cl, _, rfl, .inl (SqL.of hcl), _, rfl, ?_, ?_, for_range (lo := 0) (n := (((cs.map V.int).length : Nat) : Int).toNat) (fun i σ H2 => ∃ y2 y3 y4 y5 y6 y7 y8 y9 y10, σ = [some (.ref a), some (.ref cl), y2, y3, y4, y5, y6, y7, y8, y9, y10] ∧ H2 cl = some (.lst (cs.map V.int))) ⟨none, none, none, none, none, none, none, none, none, rfl, hcl⟩ ?_ ?_⟩
    · rw [List.length_map]
      omega
    · rw [List.length_map]
      omega
    · rintro i σ H2 hi ⟨y2, y3, y4, y5, y6, y7, y8, y9, y10, rfl, hcl2⟩
      have hi4 : i < 4 := by
        rw [List.length_map] at hi
        omega
      rw [Int.zero_add]
      refine ⟨_, rfl, _, rfl, cl, i, cs, rfl, SqL.of hcl2, by omega, fun t H3 nt s3 hT => ?_⟩
      have htc : cl ≠ t := ne_of_none hcl2 nt
      have hcl3 := s3 _ _ hcl2
      refine ⟨_, rfl, t, 4, 3000, rfl, by decide, hT.mono (by decide), fun an H4 nm na k4 t4 c4 l4 nd4 in4 => ?_⟩
      have hcl4 := k4 _ _ htc hcl3
      obtain ⟨n1, n2, n3, n4, rfl⟩ : ∃ n1 n2 n3 n4, nm = [n1, n2, n3, n4] := by
        match nm, l4 with
        | [n1, n2, n3, n4], _ => exact ⟨n1, n2, n3, n4, rfl⟩
      have hat : an ≠ t := strs_ne t4 c4
      refine ⟨12, rfl, by decide, by decide, for_range (lo := 0) (n := (12 : Int).toNat) (fun j σ H5 => ∃ y5 y6 y7 y8 y9 y10, σ = [some (.ref a), some (.ref cl), some (.int (i : Int)), some (.ref t), some (.ref an), y5, y6, y7, y8, y9, y10] ∧ Kp t H4 H5 ∧ Tape H5 t (3000 - 193 * j)) ⟨_, _, _, _, _, _, rfl, Kp.refl _ _, t4⟩ ?_ ?_⟩
      · rintro j σ H5 hj ⟨z5, z6, z7, z8, z9, z10, rfl, k5, t5⟩
        have hj : j < 12 := hj
        have can := k5 _ _ hat c4
        have m1 := in4 n1 (by simp)
        have m2 := in4 n2 (by simp)
        have m3 := in4 n3 (by simp)
        have m4 := in4 n4 (by simp)
        refine ⟨_, rfl, _, rfl, t, an, n1, n2, n3, n4, [], 8, 3000 - 193 * (j + 1), rfl, can, ⟨m1, m2, m3, m4⟩, by decide, by decide, t5.mono (by omega), fun qq p places takes gives xs acts H6 k6 t6 c6 hpl ht hgv lt lgv co => ?_⟩
        have C6 : CodeV K H6 p xs acts := co.v lt lgv
        have nA : ∀ b ∈ acts, nmAct b ∧ plOk 1000 b := fun b hb => by
          refine ⟨?_, ?_⟩
          · cases b with
            | take z =>
              rcases ht z (co.takeIn hb) with rfl | rfl
              · exact m1
              · exact m2
            | give z =>
              rcases hgv z (co.giveIn hb) with rfl | rfl
              · exact m3
              · exact m4
            | _ => exact trivial
          · have := (co.ok b hb).2
            cases b <;> first | exact trivial | exact Nat.lt_trans (show _ < places from this) (by omega)
        refine ⟨qq, _, rfl, SqT.of c6, rfl, _, _, rfl, _, _, rfl, rfl, ?_⟩
        have can6 := k6 _ _ hat can
        refine ⟨fun σ H7 => Same H6 H7 ∧ σ = [some (.ref a), some (.ref cl), some (.int (i : Int)), some (.ref t), some (.ref an), some (.int (0 + (j : Int))), some (.ref p), some (.int (places : Int)), z8, z9, z10], ?_, ?_⟩
        · exact ⟨_, rfl, p, xs, acts, rfl, C6, nA, fun H7 s7 => ⟨true, rfl, iteF ⟨s7, rfl⟩⟩⟩
        rintro σ H7 ⟨s7, rfl⟩
        have C7 := C6.same s7
        have can7 := s7 _ _ can6
        have z2 : 2 ≤ 100000 := by decide
        -- the longer one
        refine ⟨_, rfl, 20, rfl, p, xs, rfl, C7.sq, fun c1 H8 s8 d8 => ?_⟩
        have e20 : cutV xs none (some 20) = xs.take 20 := cut_takeV xs 20
        rw [e20] at d8
        refine ⟨_, rfl, an, _, 0, .str n1, rfl, rfl, SqL.of (s8 _ _ can7), atI_nat (j := 0) rfl, z2, fun u1 H9 nu1 s9 du1 => ⟨_, rfl, an, _, 3, .str n4, rfl, rfl, SqL.of (s9 _ _ (s8 _ _ can7)), atI_nat (j := 3) rfl, z2, fun u2 H10 nu2 s10 du2 => ⟨z2, fun u3 H11 nu3 s11 du3 => ?_⟩⟩⟩
        have hl20 : (xs.take 20).length ≤ 20 := by rw [List.length_take]; omega
        refine ⟨c1, u3, _, _, rfl, rfl, same_sqt (same_trans s9 (same_trans s10 s11)) d8, SqT.of du3, by show (xs.take 20).length + 2 ≤ 100000; omega, fun lg H12 s12 dlg => ?_⟩
        have s8b : Same H8 H12 := same_trans s9 (same_trans s10 (same_trans s11 s12))
        have s7b : Same H7 H12 := same_trans s8 s8b
        have CL : CodeV K H12 lg (xs.take 20 ++ [.ref u1, .ref u2]) (longer acts n1 n4) := by
          refine ⟨dlg, paired_app (.cons ⟨u1, rfl, SqT.of (s12 _ _ (s11 _ _ (s10 _ _ du1)))⟩ (.cons ⟨u2, rfl, SqT.of (s12 _ _ (s11 _ _ du2))⟩ .nil)) (paired_take 20 (C7.same s7b).pa), fun b hb => ?_, ?_⟩
          · rcases List.mem_append.mp hb with hb | hb
            · exact C6.ok b (List.mem_of_mem_take hb)
            · rcases List.mem_cons.mp hb with rfl | hb
              · exact trivial
              · rw [List.mem_singleton.mp hb]
                exact trivial
          · unfold longer
            rw [List.length_append, List.length_take]
            show min 20 acts.length + 2 < 60
            omega
        have nL : ∀ b ∈ longer acts n1 n4, nmAct b ∧ plOk 1000 b := fun b hb => by
          rcases List.mem_append.mp hb with hb | hb
          · exact nA b (List.mem_of_mem_take hb)
          · rcases List.mem_cons.mp hb with rfl | hb
            · exact ⟨m1, trivial⟩
            · rw [List.mem_singleton.mp hb]
              exact ⟨m4, trivial⟩
        have can12 := s7b _ _ can7
        have C12 := C7.same s7b
        -- what is due
        refine ⟨_, rfl, 20, rfl, p, xs, rfl, C12.sq, fun c2 H13 s13 d13 => ?_⟩
        rw [e20] at d13
        refine ⟨_, rfl, an, _, 0, .str n1, rfl, rfl, SqL.of (s13 _ _ can12), atI_nat (j := 0) rfl, c2, false, n1, _, acts.take 20, rfl, C12.take s13 20 d13, fun H14 s14 => ⟨_, _, rfl, rfl, ?_⟩⟩
        have s1214 := same_trans s13 s14
        refine ⟨_, rfl, 20, rfl, p, xs, rfl, same_sqt s1214 C12.sq, fun c3 H15 s15 d15 => ?_⟩
        rw [e20] at d15
        have s1215 := same_trans s1214 s15
        refine ⟨_, rfl, an, _, 3, .str n4, rfl, rfl, SqL.of (s1215 _ _ can12), atI_nat (j := 3) rfl, c3, true, n4, _, acts.take 20, rfl, C12.take s1215 20 d15, fun H16 s16 => ⟨_, _, rfl, rfl, z2, fun du H17 ndu s17 cdu => ?_⟩⟩
        have s1217 := same_trans s1215 (same_trans s16 s17)
        have can17 := s1217 _ _ can12
        have CL17 := CL.same s1217
        -- found
        refine ⟨_, rfl, lg, _, _, rfl, CL17, fun ya pa H18 va Ua na18 s18 ca18 pp18 => ?_⟩
        obtain ⟨psa, rfl, hpa⟩ := prs_refs (K := K) pp18
        refine ⟨pa, psa, _, rfl, SqL.of ca18, hpa, fun da H19 nda s19 cda => ⟨_, rfl, an, _, 0, .str n1, rfl, rfl, SqL.of (s19 _ _ (s18 _ _ can17)), atI_nat (j := 0) rfl, da, _, rfl, .inl ⟨_, .inr n1, .inl cda, rfl, pair_val ((Ua.mm n1).mpr (List.count_pos_iff.mp (by rw [longer_take]; omega)))⟩, ?_⟩⟩
        have s1719 := same_trans s18 s19
        refine ⟨_, rfl, lg, _, _, rfl, CL17.same s1719, fun yb pb H20 vb Ub nb20 s20 cb20 pp20 => ?_⟩
        obtain ⟨psb, rfl, hpb⟩ := prs_refs (K := K) pp20
        refine ⟨pb, psb, _, rfl, SqL.of cb20, hpb, fun db H21 ndb s21 cdb => ⟨_, rfl, an, _, 3, .str n4, rfl, rfl, SqL.of (s21 _ _ (s20 _ _ (s1719 _ _ can17))), atI_nat (j := 3) rfl, db, _, rfl, .inl ⟨_, .inr n4, .inl cdb, rfl, pair_val ((Ub.mm n4).mpr (List.count_pos_iff.mp (by rw [longer_give]; omega)))⟩, z2, fun fo H22 nfo s22 cfo => ?_⟩⟩
        have s1722 := same_trans s1719 (same_trans s20 (same_trans s21 s22))
        rw [longer_take, longer_give] at cfo
        refine ⟨_, rfl, _, rfl, .list (List.map PyData.int [_, _]), .list (List.map PyData.int [_, _]), .lst (SqL.of cfo) (dpa_ints [_, _]), .lst (SqL.of (s1722 _ _ cdu)) (dpa_ints [_, _]), shaped_ints _, shaped_ints _, ?_⟩
        rw [show (((((mvT false (acts.take 20)).count n1 + 1 : Nat) : Int)) = (((mvT false (acts.take 20)).count n1 : Nat) : Int) + 1) from rfl, show (((((mvT true (acts.take 20)).count n4 + 1 : Nat) : Int)) = (((mvT true (acts.take 20)).count n4 : Nat) : Int) + 1) from rfl, eqv_ints]
        refine ⟨false, rfl, iteF ⟨_, rfl, lg, _, _, rfl, CL.same (same_trans s1217 s1722), nL, fun H23 s23 => ⟨true, rfl, iteF ?_⟩⟩⟩
        have s623 : Same H6 H23 := same_trans s7 (same_trans s7b (same_trans s1217 (same_trans s1722 s23)))
        refine ⟨_, _, _, _, _, _, rfl, k5.trans (k6.trans (kp_same s623)), tape_same s623 (t6.mono (by omega))⟩
      · rintro σ H5 ⟨z5, z6, z7, z8, z9, z10, rfl, k5, t5⟩
        exact ⟨_, _, _, _, _, _, _, _, _, rfl, k5 _ _ htc hcl4⟩
    · rintro σ H2 ⟨y2, y3, y4, y5, y6, y7, y8, y9, y10, rfl, _⟩
      exact q _
end
end Tw

/-! what the top has written, and the end -/
namespace Tw
open PySem PySem.Spec PyProof.Rows L2
theorem all_mk {l : PySem.W.OpenLaw} {w : World} {K : PySem.W.Frag} {h : Heap} {mg : Str → Option Value} {fa : Addr} (X : K.In h) (G : h.Ns mainGlobals mg) (hfa : mg "law" = some (.ref fa))
    {f0 : Addr} {od0 an0 : Option Addr} {sl0 : Array (Option Value)} {oc0 kV0 dc0 pm0 cd0 ct0 : Value}
    {f1 : Addr} {od1 an1 : Option Addr} {sl1 : Array (Option Value)} {oc1 kV1 dc1 pm1 cd1 ct1 : Value}
    {f2 : Addr} {od2 an2 : Option Addr} {sl2 : Array (Option Value)} {oc2 kV2 dc2 pm2 cd2 ct2 : Value}
    {f3 : Addr} {od3 an3 : Option Addr} {sl3 : Array (Option Value)} {oc3 kV3 dc3 pm3 cd3 ct3 : Value}
    {f4 : Addr} {od4 an4 : Option Addr} {sl4 : Array (Option Value)} {oc4 kV4 dc4 pm4 cd4 ct4 : Value}
    {f5 : Addr} {od5 an5 : Option Addr} {sl5 : Array (Option Value)} {oc5 kV5 dc5 pm5 cd5 ct5 : Value}
    {f6 : Addr} {od6 an6 : Option Addr} {sl6 : Array (Option Value)} {oc6 kV6 dc6 pm6 cd6 ct6 : Value}
    {f7 : Addr} {od7 an7 : Option Addr} {sl7 : Array (Option Value)} {oc7 kV7 dc7 pm7 cd7 ct7 : Value}
    {f8 : Addr} {od8 an8 : Option Addr} {sl8 : Array (Option Value)} {oc8 kV8 dc8 pm8 cd8 ct8 : Value}
    {f9 : Addr} {od9 an9 : Option Addr} {sl9 : Array (Option Value)} {oc9 kV9 dc9 pm9 cd9 ct9 : Value}
    {f10 : Addr} {od10 an10 : Option Addr} {sl10 : Array (Option Value)} {oc10 kV10 dc10 pm10 cd10 ct10 : Value}
    {f11 : Addr} {od11 an11 : Option Addr} {sl11 : Array (Option Value)} {oc11 kV11 dc11 pm11 cd11 ct11 : Value}
    {f12 : Addr} {od12 an12 : Option Addr} {sl12 : Array (Option Value)} {oc12 kV12 dc12 pm12 cd12 ct12 : Value}
    {f13 : Addr} {od13 an13 : Option Addr} {sl13 : Array (Option Value)} {oc13 kV13 dc13 pm13 cd13 ct13 : Value}
    {f14 : Addr} {od14 an14 : Option Addr} {sl14 : Array (Option Value)} {oc14 kV14 dc14 pm14 cd14 ct14 : Value}
    {tk0 : Tok}
    {tk1 : Tok}
    (a0 : PySem.W.nsIn K mainGlobals "moves" = some (some (.ref f0))) (l0 : K.lookup f0 = some ⟨oc0, od0, .func (PySem.W.fnOf "moves" "moves" (defArgs (topS 3)) (defBody (topS 3)) (defScope (topS 3)) .none kV0 dc0 pm0 an0 cd0 ct0), sl0⟩) (c0 : PySem.W.codeIn K cd0 "moves" = true) (k0 : PySem.W.keepIn K (.ref f0) = true)
    (a1 : PySem.W.nsIn K mainGlobals "moves_all" = some (some (.ref f1))) (l1 : K.lookup f1 = some ⟨oc1, od1, .func (PySem.W.fnOf "moves_all" "moves_all" (defArgs (topS 4)) (defBody (topS 4)) (defScope (topS 4)) .none kV1 dc1 pm1 an1 cd1 ct1), sl1⟩) (c1 : PySem.W.codeIn K cd1 "moves_all" = true) (k1 : PySem.W.keepIn K (.ref f1) = true)
    (a2 : PySem.W.nsIn K mainGlobals "takes_of" = some (some (.ref f2))) (l2 : K.lookup f2 = some ⟨oc2, od2, .func (PySem.W.fnOf "takes_of" "takes_of" (defArgs (topS 5)) (defBody (topS 5)) (defScope (topS 5)) .none kV2 dc2 pm2 an2 cd2 ct2), sl2⟩) (c2 : PySem.W.codeIn K cd2 "takes_of" = true) (k2 : PySem.W.keepIn K (.ref f2) = true)
    (a3 : PySem.W.nsIn K mainGlobals "gives_of" = some (some (.ref f3))) (l3 : K.lookup f3 = some ⟨oc3, od3, .func (PySem.W.fnOf "gives_of" "gives_of" (defArgs (topS 6)) (defBody (topS 6)) (defScope (topS 6)) .none kV3 dc3 pm3 an3 cd3 ct3), sl3⟩) (c3 : PySem.W.codeIn K cd3 "gives_of" = true) (k3 : PySem.W.keepIn K (.ref f3) = true)
    (a4 : PySem.W.nsIn K mainGlobals "_law_tape" = some (some (.ref f4))) (l4 : K.lookup f4 = some ⟨oc4, od4, .func (PySem.W.fnOf "_law_tape" "_law_tape" (defArgs sTape) (defBody sTape) (defScope sTape) .none kV4 dc4 pm4 an4 cd4 ct4), sl4⟩) (c4 : PySem.W.codeIn K cd4 "_law_tape" = true) (k4 : PySem.W.keepIn K (.ref f4) = true)
    (a5 : PySem.W.nsIn K mainGlobals "_law_draw" = some (some (.ref f5))) (l5 : K.lookup f5 = some ⟨oc5, od5, .func (PySem.W.fnOf "_law_draw" "_law_draw" (defArgs sDraw) (defBody sDraw) (defScope sDraw) .none kV5 dc5 pm5 an5 cd5 ct5), sl5⟩) (c5 : PySem.W.codeIn K cd5 "_law_draw" = true) (k5 : PySem.W.keepIn K (.ref f5) = true)
    (a6 : PySem.W.nsIn K mainGlobals "_law_folded" = some (some (.ref f6))) (l6 : K.lookup f6 = some ⟨oc6, od6, .func (PySem.W.fnOf "_law_folded" "_law_folded" (defArgs sFolded) (defBody sFolded) (defScope sFolded) .none kV6 dc6 pm6 an6 cd6 ct6), sl6⟩) (c6 : PySem.W.codeIn K cd6 "_law_folded" = true) (k6 : PySem.W.keepIn K (.ref f6) = true)
    (a7 : PySem.W.nsIn K mainGlobals "_law_names" = some (some (.ref f7))) (l7 : K.lookup f7 = some ⟨oc7, od7, .func (PySem.W.fnOf "_law_names" "_law_names" (defArgs sNames) (defBody sNames) (defScope sNames) .none kV7 dc7 pm7 an7 cd7 ct7), sl7⟩) (c7 : PySem.W.codeIn K cd7 "_law_names" = true) (k7 : PySem.W.keepIn K (.ref f7) = true)
    (a8 : PySem.W.nsIn K mainGlobals "_law_same" = some (some (.ref f8))) (l8 : K.lookup f8 = some ⟨oc8, od8, .func (PySem.W.fnOf "_law_same" "_law_same" (defArgs sSame) (defBody sSame) (defScope sSame) .none kV8 dc8 pm8 an8 cd8 ct8), sl8⟩) (c8 : PySem.W.codeIn K cd8 "_law_same" = true) (k8 : PySem.W.keepIn K (.ref f8) = true)
    (a9 : PySem.W.nsIn K mainGlobals "_law_some_act" = some (some (.ref f9))) (l9 : K.lookup f9 = some ⟨oc9, od9, .func (PySem.W.fnOf "_law_some_act" "_law_some_act" (defArgs (topS 13)) (defBody (topS 13)) (defScope (topS 13)) .none kV9 dc9 pm9 an9 cd9 ct9), sl9⟩) (c9 : PySem.W.codeIn K cd9 "_law_some_act" = true) (k9 : PySem.W.keepIn K (.ref f9) = true)
    (a10 : PySem.W.nsIn K mainGlobals "_law_code_of" = some (some (.ref f10))) (l10 : K.lookup f10 = some ⟨oc10, od10, .func (PySem.W.fnOf "_law_code_of" "_law_code_of" (defArgs (topS 14)) (defBody (topS 14)) (defScope (topS 14)) .none kV10 dc10 pm10 an10 cd10 ct10), sl10⟩) (c10 : PySem.W.codeIn K cd10 "_law_code_of" = true) (k10 : PySem.W.keepIn K (.ref f10) = true)
    (a11 : PySem.W.nsIn K mainGlobals "_law_some_code" = some (some (.ref f11))) (l11 : K.lookup f11 = some ⟨oc11, od11, .func (PySem.W.fnOf "_law_some_code" "_law_some_code" (defArgs (topS 15)) (defBody (topS 15)) (defScope (topS 15)) .none kV11 dc11 pm11 an11 cd11 ct11), sl11⟩) (c11 : PySem.W.codeIn K cd11 "_law_some_code" = true) (k11 : PySem.W.keepIn K (.ref f11) = true)
    (a12 : PySem.W.nsIn K mainGlobals "_law_many" = some (some (.ref f12))) (l12 : K.lookup f12 = some ⟨oc12, od12, .func (PySem.W.fnOf "_law_many" "_law_many" (defArgs (topS 16)) (defBody (topS 16)) (defScope (topS 16)) .none kV12 dc12 pm12 an12 cd12 ct12), sl12⟩) (c12 : PySem.W.codeIn K cd12 "_law_many" = true) (k12 : PySem.W.keepIn K (.ref f12) = true)
    (a13 : PySem.W.nsIn K mainGlobals "_law_right" = some (some (.ref f13))) (l13 : K.lookup f13 = some ⟨oc13, od13, .func (PySem.W.fnOf "_law_right" "_law_right" (defArgs (topS 17)) (defBody (topS 17)) (defScope (topS 17)) .none kV13 dc13 pm13 an13 cd13 ct13), sl13⟩) (c13 : PySem.W.codeIn K cd13 "_law_right" = true) (k13 : PySem.W.keepIn K (.ref f13) = true)
    (a14 : PySem.W.nsIn K mainGlobals "law" = some (some (.ref f14))) (l14 : K.lookup f14 = some ⟨oc14, od14, .func (PySem.W.fnOf "law" "law" (defArgs (topS 18)) (defBody (topS 18)) (defScope (topS 18)) .none kV14 dc14 pm14 an14 cd14 ct14), sl14⟩) (c14 : PySem.W.codeIn K cd14 "law" = true) (k14 : PySem.W.keepIn K (.ref f14) = true)
    (q0 : PySem.W.nsIn K mainGlobals "TAKE" = some (some (.str "take" tk0)))
    (q1 : PySem.W.nsIn K mainGlobals "GIVE" = some (some (.str "give" tk1)))
    (z_len : PySem.W.nsIn K mainGlobals "len" = some none)
    (z_abs : PySem.W.nsIn K mainGlobals "abs" = some none)
    (z_int : PySem.W.nsIn K mainGlobals "int" = some none)
    (z_list : PySem.W.nsIn K mainGlobals "list" = some none)
    (z_tuple : PySem.W.nsIn K mainGlobals "tuple" = some none)
    (z_str : PySem.W.nsIn K mainGlobals "str" = some none)
    (z_bool : PySem.W.nsIn K mainGlobals "bool" = some none)
    (z_range : PySem.W.nsIn K mainGlobals "range" = some none)
    (z_enumerate : PySem.W.nsIn K mainGlobals "enumerate" = some none)
    (z_zip : PySem.W.nsIn K mainGlobals "zip" = some none)
    (z_all : PySem.W.nsIn K mainGlobals "all" = some none)
    (z_isinstance : PySem.W.nsIn K mainGlobals "isinstance" = some none)
    (z_dict : PySem.W.nsIn K mainGlobals "dict" = some none)
    (z_sorted : PySem.W.nsIn K mainGlobals "sorted" = some none)
    (z_set : PySem.W.nsIn K mainGlobals "set" = some none)
    (z_repr : PySem.W.nsIn K mainGlobals "repr" = some none) :
    ∃ fd : FuncData, (∀ (s : Shared) (v : Value), BindsTo s fd ⟨[v], []⟩ [("_law_script", v)]) ∧ ∀ base : Heap, K.In base → base.Ns mainGlobals mg → SysB base → FnOkG l.prog w K mg base 7 fa fd ["_law_script"] (spLaw K) := by
  have e := hfa.symm.trans (PySem.W.mg_of X G a14)
  cases e
  have F0 := fun_mk (st := (topS 3)) l0 c0 k0
  have b0 := F0.binds (ps := ["code", "word", "tray"]) fun _ _ _ _ _ _ us hl => match us, hl with | [_, _, _], _ => rfl
  have g0 := PySem.W.mg_of X G a0
  have F1 := fun_mk (st := (topS 4)) l1 c1 k1
  have b1 := F1.binds (ps := ["code", "word"]) fun _ _ _ _ _ _ us hl => match us, hl with | [_, _], _ => rfl
  have g1 := PySem.W.mg_of X G a1
  have F2 := fun_mk (st := (topS 5)) l2 c2 k2
  have b2 := F2.binds (ps := ["code"]) fun _ _ _ _ _ _ us hl => match us, hl with | [_], _ => rfl
  have g2 := PySem.W.mg_of X G a2
  have F3 := fun_mk (st := (topS 6)) l3 c3 k3
  have b3 := F3.binds (ps := ["code"]) fun _ _ _ _ _ _ us hl => match us, hl with | [_], _ => rfl
  have g3 := PySem.W.mg_of X G a3
  have F4 := fun_mk (st := sTape) l4 c4 k4
  have b4 := F4.binds (ps := ["_law_script", "_law_k"]) fun _ _ _ _ _ _ us hl => match us, hl with | [_, _], _ => rfl
  have g4 := PySem.W.mg_of X G a4
  have F5 := fun_mk (st := sDraw) l5 c5 k5
  have b5 := F5.binds (ps := ["_law_tape_here", "_law_many_here"]) fun _ _ _ _ _ _ us hl => match us, hl with | [_, _], _ => rfl
  have g5 := PySem.W.mg_of X G a5
  have F6 := fun_mk (st := sFolded) l6 c6 k6
  have b6 := F6.binds (ps := ["_law_script", "_law_many_here"]) fun _ _ _ _ _ _ us hl => match us, hl with | [_, _], _ => rfl
  have g6 := PySem.W.mg_of X G a6
  have F7 := fun_mk (st := sNames) l7 c7 k7
  have b7 := F7.binds (ps := ["_law_tape_here", "_law_many_here"]) fun _ _ _ _ _ _ us hl => match us, hl with | [_, _], _ => rfl
  have g7 := PySem.W.mg_of X G a7
  have F8 := fun_mk (st := sSame) l8 c8 k8
  have b8 := F8.binds (ps := ["_law_found", "_law_due"]) fun _ _ _ _ _ _ us hl => match us, hl with | [_, _], _ => rfl
  have g8 := PySem.W.mg_of X G a8
  have F9 := fun_mk (st := (topS 13)) l9 c9 k9
  have b9 := F9.binds (ps := ["_law_tape_here", "_law_pile", "_law_places"]) fun _ _ _ _ _ _ us hl => match us, hl with | [_, _, _], _ => rfl
  have g9 := PySem.W.mg_of X G a9
  have F10 := fun_mk (st := (topS 14)) l10 c10 k10
  have b10 := F10.binds (ps := ["_law_tape_here", "_law_takes", "_law_gives", "_law_places"]) fun _ _ _ _ _ _ us hl => match us, hl with | [_, _, _, _], _ => rfl
  have g10 := PySem.W.mg_of X G a10
  have F11 := fun_mk (st := (topS 15)) l11 c11 k11
  have b11 := F11.binds (ps := ["_law_tape_here", "_law_names_here", "_law_most"]) fun _ _ _ _ _ _ us hl => match us, hl with | [_, _, _], _ => rfl
  have g11 := PySem.W.mg_of X G a11
  have F12 := fun_mk (st := (topS 16)) l12 c12 k12
  have b12 := F12.binds (ps := ["_law_a_code", "_law_word", "_law_tray"]) fun _ _ _ _ _ _ us hl => match us, hl with | [_, _, _], _ => rfl
  have g12 := PySem.W.mg_of X G a12
  have F13 := fun_mk (st := (topS 17)) l13 c13 k13
  have b13 := F13.binds (ps := ["_law_a_code"]) fun _ _ _ _ _ _ us hl => match us, hl with | [_], _ => rfl
  have g13 := PySem.W.mg_of X G a13
  have F14 := fun_mk (st := (topS 18)) l14 c14 k14
  have b14 := F14.binds (ps := ["_law_script"]) fun _ _ _ _ _ _ us hl => match us, hl with | [_], _ => rfl
  have g14 := PySem.W.mg_of X G a14
  have B : Bl mg := ⟨PySem.W.mg_none_of X G z_len, PySem.W.mg_none_of X G z_abs, PySem.W.mg_none_of X G z_int, PySem.W.mg_none_of X G z_list, PySem.W.mg_none_of X G z_tuple, PySem.W.mg_none_of X G z_str, PySem.W.mg_none_of X G z_bool, PySem.W.mg_none_of X G z_range, PySem.W.mg_none_of X G z_enumerate, PySem.W.mg_none_of X G z_zip, PySem.W.mg_none_of X G z_all, PySem.W.mg_none_of X G z_isinstance⟩
  have Bm0 : Bm mg := ⟨PySem.W.mg_none_of X G z_dict, PySem.W.mg_none_of X G z_sorted, PySem.W.mg_none_of X G z_set, PySem.W.mg_none_of X G z_repr⟩
  have cst : Cst mg := ⟨⟨_, PySem.W.mg_of X G q0⟩, ⟨_, PySem.W.mg_of X G q1⟩⟩
  have kb2 : KBn K (PySem.W.fnOf "takes_of" "takes_of" (defArgs (topS 5)) (defBody (topS 5)) (defScope (topS 5)) .none kV2 dc2 pm2 an2 cd2 ct2) ["code"] 0 ["code"] (fun _ ws => ws) (fun _ zs => zs) := ⟨fun s us ws _ h1 h2 => match us, ws, h1, h2 with | [], [_], _, _ => .of_eq rfl, fun _ rz => rz⟩
  have kb3 : KBn K (PySem.W.fnOf "gives_of" "gives_of" (defArgs (topS 6)) (defBody (topS 6)) (defScope (topS 6)) .none kV3 dc3 pm3 an3 cd3 ct3) ["code"] 0 ["code"] (fun _ ws => ws) (fun _ zs => zs) := ⟨fun s us ws _ h1 h2 => match us, ws, h1, h2 with | [], [_], _, _ => .of_eq rfl, fun _ rz => rz⟩

  refine ⟨PySem.W.fnOf "law" "law" (defArgs (topS 18)) (defBody (topS 18)) (defScope (topS 18)) .none kV14 dc14 pm14 an14 cd14 ct14, fun s v => .of_eq rfl, fun base _ _ hsy => ?_⟩
  have cM : Cal l.prog w K mg base "moves" 1 ["code", "word", "tray"] (spMoves K) := ⟨_, _, ok_moves (k := 0) B F0, g0, k0, b0⟩
  have cA : Cal l.prog w K mg base "moves_all" 2 ["code", "word"] (spMovesAll K) := ⟨_, _, ok_moves_all (k := 1) B Bm0 cM (by decide) F1, g1, k1, b1⟩
  have oT := ok_takes_of (P := l.prog) (w := w) (base := base) (k := 2) cst cA (by decide) F2
  have oG := ok_gives_of (P := l.prog) (w := w) (base := base) (k := 2) cst cA (by decide) F3
  have cTk : Cal l.prog w K mg base "takes_of" 3 ["code"] (spTold K false) := ⟨_, _, oT, g2, k2, b2⟩
  have cGv : Cal l.prog w K mg base "gives_of" 3 ["code"] (spTold K true) := ⟨_, _, oG, g3, k3, b3⟩
  have hT : HeldC l.prog w K mg base 3 ["code"] id f2 (spTold K false) := ⟨_, _, _, oT, k2, b2, kb2⟩
  have hG : HeldC l.prog w K mg base 3 ["code"] id f3 (spTold K true) := ⟨_, _, _, oG, k3, b3, kb3⟩
  have cT : Cal l.prog w K mg base "_law_tape" 1 ["_law_script", "_law_k"] (spTape K) := ⟨_, _, ok_tape (k := 0) B F4, g4, k4, b4⟩
  have cW : Cal l.prog w K mg base "_law_draw" 1 ["_law_tape_here", "_law_many_here"] spDraw := ⟨_, _, ok_draw (k := 0) F5, g5, k5, b5⟩
  have cF : Cal l.prog w K mg base "_law_folded" 1 ["_law_script", "_law_many_here"] (spFolded K) := ⟨_, _, ok_folded (k := 0) B F6, g6, k6, b6⟩
  have cN : Cal l.prog w K mg base "_law_names" 2 ["_law_tape_here", "_law_many_here"] spNames := ⟨_, _, ok_names (k := 1) B cW (by decide) F7, g7, k7, b7⟩
  have cS : Cal l.prog w K mg base "_law_same" 5 ["_law_found", "_law_due"] (spSame K 3) := ⟨_, _, ok_same B F8 g8 b8 3, g8, k8, b8⟩
  have cSA : Cal l.prog w K mg base "_law_some_act" 2 ["_law_tape_here", "_law_pile", "_law_places"] spSomeAct := ⟨_, _, ok_some_act (k := 1) B cW (by decide) F9, g9, k9, b9⟩
  have cO : Cal l.prog w K mg base "_law_code_of" 3 ["_law_tape_here", "_law_takes", "_law_gives", "_law_places"] (spCodeOf K) := ⟨_, _, ok_code_of (k := 2) B cW cSA (by decide) (by decide) F10, g10, k10, b10⟩
  have cC : Cal l.prog w K mg base "_law_some_code" 4 ["_law_tape_here", "_law_names_here", "_law_most"] (spSomeCode K) := ⟨_, _, ok_some_code (k := 3) B cW cO (by decide) (by decide) F11, g11, k11, b11⟩
  have cMy : Cal l.prog w K mg base "_law_many" 1 ["_law_a_code", "_law_word", "_law_tray"] (spMoves K) := ⟨_, _, ok_many (k := 0) B F12, g12, k12, b12⟩
  have cR : CalG l.prog w K mg base "_law_right" 6 ["_law_a_code"] (spRight K) := ⟨_, _, ok_right (k := 5) B Bm0 hsy cMy cS hT g2 hG g3 (by decide) (by decide) (by decide) F13, g13, k13, b13⟩
  exact ok_law (k := 6) B Bm0 cT cF cN cR cC cMy cTk cGv (by decide) (by decide) (by decide) (by decide) (by decide) (by decide) (by decide) (by decide) F14
end Tw
open PySem PySem.W PyProof.Rows
set_option maxRecDepth 100000 in
set_option maxHeartbeats 0 in
theorem PySem.Challenge.cw_trayworks_k03_what_codes_take_and_give_holds : PySem.Challenge.rw_trayworks_k03_what_codes_take_and_give.Holds := by
  w_on; o_law; k_head; (case hw => w_witness2)
  k_fill
  refine Tw.walk_ofG (l := PySem.Challenge.rw_trayworks_k03_what_codes_take_and_give) (n := 63) (k := 7) (x := "_law_script") (sp := fun w => Tw.spLaw _) rfl (by decide) rfl ⟨rfl, by decide, by decide⟩ rfl (fun w h Y => PySem.W.kIn_of Y) ?F (fun _ _ a ns hl _ hS => ⟨a, ns, rfl, hS, hl, fun _ => rfl⟩)
  case F =>
    intro w mg fa h KX G hmg
    refine' Tw.all_mk KX G hmg ?a0 ?l0 ?c0 ?k0 ?a1 ?l1 ?c1 ?k1 ?a2 ?l2 ?c2 ?k2 ?a3 ?l3 ?c3 ?k3 ?a4 ?l4 ?c4 ?k4 ?a5 ?l5 ?c5 ?k5 ?a6 ?l6 ?c6 ?k6 ?a7 ?l7 ?c7 ?k7 ?a8 ?l8 ?c8 ?k8 ?a9 ?l9 ?c9 ?k9 ?a10 ?l10 ?c10 ?k10 ?a11 ?l11 ?c11 ?k11 ?a12 ?l12 ?c12 ?k12 ?a13 ?l13 ?c13 ?k13 ?a14 ?l14 ?c14 ?k14 ?q0 ?q1 ?z_len ?z_abs ?z_int ?z_list ?z_tuple ?z_str ?z_bool ?z_range ?z_enumerate ?z_zip ?z_all ?z_isinstance ?z_dict ?z_sorted ?z_set ?z_repr
    (case a0 => k_is); (case l0 => k_is); (case c0 => k_is); (case k0 => k_is); (case a1 => k_is); (case l1 => k_is)
    (case c1 => k_is); (case k1 => k_is); (case a2 => k_is); (case l2 => k_is); (case c2 => k_is); (case k2 => k_is)
    (case a3 => k_is); (case l3 => k_is); (case c3 => k_is); (case k3 => k_is); (case a4 => k_is); (case l4 => k_is)
    (case c4 => k_is); (case k4 => k_is); (case a5 => k_is); (case l5 => k_is); (case c5 => k_is); (case k5 => k_is)
    (case a6 => k_is); (case l6 => k_is); (case c6 => k_is); (case k6 => k_is); (case a7 => k_is); (case l7 => k_is)
    (case c7 => k_is); (case k7 => k_is); (case a8 => k_is); (case l8 => k_is); (case c8 => k_is); (case k8 => k_is)
    (case a9 => k_is); (case l9 => k_is); (case c9 => k_is); (case k9 => k_is); (case a10 => k_is); (case l10 => k_is)
    (case c10 => k_is); (case k10 => k_is); (case a11 => k_is); (case l11 => k_is); (case c11 => k_is); (case k11 => k_is)
    (case a12 => k_is); (case l12 => k_is); (case c12 => k_is); (case k12 => k_is); (case a13 => k_is); (case l13 => k_is)
    (case c13 => k_is); (case k13 => k_is); (case a14 => k_is); (case l14 => k_is); (case c14 => k_is); (case k14 => k_is)
    (case q0 => k_is); (case q1 => k_is); (case z_len => k_is); (case z_abs => k_is); (case z_int => k_is); (case z_list => k_is)
    (case z_tuple => k_is); (case z_str => k_is); (case z_bool => k_is); (case z_range => k_is); (case z_enumerate => k_is); (case z_zip => k_is)
    (case z_all => k_is); (case z_isinstance => k_is); (case z_dict => k_is); (case z_sorted => k_is); (case z_set => k_is); (case z_repr => k_is)

