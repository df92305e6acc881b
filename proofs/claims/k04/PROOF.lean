import PyProof.Rows.All
import Wide.All
import OpenK.AllK
import Wide.FinOn
import HandS.ForMost
import HandS.Wide
import PyProof.CollectIter
import HandS.IsInst
import HandS.Zip
import HandS.DictComp
import HandS.SetKeys
import HandS.DeepEq
import HandS.TupMul
import HandS.TupAny
import HandS.NoneIn
import HandS.Style
import HandS.Text
import PyProof.StrBlock2
import HandS.Evl
import HandS.Walk
import HandS.Small
import PyProof.ReprRoads
import PyProof.Rows.RegFStrParts
import HandS.Ends
import PyProof.Rows.ReprShort
import HandS.Defaults
import HandS.Finally
import PySem.Challenge.RW_trayworks_k04_codes_done
set_option Elab.async false
set_option linter.all false
set_option maxRecDepth 100000
set_option maxHeartbeats 4000000
/-! own words: a callee as one fact, the tape of draws -/
namespace Tw
open PySem PySem.Spec PyProof.Rows L2
/-- a def of the top, by its name: it stands there, and keeps its promise at level k -/
structure Cal (P : Program) (w : World) (K : PySem.W.Frag) (mg : Str → Option Value) (base : Heap) (x : Str) (k : Nat) (ps : List Str) (sp : Sp) : Prop where
  ex : ∃ (f : Addr) (fd : FuncData), FnOk P w K mg base CX0 k f fd ps sp ∧ mg x = some (.ref f) ∧ PySem.W.keepIn K (.ref f) = true ∧ Binds K fd ps []
section
variable {X : Cx} {x : Str} {j k : Nat} {ps : List Str} {sp : Sp} {e : Expr} {es : List Expr} {t : TA} {p pos : Pos}
theorem pe_c (C : Cal X.prog X.w X.K X.mg X.base x k ps sp) (hr : Room j X.A) (hk : k ≤ j := by decide) (hg : Gl X x := by rfl) (ha : PA X (e :: es) t)
    (hdb : (x == ("__debug__" : Str)) = false := by decide) (he : starEach (e :: es) X.env = (false, eval e X.env) :: starEach es X.env := by rfl) (hpl : (backTo pos (starEach es X.env)).any (·.1) = false := by rfl) :
    PE X (.Call (.Name x p) (e :: es) [] pos) (tCall sp [] E0 t) := by
  obtain ⟨f, fd, F, hm, hkp, hb⟩ := C.ex
  exact pe_call F (hr.mono hk) hg hm hkp hb .nil pass0 ha hdb he hpl
end
section
variable {X : Cx}
/-- a % b told by a letter and its bounds -/
def rModA : R2 := fun x y H Q => ∃ i j : Int, x = .int i ∧ y = .int j ∧ 0 < j ∧ ∀ o : Int, 0 ≤ o → o < j → o = i % j → Q (.int o) H
theorem op_modA : OpR X (binaryOp .Mod) rModA := fun pins s σ H x y u v Q I rx ry h => by
  obtain ⟨i, j, e1, e2, hj, q⟩ := h
  exact op_mod pins s σ H x y u v Q I rx ry ⟨i, j, e1, e2, hj, q _ (Int.emod_nonneg _ (by omega)) (Int.emod_lt_of_pos _ hj) rfl⟩
end
/-- the tape of draws at t, good for n draws more -/
def Tape (H : Hp) (t : Addr) (n : Nat) : Prop := ∃ a b c : Int, H t = some (.lst [.int a, .int b, .int c]) ∧ 0 ≤ b ∧ b < 4611686018427387904 ∧ 0 ≤ c ∧ c + (n : Int) ≤ 1000000000000
/-- all that was tracked stands, but for t -/
def Kp (t : Addr) (H H' : Hp) : Prop := ∀ b o, b ≠ t → H b = some o → H' b = some o
theorem Kp.refl (t : Addr) (H : Hp) : Kp t H H := fun _ _ _ h => h
theorem Kp.trans {t : Addr} {H H1 H2 : Hp} (a : Kp t H H1) (b : Kp t H1 H2) : Kp t H H2 := fun c o n h => b c o n (a c o n h)
theorem Kp.set {t : Addr} {H : Hp} {o : HO} : Kp t H (upd H t o) := fun b u n h => by
  rw [upd_ne n]
  exact h
theorem Kp.new {t p : Addr} {H : Hp} {o : HO} (h : H p = none) : Kp t H (upd H p o) := fun b u _ e => by
  rw [upd_ne (ne_of_none e h)]
  exact e
theorem Tape.mono {H : Hp} {t : Addr} {n m : Nat} (h : Tape H t n) (l : m ≤ n) : Tape H t m := by
  obtain ⟨a, b, c, e, h1, h2, h3, h4⟩ := h
  exact ⟨a, b, c, e, h1, h2, h3, by omega⟩
/-- a draw: below m, the tape alone changes -/
def spDraw : Sp := fun vs H Q _ => ∃ (t : Addr) (m : Int) (n : Nat), vs = [.ref t, .int m] ∧ 0 < m ∧ m < 1073741824 ∧ Tape H t (n + 1) ∧
  ∀ (i : Int) H', 0 ≤ i → i < m → Kp t H H' → Tape H' t n → Q (.int i) H'
end Tw

/-! word, *rest = a tuple -/
namespace Tw
open PySem PySem.Spec PyProof.Rows L2
theorem walksShift {prog : Program} {w : World} {A : Around} {I : Addr} {fp wr : List Addr} {G : Array GenState → Array GenState → Prop} {n : Nat} {P : Nat → Value → Prop} {St : Nat → Shared → Prop}
    (W : WalksS prog w A I fp wr G (n + 1) P St) : WalksS prog w A I fp wr G n (fun i v => P (i + 1) v) (fun i s => St (i + 1) s) where
  sub := W.sub
  grefl := W.grefl
  gtrans := W.gtrans
  frame := fun i s h' tk st ht hk => W.frame (i + 1) s h' tk st ht hk
  item := fun i s Q E hi st hQ => W.item (i + 1) s Q E (by omega) st hQ
  done := fun s Q E st hQ => W.done s Q E st hQ
  self := fun i s Q E st hQ => W.self (i + 1) s Q E st hQ
section
variable {prog : Program} {w : World} {A : Around} {E : Value → Shared → Prop} {s : Shared}
theorem unpackItems_star {t : Addr} {x : Value} {xs : List Value} {Q : List Value → Shared → Prop} (hh : A.handled = none) (ht : IsTup s.heap t (x :: xs).toArray) (hz : xs.length ≤ sizeLine)
    (hQ : ∀ (h1 : Heap) (tk : Nat), (∀ b o, s.heap.get? b = some o → h1.get? b = some o) → Q [x, .ref h1.objs.size] { s with heap := h1.push { cls := .type "list", data := .seq xs.toArray }, toks := tk }) :
    wpAny (model prog w) A (unpackItems (.ref t) 2 (some 1)) Q E s := by
  have hlt : t ≠ s.heap.objs.size := by obtain ⟨o, ho, _⟩ := ht; exact Nat.ne_of_lt (Heap.lt_size ho)
  unfold unpackItems
  refine wpAny_bind ?_
  unfold notIterableAtAll
  refine wpAny_bind (wpAny_specialOf ht.typeIs slot_tuple_iter.lookup ?_)
  refine wpAny_pure ?_
  simp only [Bool.false_eq_true, if_false]
  refine wpAny_bind (wpAny_holding (iter_tuple ht ?_))
  refine wpAny_bind (wpAny_holding (draw_tuple hlt 1 0 _ _ ⟨_, Heap.get?_push_size _ rfl, rfl, rfl⟩ (ht.push _) (by simp) fun h₁ hit₁ hs₁ => ?_))
  have e1 : List.take 1 (List.drop 0 (x :: xs).toArray.toList) = [x] := by simp
  rw [e1, if_neg (by simp)]
  have ht₁ : IsTup h₁ t (x :: xs).toArray := (ht.push _).extBut hs₁.extBut hlt
  have hA : A.in1.handled = none := hh
  have W := walksShift (n := xs.length) (Walks.toS (Walks.tuple (prog := prog) (w := w) hA s.heap.objs.size t hlt (x :: xs).toArray))
  have hI : s.heap.objs.size < h₁.objs.size := by obtain ⟨o, ho, _⟩ := hit₁; exact Heap.lt_size ho
  have ht2 : t < h₁.objs.size := ht₁.lt
  refine wpAny_bind (wpAny_holding (wpAny_collect_iter (T := "tuple_iterator") (.inr (.inr (.inr rfl))) W (fun i s st => ?_) ?_ ?_ (by simp) (fun s' acc hm hacc => ?_) hz))
  · obtain ⟨⟨o, ho, hc, _⟩, _⟩ := st
    exact ⟨o, ho, hc⟩
  · exact ⟨hit₁, ht₁⟩
  · intro b hb
    simp at hb
    rcases hb with rfl | rfl
    · exact hI
    · exact ht2
  · have ea : acc.toList = xs := by
      refine List.ext_getElem? fun j => ?_
      cases hj : acc.toList[j]? with
      | none =>
        have h1 : acc.toList.length ≤ j := List.getElem?_eq_none_iff.mp hj
        have h2 := hacc.1
        rw [← Array.length_toList] at h2
        exact (List.getElem?_eq_none_iff.mpr (by omega)).symm
      | some v =>
        have h1 := hacc.2 j v (by rw [← Array.getElem?_toList]; exact hj)
        have h2 : (x :: xs)[j + 1]? = some v := by simpa using h1
        rw [← h2]
        rfl
    rw [ea]

    rw [if_neg (by omega)]
    have e2 : 2 - 1 - 1 = 0 := rfl
    have e3 : xs.take (xs.length - (2 - 1 - 1)) = xs := by rw [e2, Nat.sub_zero]; exact List.take_length
    have e4 : xs.drop (xs.length - (2 - 1 - 1)) = [] := by rw [e2, Nat.sub_zero]; exact List.drop_length
    rw [e3, e4]
    have hg : s'.gens = s.gens := hm.gens
    refine wpAny_bind (wpAny_newList (wpAny_pure ?_) (by first | size_fits | exact hz))
    have hk : ∀ b o, s.heap.get? b = some o → s'.heap.get? b = some o := fun b o e => by
      have hb : b ≠ s.heap.objs.size := Nat.ne_of_lt (Heap.lt_size e)
      exact hm.heap b o (by simpa using hb) (hs₁.extBut b o hb (Heap.get?_push_of_some _ e))
    have q := hQ s'.heap s'.toks hk
    have es : ({ s with heap := s'.heap.push { cls := .type "list", data := .seq xs.toArray }, toks := s'.toks } : Shared) = { s' with heap := s'.heap.push { cls := .type "list", data := .seq xs.toArray } } := by
      have h1 := hm.drawn
      have h2 := hm.os
      cases s' with
      | mk hp g d tk os =>
        cases s with
        | mk hp0 g0 d0 tk0 os0 =>
          dsimp only at h1 h2 hg ⊢
          subst h1 h2 hg
          rfl
    rw [es] at q
    exact q
end
section
variable {X : Cx} {pos : Pos}
/-- a, *r = a tuple of one at least: r a new list of the others -/
def gStar (K : PySem.W.Frag) (i j : Nat) : TG := fun v σ H Q => ∃ a x xs, v = .ref a ∧ SqT K H a (x :: xs) ∧ ∀ p, H p = none → Q ((σ.set i (some x)).set j (some (.ref p))) (upd H p (.lst xs))
theorem pg_star {i j : Nat} {x y : Str} {px py ps : Pos} {k : Nat} (hc : X.calm = true) (hN : X.N.Nodup) (hi : X.N[i]? = some x) (hj : X.N[j]? = some y) (hx : Loc X.env.scope x) (hy : Loc X.env.scope y)
    (hfx : X.fn x = true ∨ X.env.scope.names.lookup x = some .local := by first | exact .inl rfl | exact .inr rfl | assumption) (hfy : X.fn y = true ∨ X.env.scope.names.lookup y = some .local := by first | exact .inl rfl | exact .inr rfl | assumption) :
    PG X (.Tuple [.Name x px, .Starred (.Name y py) ps] k pos) (gStar X.K i j) := by
  refine ⟨fun pins s σ H v u Q I r hw => ?_⟩
  obtain ⟨a, x0, xs, e1, hq, hw⟩ := hw
  subst e1
  cases r
  obtain ⟨its, rv, ht, hz⟩ := I.tuple hq
  cases rv with
  | cons rx rr =>
    rename_i ux us
    have hzu : us.length ≤ sizeLine := by
      have := rr.length
      rw [List.length_cons] at hz
      omega
    rw [PyProof.Rows.assign_Tuple]
    refine wpAny_bind (wpAny_standAt ?_)
    unfold unpack
    show wpAny _ _ (holding [Value.ref a] (unpackItems (.ref a) 2 (some 1)) >>= fun vs => assignInOrder [assign (.Name x px) X.env, assign (.Name y py) X.env] vs) _ _ s
    refine wpAny_bind (wpAny_holding (unpackItems_star (I.ok.hd hc) ht hzu fun h1 tk hk => ?_))
    have I1 : Inv X pins σ H { s with heap := h1, toks := tk } := I.kept hk
    have I2 : Inv X pins σ (upd H h1.objs.size (.lst xs)) { s with heap := h1.push { cls := .type "list", data := .seq us.toArray }, toks := tk } :=
      I1.laid (t' := tk) (fun b o e => Heap.get?_push_of_some _ e) (Nat.le_refl _) ⟨by rw [rr.length]; exact hzu, us, _, rr, Heap.get?_push_size _ rfl⟩
    have hn : H h1.objs.size = none := I1.hok.fresh (Nat.le_refl _)
    refine assignInOrder_cons (thn ((pg_name (pos := px) hN hi hx hfx).run pins _ σ _ x0 ux _ I2 rx (show gName i x0 σ _ (fun σ' H' => σ' = σ.set i (some x0) ∧ H' = upd H h1.objs.size (.lst xs)) from ⟨rfl, rfl⟩)) fun _ s3 ⟨σ3, H3, I3, q3⟩ => ?_)
    obtain ⟨rfl, rfl⟩ := q3
    refine assignInOrder_cons (thn ((pg_name (pos := py) hN hj hy hfy).run pins _ _ _ (.ref h1.objs.size) _ _ I3 rfl (show gName j (.ref h1.objs.size) _ _ (fun σ' H' => Q σ' H') from hw _ hn)) fun _ s4 q4 => ?_)
    exact assignInOrder_nil q4
end
end Tw

namespace Tw
open PySem PySem.Spec PyProof.Rows L2
/-- the built-in names that the top leaves alone -/
structure Bl (mg : Str → Option Value) : Prop where
  len : mg "len" = none
  abs : mg "abs" = none
  int : mg "int" = none
  list : mg "list" = none
  tuple : mg "tuple" = none
  str : mg "str" = none
  bool : mg "bool" = none
  range : mg "range" = none
  enumerate : mg "enumerate" = none
  zip : mg "zip" = none
  all : mg "all" = none
  isinstance : mg "isinstance" = none
/-! ### data -/
def tyN : PyData → String
  | .none => "NoneType" | .bool _ => "bool" | .int _ => "int" | .str _ => "str" | .list _ => "list" | .tuple _ => "tuple" | .dict _ => "dict"
/-- data of at most so many storeys, without dicts, no part longer than 100000 -/
def okD : Nat → PyData → Prop
  | _, .none => True | _, .bool _ => True | _, .int _ => True | _, .str _ => True
  | 0, .list _ => False | 0, .tuple _ => False | _, .dict _ => False
  | n + 1, .list ds => ds.length ≤ 100000 ∧ ∀ d ∈ ds, okD n d
  | n + 1, .tuple ds => ds.length ≤ 100000 ∧ ∀ d ∈ ds, okD n d
theorem same_sqt {K : PySem.W.Frag} {H H' : Hp} {a : Addr} {xs : List V} (e : Same H H') (h : SqT K H a xs) : SqT K H' a xs := by
  rcases h with (h | ⟨o, h⟩) | h
  · exact .inl (.inl (e _ _ h))
  · exact .inl (.inr ⟨o, e _ _ h⟩)
  · exact .inr h
theorem same_new {H : Hp} {p : Addr} {o : HO} (h : H p = none) : Same H (upd H p o) := fun b x e => by
  rw [upd_ne (ne_of_none e h)]
  exact e
/-- an object that H does not know may change -/
theorem same_mut {H H' : Hp} {p : Addr} {o : HO} (e : Same H H') (h : H p = none) : Same H (upd H' p o) := fun a u ha => by
  rw [upd_ne (ne_of_none ha h)]
  exact e a u ha
mutual
theorem dp_mono {K : PySem.W.Frag} {H H' : Hp} (e : Same H H') : ∀ {v : V} {d : PyData}, Dp K H v d → Dp K H' v d
  | _, _, .non => .non
  | _, _, .bl b => .bl b
  | _, _, .int i => .int i
  | _, _, .str x => .str x
  | _, _, .lst h a => .lst (e.seq h) (dpa_mono e a)
  | _, _, .tup h a => .tup (same_sqt e h) (dpa_mono e a)
theorem dpa_mono {K : PySem.W.Frag} {H H' : Hp} (e : Same H H') : ∀ {vs : List V} {ds : List PyData}, DpAll K H vs ds → DpAll K H' vs ds
  | _, _, .nil => .nil
  | _, _, .cons h a => .cons (dp_mono e h) (dpa_mono e a)
end
theorem dpa_len {K : PySem.W.Frag} {H : Hp} : ∀ {vs : List V} {ds : List PyData}, DpAll K H vs ds → vs.length = ds.length
  | _, _, .nil => rfl
  | _, _, .cons _ a => congrArg Nat.succ (dpa_len a)
theorem dpa_get {K : PySem.W.Frag} {H : Hp} : ∀ {vs : List V} {ds : List PyData} {i : Nat} {v : V}, DpAll K H vs ds → vs[i]? = some v → ∃ d, ds[i]? = some d ∧ Dp K H v d
  | _, _, _, _, .nil, e => by simp at e
  | _, _, 0, _, .cons h _, e => by
    simp at e
    subst e
    exact ⟨_, rfl, h⟩
  | _, _, i + 1, v, .cons _ a, e => by
    obtain ⟨d, h1, h2⟩ := dpa_get (i := i) (v := v) a (by simpa using e)
    exact ⟨d, by simpa using h1, h2⟩
theorem sqL_ty {K : PySem.W.Frag} {H : Hp} {a : Addr} {xs : List V} (h : SqL K H a xs) : TyX K H (.ref a) (.type "list") := by
  rcases h with (h | ⟨o, h⟩) | ⟨o, its, n, h, hc, _⟩
  · exact .base (.lst h)
  · exact .base (.frz h)
  · exact .kList h hc
theorem sqT_ty {K : PySem.W.Frag} {H : Hp} {a : Addr} {xs : List V} (h : SqT K H a xs) : TyX K H (.ref a) (.type "tuple") := by
  rcases h with (h | ⟨o, h⟩) | ⟨o, its, n, h, hc, _⟩
  · exact .base (.tup h)
  · exact .fTuple h
  · exact .kTuple h hc
theorem any2 {K : PySem.W.Frag} {t a b : String} {x y : Bool} (h1 : kitB t a = some x) (h2 : kitB t b = some y) : PySem.W.kitAny K (.type t) [.type a, .type b] = some (x || y) := by
  refine kitAny_cons (kit_ty h1) (fun e => ?_) (fun e => by rw [e]; rfl)
  subst e
  refine kitAny_cons (kit_ty h2) (fun e => ?_) (fun e => by rw [e]; rfl)
  subst e
  exact kitAny_nil
/-! ### a comprehension over zip -/
theorem lc_zipL {K : PySem.W.Frag} {a b : Addr} {xs ys : List V} {g : TG} {tt : TT} {te : TE} {vs : List Nat} {σ : L2.St} {H1 : Hp} {D : Addr} {Qd : Hp → Prop} (hl : xs.length = ys.length) (Pv : Nat → Hp → Prop) (h0 : Pv 0 (upd H1 D (.lst []))) (hq : ∀ i H, Pv i H → SqL K H a xs ∧ SqL K H b ys)
    (hs : ∀ (i : Nat) (x y : V) (T : Addr) (H : Hp), xs[i]? = some x → ys[i]? = some y → Pv i H → H T = none → g (.ref T) (wipe σ vs) (upd H T (.tup [x, y])) fun σ2 H2 => wipe σ2 vs = wipe σ vs ∧ tt σ2 H2 fun b H3 =>
      if b = true then te σ2 H3 fun y H4 => ∃ acc, H4 D = some (.lst acc) ∧ acc.length < sizeLine ∧ Pv (i + 1) (upd H4 D (.lst (acc ++ [y]))) else Pv (i + 1) H3) (hd : ∀ H, Pv xs.length H → Qd H) :
    ∃ W : Nat → Nat → Hp → Prop, (∃ m, W 0 m (upd H1 D (.lst []))) ∧ ∀ i m H, W i m H →
      ((Itz K a b).stop i H ∧ Qd H) ∨ ((Itz K a b).go i H ∧ ∃ Nx : Hp → Prop, (∀ H', Nx H' → ∃ m', m' < m ∧ W (i + 1) m' H') ∧ ∀ x H', (Itz K a b).yld i H x H' → g x (wipe σ vs) H' fun σ2 H2 => wipe σ2 vs = wipe σ vs ∧ tt σ2 H2 fun b H3 =>
        if b = true then te σ2 H3 fun y H4 => ∃ acc, H4 D = some (.lst acc) ∧ acc.length < sizeLine ∧ Nx (upd H4 D (.lst (acc ++ [y]))) else Nx H3) := by
  refine ⟨fun i m H => m = xs.length - i ∧ i ≤ xs.length ∧ Pv i H, ⟨xs.length, rfl, Nat.zero_le _, h0⟩, ?_⟩
  rintro i m H ⟨rfl, hi, p⟩
  obtain ⟨qx, qy⟩ := hq i H p
  by_cases hlt : i < xs.length
  · have hx : xs[i]? = some xs[i] := List.getElem?_eq_getElem hlt
    have hlt2 : i < ys.length := by omega
    have hy : ys[i]? = some ys[i] := List.getElem?_eq_getElem hlt2
    refine .inr ⟨⟨xs, ys, _, _, qx, qy, hx, hy⟩, Pv (i + 1), fun H' p' => ⟨xs.length - (i + 1), by omega, rfl, hlt, p'⟩, fun v H' y => ?_⟩
    obtain ⟨T, x', y', rfl, hT, rfl, f1, f2⟩ := y
    exact hs i x' y' T H (f1 xs qx) (f2 ys qy) p hT
  · have e : i = xs.length := by omega
    subst e
    exact .inl ⟨⟨xs, ys, qx, qy, Or.inl (Nat.le_refl _)⟩, hd H p⟩
theorem lc_zipT {K : PySem.W.Frag} {a b : Addr} {xs ys : List V} {g : TG} {tt : TT} {te : TE} {vs : List Nat} {σ : L2.St} {H1 : Hp} {D : Addr} {Qd : Hp → Prop} (hl : xs.length = ys.length) (Pv : Nat → Hp → Prop) (h0 : Pv 0 (upd H1 D (.lst []))) (hq : ∀ i H, Pv i H → SqT K H a xs ∧ SqT K H b ys)
    (hs : ∀ (i : Nat) (x y : V) (T : Addr) (H : Hp), xs[i]? = some x → ys[i]? = some y → Pv i H → H T = none → g (.ref T) (wipe σ vs) (upd H T (.tup [x, y])) fun σ2 H2 => wipe σ2 vs = wipe σ vs ∧ tt σ2 H2 fun b H3 =>
      if b = true then te σ2 H3 fun y H4 => ∃ acc, H4 D = some (.lst acc) ∧ acc.length < sizeLine ∧ Pv (i + 1) (upd H4 D (.lst (acc ++ [y]))) else Pv (i + 1) H3) (hd : ∀ H, Pv xs.length H → Qd H) :
    ∃ W : Nat → Nat → Hp → Prop, (∃ m, W 0 m (upd H1 D (.lst []))) ∧ ∀ i m H, W i m H →
      ((RZ.ItzT K a b).stop i H ∧ Qd H) ∨ ((RZ.ItzT K a b).go i H ∧ ∃ Nx : Hp → Prop, (∀ H', Nx H' → ∃ m', m' < m ∧ W (i + 1) m' H') ∧ ∀ x H', (RZ.ItzT K a b).yld i H x H' → g x (wipe σ vs) H' fun σ2 H2 => wipe σ2 vs = wipe σ vs ∧ tt σ2 H2 fun b H3 =>
        if b = true then te σ2 H3 fun y H4 => ∃ acc, H4 D = some (.lst acc) ∧ acc.length < sizeLine ∧ Nx (upd H4 D (.lst (acc ++ [y]))) else Nx H3) := by
  refine ⟨fun i m H => m = xs.length - i ∧ i ≤ xs.length ∧ Pv i H, ⟨xs.length, rfl, Nat.zero_le _, h0⟩, ?_⟩
  rintro i m H ⟨rfl, hi, p⟩
  obtain ⟨qx, qy⟩ := hq i H p
  by_cases hlt : i < xs.length
  · have hx : xs[i]? = some xs[i] := List.getElem?_eq_getElem hlt
    have hlt2 : i < ys.length := by omega
    have hy : ys[i]? = some ys[i] := List.getElem?_eq_getElem hlt2
    refine .inr ⟨⟨xs, ys, _, _, qx, qy, hx, hy⟩, Pv (i + 1), fun H' p' => ⟨xs.length - (i + 1), by omega, rfl, hlt, p'⟩, fun v H' y => ?_⟩
    obtain ⟨T, x', y', rfl, hT, rfl, f1, f2⟩ := y
    exact hs i x' y' T H (f1 xs qx) (f2 ys qy) p hT
  · have e : i = xs.length := by omega
    subst e
    exact .inl ⟨⟨xs, ys, qx, qy, Or.inl (Nat.le_refl _)⟩, hd H p⟩
/-- two things that are the same data, of at most n storeys: True -/
def spSame (K : PySem.W.Frag) (n : Nat) : Sp := fun vs H Q _ => ∃ (x y : V) (d : PyData), vs = [x, y] ∧ Dp K H x d ∧ Dp K H y d ∧ okD n d ∧ ∀ H', Same H H' → Q (.bl true) H'
end Tw

/-! a tuple times a number, from 0 on -/
namespace Tw
open PySem PySem.Spec PyProof.Rows L2
theorem tuple_mul1 (l : Addr) (items : Array Value) (n : Nat) (dd : Option Addr) (sl : Array (Option Value)) (x : Int) (u : Tok) (c0 : (decide (x < -(2 ^ 63)) || decide (x ≥ 2 ^ 63)) = false) (c1 : (items.isEmpty || x == 1) = true) :
    Meets (Builtin.«tuple.__mul__» ⟨[.ref l, .int x u], []⟩) (fun _ R s => s.heap.get? l = some { cls := .type "tuple", dict := dd, data := .seq items n, slots := sl } ∧ R (.ok (.ret (Value.ref l))) s) :=
  .of_wp fun prog w A R s h => by
    obtain ⟨hp, g, d, tk, os⟩ := s
    obtain ⟨hl, h⟩ := h
    have f1 := AutoSeq1.idx_int
    wp_walk using wpAny_loadPart' hl
    repeat (first
      | (refine wpAny_ite_false (decide_eq_false (by rw [c0]; exact Bool.false_ne_true)) ?_; wp_walk using wpAny_loadPart' hl)
      | (refine wpAny_ite_true (decide_eq_true c1) ?_; wp_walk using wpAny_loadPart' hl))
    exact ⟨_, rfl, h⟩
/-- t * 1: t itself -/
def rRep1 (K : PySem.W.Frag) : R2 := fun x y H Q => ∃ l xs, x = .ref l ∧ y = .int 1 ∧ SqT K H l xs ∧ Q (.ref l) H
theorem op_rep1 {X : Cx} : OpR X (binaryOp .Mult) (rRep1 X.K) := by
  intro pins s σ H x y v u Q I rx ry h
  obtain ⟨l, xs, rfl, rfl, hT, q⟩ := h
  cases rx
  obtain ⟨t, rfl⟩ := ry
  obtain ⟨its, r, ⟨⟨cls, dd, data, sl⟩, ho, hc, n, hd⟩, hs⟩ := I.tuple hT
  simp only at hc hd
  subst hc hd
  refine wpAny_binaryOp_repeat_ref (T := "tuple") (U := "int") (by decide) ⟨_, ho, rfl⟩ (fun s' => typeIs_int s' 1 t) noFill_tuple_mul F.fills_int_mul F.slot_int_rmul repeat_tuple F.slot_int_index.lookup
    (call_meets F.slot_int_rmul (typeIs_int s 1 t) F.entry_int_rmul (F.args_int_rmul_2 _ _) (int_rmul_tuple 1 t l its.toArray n dd sl)
      ⟨ho, rfl, ⟨_, ho, rfl⟩, call_meets F.slot_tuple_mul ⟨_, ho, rfl⟩ F.entry_tuple_mul (F.args_tuple_mul_2 _ _) (tuple_mul1 l its.toArray n dd sl 1 t (by decide) (by rw [Bool.or_comm]; rfl)) ⟨ho, ?_⟩⟩)
  exact ⟨.ref l, H, I, rfl, q⟩
section
variable {X : Cx}
/-- t + u, t * k, t[a:b], tuple(x): some tuple of that, all else as it was -/
def rCatU (K : PySem.W.Frag) : R2 := fun x y H Q => ∃ a b xs ys, x = .ref a ∧ y = .ref b ∧ SqT K H a xs ∧ SqT K H b ys ∧ xs.length + ys.length ≤ 100000 ∧ ∀ p H', Same H H' → SqT K H' p (xs ++ ys) → Q (.ref p) H'
theorem op_catU : OpR X (binaryOp .Add) (rCatU X.K) := fun pins s σ H x y v u Q I rx ry h => by
  obtain ⟨a, b, xs, ys, e1, e2, ha, hb, hz, q⟩ := h
  refine op_catA pins s σ H x y v u Q I rx ry ⟨a, b, xs, ys, e1, e2, ha, hb, Nat.le_trans hz (by decide), fun e => ?_, fun _ e => ?_, fun _ _ p np => ?_⟩
  · subst e
    exact q b H (Same.refl H) hb
  · subst e
    exact q a H (Same.refl H) (by rw [List.append_nil]; exact ha)
  · exact q p _ (same_new np) (SqT.of upd_same)
def rRepU (K : PySem.W.Frag) : R2 := fun x y H Q => ∃ (l : Addr) (k : Nat) (xs : List V), x = .ref l ∧ y = .int (k : Int) ∧ SqT K H l xs ∧ xs ≠ [] ∧ 1 ≤ k ∧ k ≤ 1000 ∧ xs.length ≤ 1000 ∧ ∀ p H', Same H H' → SqT K H' p (List.replicate k xs).flatten → Q (.ref p) H'
theorem op_repU : OpR X (binaryOp .Mult) (rRepU X.K) := fun pins s σ H x y v u Q I rx ry h => by
  obtain ⟨l, k, xs, e1, e2, hl, hne, hk1, hk2, hz, q⟩ := h
  by_cases h1 : k = 1
  · subst h1
    refine op_rep1 pins s σ H x y v u Q I rx ry ⟨l, xs, e1, e2, hl, q l H (Same.refl H) ?_⟩
    show SqT X.K H l (xs ++ [])
    rw [List.append_nil]
    exact hl
  · refine op_repT pins s σ H x y v u Q I rx ry ⟨l, (k : Int), xs, e1, e2, hl, hne, by omega, by omega, hz, fun p np => q p _ (same_new np) (SqT.of ?_)⟩
    rw [upd_same]
    rfl
def rSlU (K : PySem.W.Frag) : V → Option Int → Option Int → Hp → VK → Prop := fun x lo hi H Q => ∃ a xs, x = .ref a ∧ SqT K H a xs ∧ ∀ p H', Same H H' → SqT K H' p (cutV xs lo hi) → Q (.ref p) H'
theorem cut_whole {xs : List V} {lo hi : Option Int} (h : HT.sIx xs.length 0 lo = 0 ∧ HT.sIx xs.length xs.length hi = xs.length) : cutV xs lo hi = xs := by
  unfold cutV
  rw [h.1, h.2, List.drop_zero, Nat.sub_zero, List.take_length]
theorem sl_tupU : SlR X (rSlU X.K) := fun pins s σ H x v vl vu lo hi sl Q I rx hs pl pu h => by
  obtain ⟨a, xs, e1, ha, q⟩ := h
  refine sl_tupA pins s σ H x v vl vu lo hi sl Q I rx hs pl pu ⟨a, xs, e1, ha, fun hw => ?_, fun _ p np => q p _ (same_new np) (SqT.of upd_same)⟩
  exact q a H (Same.refl H) (by rw [cut_whole hw]; exact ha)
def rTupU (K : PySem.W.Frag) : List V → Hp → VK → Prop := fun xs H Q => ∃ p ys, xs = [.ref p] ∧ (SqL K H p ys ∨ SqT K H p ys) ∧ ∀ l H', Same H H' → SqT K H' l ys → Q (.ref l) H'
theorem call_tupU : CallR X (.type "tuple") (rTupU X.K) := fun pins s σ H xs us Q I r h => by
  obtain ⟨p, ys, e1, h1, q⟩ := h
  refine call_tuple_of pins s σ H xs us Q I r ⟨p, ys, e1, ?_⟩
  rcases h1 with h1 | h1
  · exact .inl ⟨h1, fun l nl => q l _ (same_new nl) (SqT.of upd_same)⟩
  · exact .inr ⟨h1, q p H (Same.refl H) h1⟩
end
/-- what an expression comes to is told by R, then gone on with -/
def tCutE (te : TE) : TE := fun σ H Q => ∃ R : VK, te σ H R ∧ ∀ v H', R v H' → Q v H'
theorem pe_cut {X : Cx} {e : Expr} {te : TE} (he : PE X e te) : PE X e (tCutE te) := by
  refine ⟨fun pins s σ H Q I h => ?_⟩
  obtain ⟨R, h1, h2⟩ := h
  exact thn (he.run pins s σ H R I h1) fun v s1 ⟨x, H1, I1, r1, q1⟩ => ⟨x, H1, I1, r1, h2 x H1 q1⟩
/-- displays, without naming the heap -/
def tTupU (ta : TA) : TE := fun σ H Q => ta σ H fun vs H1 => vs.length ≤ 100000 ∧ ∀ p H', H1 p = none → Same H1 H' → H' p = some (.tup vs) → Q (.ref p) H'
def tLstU (ta : TA) : TE := fun σ H Q => ta σ H fun vs H1 => vs.length ≤ 100000 ∧ ∀ p H', H1 p = none → Same H1 H' → H' p = some (.lst vs) → Q (.ref p) H'
section
variable {X : Cx} {es : List Expr} {ta : TA} {pos : Pos} {k : Nat}
theorem pe_tupU (ha : PA X es ta) : PE X (.Tuple es k pos) (tTupU ta) := by
  refine ⟨fun pins s σ H Q I hq => wpAny_Tuple_spliced ?_⟩
  refine thn (ha.run pos pins s σ H _ I hq) fun us s1 ⟨vs, H1, I1, r, z, q⟩ => ?_
  have z' : vs.length ≤ sizeLine := Nat.le_trans z (by decide)
  have fr := I1.hok.fresh (Nat.le_refl s1.heap.objs.size)
  have new : Inv X pins σ (upd H1 s1.heap.objs.size (.tup vs)) _ := I1.laid (h' := s1.heap.push { cls := .type "tuple", data := .seq us.toArray }) (t' := s1.toks)
    (fun b u e => Heap.get?_push_of_some _ e) (Nat.le_refl _) ⟨z', us, r, ⟨_, Heap.get?_push_size _ rfl, rfl, _, rfl⟩⟩
  exact ⟨by rw [← r.length]; exact z', .ref s1.heap.objs.size, _, new, rfl, q _ _ fr (same_new fr) upd_same⟩
theorem pe_lstU (ha : PA X es ta) : PE X (.List es pos) (tLstU ta) := by
  refine ⟨fun pins s σ H Q I hq => wpAny_List_spliced ?_⟩
  refine thn (ha.run pos pins s σ H _ I hq) fun us s1 ⟨vs, H1, I1, r, z, q⟩ => ?_
  have z' : vs.length ≤ sizeLine := Nat.le_trans z (by decide)
  have fr := I1.hok.fresh (Nat.le_refl s1.heap.objs.size)
  have new : Inv X pins σ (upd H1 s1.heap.objs.size (.lst vs)) _ := I1.laid (h' := s1.heap.push { cls := .type "list", data := .seq us.toArray }) (t' := s1.toks)
    (fun b u e => Heap.get?_push_of_some _ e) (Nat.le_refl _) ⟨z', us, _, r, Heap.get?_push_size _ rfl⟩
  exact ⟨by rw [← r.length]; exact z', .ref s1.heap.objs.size, _, new, rfl, q _ _ fr (same_new fr) upd_same⟩
end
/-! lists: +, list(x), slices -/
section
variable {X : Cx}
def rCatL (K : PySem.W.Frag) : R2 := fun x y H Q => ∃ l b xs zs, x = .ref l ∧ y = .ref b ∧ H l = some (.lst xs) ∧ H b = some (.lst zs) ∧ xs.length + zs.length ≤ 100000 ∧ ∀ p H', H p = none → Same H H' → H' p = some (.lst (xs ++ zs)) → Q (.ref p) H'
theorem op_catL : OpR X (binaryOp .Add) (rCatL X.K) := fun pins s σ H x y v u Q I rx ry h => by
  obtain ⟨l, b, xs, zs, e1, e2, hl, hb, hz, q⟩ := h
  exact op_cat pins s σ H x y v u Q I rx ry ⟨l, b, xs, zs, e1, e2, hl, hb, Nat.le_trans hz (by decide), fun p np => q p _ np (same_new np) upd_same⟩
def rLstU (K : PySem.W.Frag) : List V → Hp → VK → Prop := fun xs H Q => ∃ p ys, xs = [.ref p] ∧ (SqL K H p ys ∨ SqT K H p ys) ∧ ∀ l H', H l = none → Same H H' → H' l = some (.lst ys) → Q (.ref l) H'
theorem call_lstU : CallR X (.type "list") (rLstU X.K) := fun pins s σ H xs us Q I r h => by
  obtain ⟨p, ys, e1, h1, q⟩ := h
  exact call_list_of pins s σ H xs us Q I r ⟨p, ys, e1, h1, fun l nl => q l _ nl (same_new nl) upd_same⟩
def rSlLU (K : PySem.W.Frag) : V → Option Int → Option Int → Hp → VK → Prop := fun x lo hi H Q => ∃ a xs, x = .ref a ∧ SqL K H a xs ∧ ∀ p H', H p = none → Same H H' → H' p = some (.lst (cutV xs lo hi)) → Q (.ref p) H'
theorem sl_lstU : SlR X (rSlLU X.K) := fun pins s σ H x v vl vu lo hi sl Q I rx hs pl pu h => by
  obtain ⟨a, xs, e1, ha, q⟩ := h
  exact sl_list pins s σ H x v vl vu lo hi sl Q I rx hs pl pu ⟨a, xs, e1, ha, fun p np => q p _ np (same_new np) upd_same⟩
end
def rRepA (K : PySem.W.Frag) : R2 := fun x y H Q => rRepT K x y H Q ∨ rRep1 K x y H Q
theorem op_repA {X : Cx} : OpR X (binaryOp .Mult) (rRepA X.K) := OpR.or op_repT op_rep1
end Tw

/-! drawn names: the plain law; a text times a number -/
namespace Tw
open PySem PySem.Spec PyProof.Rows L2
def sgn (c : Nat) : Str := ⟨#[c]⟩
def mkS (cs : List Nat) : Str := ⟨cs.toArray⟩
theorem mkS_len (cs : List Nat) : (mkS cs).length = cs.length := by
  show cs.toArray.size = cs.length
  simp
theorem mkS_app (a b : List Nat) : mkS a ++ mkS b = mkS (a ++ b) := by
  show Str.mk (a.toArray ++ b.toArray) = Str.mk (a ++ b).toArray
  simp
theorem mkS_inj {a b : List Nat} (h : mkS a = mkS b) : a = b := by
  have := congrArg (fun z => z.cps.toList) h
  simpa [mkS] using this
theorem joinL_nil : ∀ ps : List (List Nat), TL.joinL [] ps = ps.flatten
  | [] => rfl
  | [p] => by simp [TL.joinL]
  | p :: q :: r => by
    show p ++ ([] ++ TL.joinL [] (q :: r)) = _
    rw [joinL_nil (q :: r)]
    simp
theorem join_sgn (cs : List Nat) : Txt.join "" (cs.map sgn) = mkS cs := by
  rw [TL.join_eq]
  refine TL.ext_tl ?_
  rw [TL.tl_join]
  show TL.joinL [] _ = cs
  rw [joinL_nil, List.map_map]
  induction cs with
  | nil => rfl
  | cons c r ih =>
    rw [List.map_cons, List.flatten_cons, ih]
    rfl
theorem cut_take {cs : List Nat} {k : Nat} (h : k ≤ cs.length) : cutS (mkS cs) none (some (k : Int)) = mkS (cs.take k) := by
  unfold cutS
  rw [mkS_len, HT.sIx_none, HT.sIx_nat, Nat.min_eq_left h, List.drop_zero, Nat.sub_zero]
  rfl
theorem cut_drop {cs : List Nat} {k : Nat} (h : k ≤ cs.length) : cutS (mkS cs) (some (k : Int)) none = mkS (cs.drop k) := by
  unfold cutS
  rw [mkS_len, HT.sIx_none, HT.sIx_nat, Nat.min_eq_left h]
  show mkS ((cs.drop k).take (cs.length - k)) = _
  rw [List.take_of_length_le (by rw [List.length_drop]; exact Nat.le_refl _)]
/-- a text, none or one time -/
def rMulS : R2 := fun x y H Q => ∃ (z : Str) (n : Nat), x = .str z ∧ y = .int (n : Int) ∧ n ≤ 1 ∧ Q (.str (if n = 0 then ("" : Str) else z)) H
theorem op_mulS {X : Cx} : OpR X (binaryOp .Mult) rMulS := by
  intro pins s σ H x y v u Q I rx ry h
  obtain ⟨z, n, rfl, rfl, hn, q⟩ := h
  obtain ⟨t, rfl⟩ := rx
  obtain ⟨t2, rfl⟩ := ry
  have hok : MulOk z (n : Int) := by
    refine ⟨?_, fun h1 h2 => ?_, fun h1 h2 => ?_⟩
    · rw [decide_eq_false (by omega), decide_eq_false (by omega)]
      rfl
    · have : n = 1 := by omega
      subst this
      rw [show (((1 : Nat) : Int) == 1) = true from rfl, Bool.true_or] at h2
      cases h2
    · have : n = 1 := by omega
      subst this
      rw [show (((1 : Nat) : Int) == 1) = true from rfl, Bool.true_or] at h2
      cases h2
  refine SB.mul hok fun t' k => ⟨.str (if n = 0 then ("" : Str) else z), H, I.tok k, ⟨t', ?_⟩, q⟩
  have e : Txt.mul z (n : Int) = (if n = 0 then ("" : Str) else z) := by
    unfold Txt.mul
    by_cases h0 : n = 0
    · subst h0
      rfl
    · have : n = 1 := by omega
      subst this
      rfl
  rw [e]
/-! ### the names -/
def nmOf (hd tl : List Nat) (sh st way k : Nat) : List Nat :=
  hd ++ [97 + (sh + st * (if way = 1 then k / 2 else k)) % 26] ++ (if way = 0 then tl else if way = 1 then (if k % 2 = 0 then [] else tl) else tl.take (k % (tl.length + 1)))
def IsNm (z : Str) : Prop := 1 ≤ z.length ∧ z.length ≤ 8 ∧ ∀ c ∈ z.cps.toList, 97 ≤ c ∧ c ≤ 122
theorem nm_is {hd tl : List Nat} {sh st way k : Nat} (hl : hd.length + tl.length ≤ 7) (h1 : ∀ c ∈ hd, 97 ≤ c ∧ c ≤ 122) (h2 : ∀ c ∈ tl, 97 ≤ c ∧ c ≤ 122) : IsNm (mkS (nmOf hd tl sh st way k)) := by
  have ht : ∀ c ∈ (if way = 0 then tl else if way = 1 then (if k % 2 = 0 then [] else tl) else tl.take (k % (tl.length + 1))), 97 ≤ c ∧ c ≤ 122 := fun c hc => by
    split at hc
    · exact h2 c hc
    · split at hc
      · split at hc
        · cases hc
        · exact h2 c hc
      · exact h2 c (List.mem_of_mem_take hc)
  have hlen : (if way = 0 then tl else if way = 1 then (if k % 2 = 0 then [] else tl) else tl.take (k % (tl.length + 1))).length ≤ tl.length := by
    split
    · exact Nat.le_refl _
    · split
      · split
        · exact Nat.zero_le _
        · exact Nat.le_refl _
      · rw [List.length_take]
        exact Nat.min_le_right _ _
  refine ⟨?_, ?_, fun c hc => ?_⟩
  · rw [mkS_len]
    unfold nmOf
    simp only [List.length_append, List.length_singleton]
    omega
  · rw [mkS_len]
    unfold nmOf
    simp only [List.length_append, List.length_singleton]
    omega
  · have hc : c ∈ nmOf hd tl sh st way k := hc
    unfold nmOf at hc
    rcases List.mem_append.mp hc with hc | hc
    · rcases List.mem_append.mp hc with hc | hc
      · exact h1 c hc
      · rw [List.mem_singleton.mp hc]
        omega
    · exact ht c hc
theorem nm_ne {hd tl : List Nat} {sh st way j k : Nat} (hst : st = 1 ∨ st = 7 ∨ st = 25) (hw : way ≠ 0 → tl ≠ []) (hj : j < 26) (hk : k < 26) (e : nmOf hd tl sh st way j = nmOf hd tl sh st way k) : j = k := by
  unfold nmOf at e
  rw [List.append_assoc, List.append_assoc] at e
  have e1 := List.append_cancel_left e
  rw [List.singleton_append, List.singleton_append] at e1
  injection e1 with e2 e3
  by_cases w1 : way = 1
  · rw [if_pos w1, if_pos w1] at e2
    have e4 : j / 2 = k / 2 := by rcases hst with rfl | rfl | rfl <;> omega
    have w0 : ¬ way = 0 := by omega
    rw [if_neg w0, if_pos w1, if_neg w0, if_pos w1] at e3
    have ht : tl ≠ [] := hw (by omega)
    by_cases hj0 : j % 2 = 0
    · rw [if_pos hj0] at e3
      by_cases hk0 : k % 2 = 0
      · omega
      · rw [if_neg hk0] at e3
        exact absurd e3.symm ht
    · rw [if_neg hj0] at e3
      by_cases hk0 : k % 2 = 0
      · rw [if_pos hk0] at e3
        exact absurd e3 ht
      · omega
  · rw [if_neg w1, if_neg w1] at e2
    rcases hst with rfl | rfl | rfl <;> omega
theorem letter_at {i : Int} (h0 : 0 ≤ i) (h1 : i < 26) : atI ("abcdefghijklmnopqrstuvwxyz" : Str).cps.toList i = some (97 + i.toNat) := by
  obtain ⟨j, rfl⟩ := Int.eq_ofNat_of_zero_le h0
  have hj : j < 26 := by omega
  refine atI_nat ?_
  have key : ∀ j : Fin 26, ("abcdefghijklmnopqrstuvwxyz" : Str).cps.toList[j.val]? = some (97 + j.val) := by decide +kernel
  exact key ⟨j, hj⟩
theorem letters_len : ("abcdefghijklmnopqrstuvwxyz" : Str).length ≤ sizeLine := by decide +kernel
end Tw

namespace Tw
open PySem PySem.Spec PyProof.Rows L2
def topS (i : Nat) : Stmt := PySem.Challenge.pw_trayworks_k04_codes_done.main.body.getD i (.Pass ⟨0, 0, 0, 0⟩)
abbrev sDraw : Stmt := topS 11
theorem scDraw : FnScope ["_law_tape_here", "_law_many", "_law_found", "_law_once", "_law_twice", "_law_wide"] ["_law_tape_here", "_law_many"] (defScope sDraw) := ⟨rfl, rfl, rfl, by decide +kernel, rfl, by decide +kernel, by decide +kernel⟩
section
variable {P : Program} {w : World} {K : PySem.W.Frag} {mg : Str → Option Value} {base : Heap}
theorem ok_draw {f : Addr} {fd : FuncData} {k : Nat} (F : Fun K "_law_draw" "_law_draw" sDraw f fd) : FnOk P w K mg base CX0 (k + 1) f fd ["_law_tape_here", "_law_many"] spDraw := by
  refine F.ok scDraw (fun vs H Q E h => ?_) (fun cdv A outer s H vs Q E hr h => ?_)
  · obtain ⟨t, m, n, rfl, _⟩ := h
    rfl
  · obtain ⟨t, m, n, rfl, hm0, hm1, ⟨a, b, c, hT, hb0, hb1, hc0, hc1⟩, q⟩ := h
    refine ⟨_, (pss_cons (ps_if (pt_cmpR op_gt (pe_ix ix_list (pv 0) pe_int (fun _ _ => rfl)) pe_int (nomark _))
    (pss_cons (ps_set (i := 2) scDraw.nd rfl (Or.inl rfl) (pe_op op_mod (pe_ix ix_list (pv 0) pe_int (fun _ _ => rfl)) (pv 1)))
    (pss_cons (ps_asg (pe_op op_fdiv (pe_ix ix_list (pv 0) pe_int (fun _ _ => rfl)) (pv 1)) (pg_sub (pv 0) pe_int set_list))
    (pss_one (ps_ret (pv 2)))))
    pss_nil)
  (pss_cons (ps_asg (pe_op op_add (pe_ix ix_list (pv 0) pe_int (fun _ _ => rfl)) pe_int) (pg_sub (pv 0) pe_int set_list))
  (pss_cons (ps_set (i := 3) scDraw.nd rfl (Or.inl rfl) (pe_op op_modA (pe_op op_pow (pe_op op_add (pe_ix ix_list (pv 0) pe_int (fun _ _ => rfl)) (pe_op op_mul pe_int (pe_ix ix_list (pv 0) pe_int (fun _ _ => rfl)))) pe_int) pe_int))
  (pss_cons (ps_set (i := 4) scDraw.nd rfl (Or.inl rfl) (pe_op op_modA (pe_op op_mul (pe_op op_add (pv 3) (pe_ix ix_list (pv 0) pe_int (fun _ _ => rfl))) (pe_op op_add (pe_op op_add (pe_op op_mod (pv 3) pe_int) pe_int) (pe_ix ix_list (pv 0) pe_int (fun _ _ => rfl)))) pe_int))
  (pss_cons (ps_set (i := 5) scDraw.nd rfl (Or.inl rfl) (pe_op op_modA (pe_op op_add (pe_op op_add (pe_op op_fdivW (pe_ix ix_list (pv 0) pe_int (fun _ _ => rfl)) pe_int) (pe_op op_mul (pv 4) pe_int)) (pe_ix ix_list (pv 0) pe_int (fun _ _ => rfl))) pe_int))
  (pss_one (ps_ret (pe_op op_mod (pe_op op_fdiv (pe_op op_mod (pe_op op_add (pe_op op_add (pe_op op_mul (pv 4) pe_int) (pe_op op_mul (pv 5) pe_int)) (pv 3)) pe_int) pe_int) (pv 1))))))))), ?_⟩
    have hS : SqL K H t [.int a, .int b, .int c] := .inl (.inl hT)
    refine ⟨.ref t, rfl, t, [.int a, .int b, .int c], 0, .int a, rfl, rfl, hS, rfl, a, 0, rfl, rfl, _, rfl, ite2 (fun e => ?_) (fun e => ?_)⟩
    · -- its own digits
      refine ⟨.ref t, rfl, t, _, 0, .int a, rfl, rfl, hS, rfl, .int m, rfl, a, m, rfl, rfl, hm0, ?_⟩
      refine ⟨.ref t, rfl, t, _, 0, .int a, rfl, rfl, hS, rfl, .int m, rfl, a, m, rfl, rfl, ⟨hm0, hm1⟩, ?_⟩
      refine ⟨.ref t, rfl, t, _, 0, 0, rfl, rfl, hT, rfl, ?_⟩
      refine ⟨.int (a % m), rfl, ?_⟩
      exact q _ _ (Int.emod_nonneg _ (by omega)) (Int.emod_lt_of_pos _ hm0) Kp.set ⟨a / m, b, c, upd_same, hb0, hb1, hc0, by omega⟩
    · -- mixed
      refine ⟨.ref t, rfl, t, _, 2, .int c, rfl, rfl, hS, rfl, c, 1, rfl, rfl, ?_⟩
      refine ⟨.ref t, rfl, t, _, 2, 2, rfl, rfl, hT, rfl, ?_⟩
      have hT2 : (upd H t (.lst [.int a, .int b, .int (c + 1)])) t = some (.lst [.int a, .int b, .int (c + 1)]) := upd_same
      have hS2 : SqL K (upd H t (.lst [.int a, .int b, .int (c + 1)])) t [.int a, .int b, .int (c + 1)] := .inl (.inl hT2)
      refine ⟨.ref t, rfl, t, _, 1, .int b, rfl, rfl, hS2, rfl, .ref t, rfl, t, _, 2, .int (c + 1), rfl, rfl, hS2, rfl, 39373, c + 1, rfl, rfl, .inl ⟨by decide, by decide⟩, b, 39373 * (c + 1), rfl, rfl, _, 5, rfl, rfl, ⟨by decide, by decide, ?_⟩, _, 2147483647, rfl, rfl, by decide, fun o ho0 ho1 _ => ?_⟩
      · show (b + 39373 * (c + 1)).natAbs < 2 ^ 64
        omega
      · refine ⟨.int o, rfl, .ref t, rfl, t, _, 2, .int (c + 1), rfl, rfl, hS2, rfl, o, c + 1, rfl, rfl, .int o, rfl, o, 40009, rfl, rfl, (show (0 : Int) < _ by decide), _, 7, rfl, rfl, .ref t, rfl, t, _, 2, .int (c + 1), rfl, rfl, hS2, rfl, _, c + 1, rfl, rfl, _, _, rfl, rfl, .inl ⟨by omega, by omega⟩, _, 2147483629, rfl, rfl, by decide, fun w2 hw0 hw1 _ => ?_⟩
        refine ⟨.ref t, rfl, t, _, 1, .int b, rfl, rfl, hS2, rfl, b, 2147483647, rfl, rfl, wide_div (b := 32) (by decide) (by decide) (by decide) (by decide), .int w2, rfl, w2, 40009, rfl, rfl, .inl ⟨by omega, by omega⟩, _, _, rfl, rfl, .ref t, rfl, t, _, 2, .int (c + 1), rfl, rfl, hS2, rfl, _, c + 1, rfl, rfl, _, 2305843009213693951, rfl, rfl, by decide, fun w3 hv0 hv1 _ => ?_⟩
        refine ⟨.int w2, rfl, w2, 48271, rfl, rfl, .inl ⟨by omega, by omega⟩, .int w3, rfl, w3, 39373, rfl, rfl, .inl ⟨by omega, by omega⟩, _, _, rfl, rfl, .int o, rfl, _, o, rfl, rfl, _, 2305843009213693921, rfl, rfl, (show (0 : Int) < _ by decide), _, 64, rfl, rfl, ⟨by decide, by decide⟩, .int m, rfl, _, m, rfl, rfl, hm0, ?_⟩
        exact q _ _ (Int.emod_nonneg _ (by omega)) (Int.emod_lt_of_pos _ hm0) Kp.set ⟨a, b, c + 1, upd_same, hb0, hb1, by omega, by omega⟩
end
end Tw

/-! _law_names -/
namespace Tw
open PySem PySem.Spec PyProof.Rows L2
theorem tape_same {H H' : Hp} {t : Addr} {n : Nat} (k : Same H H') (h : Tape H t n) : Tape H' t n := by
  obtain ⟨a, b, c, e, r⟩ := h
  exact ⟨a, b, c, k _ _ e, r⟩
theorem kp_same {t : Addr} {H H' : Hp} (k : Same H H') : Kp t H H' := fun b o _ h => k b o h
theorem tape_ne {H : Hp} {t p : Addr} {n : Nat} (h : Tape H t n) (hp : H p = none) : p ≠ t := fun e => by
  obtain ⟨_, _, _, e', _⟩ := h
  rw [e, e'] at hp
  cases hp
theorem nodup_rmap {α : Type} {f : Nat → α} {m : Nat} (h : ∀ j k, j < m → k < m → f j = f k → j = k) : ((List.range m).map f).Nodup := by
  unfold List.Nodup
  rw [List.pairwise_map]
  exact List.Pairwise.imp_of_mem (fun {a b} ha hb hne e => hne (h a b (List.mem_range.mp ha) (List.mem_range.mp hb) e)) List.nodup_range
abbrev sNames : Stmt := topS 13
theorem scNames : FnScope ["_law_tape_here", "_law_many", "_law_letters", "_law_shift", "_law_stem", "_law_k", "_law_at", "_law_step", "_law_found", "_law_head", "_law_tail", "_law_way", "_law_sign"] ["_law_tape_here", "_law_many"] (defScope sNames) := ⟨rfl, rfl, rfl, by decide +kernel, rfl, by decide +kernel, by decide +kernel⟩
def spNames : Sp := fun vs H Q _ => ∃ (t : Addr) (m n : Nat), vs = [.ref t, .int (m : Int)] ∧ m ≤ 26 ∧ Tape H t (n + 11) ∧
  ∀ p H' (nm : List Str), H p = none → Kp t H H' → Tape H' t n → H' p = some (.lst (nm.map V.str)) → nm.length = m → nm.Nodup → (∀ z ∈ nm, IsNm z) → Q (.ref p) H'
section
variable {P : Program} {w : World} {K : PySem.W.Frag} {mg : Str → Option Value} {base : Heap}
theorem ok_names {f : Addr} {fd : FuncData} {k k1 : Nat} (g : Bl mg) (C_law_draw : Cal P w K mg base "_law_draw" k1 ["_law_tape_here", "_law_many"] spDraw) (hk : k1 ≤ k) (F : Fun K "_law_names" "_law_names" sNames f fd) : FnOk P w K mg base CX0 (k + 1) f fd ["_law_tape_here", "_law_many"] spNames := by
  refine F.ok scNames (fun vs H Q E h => ?_) (fun cdv A outer s H vs Q E hr h => ?_)
  · obtain ⟨t, m, n, rfl, _⟩ := h
    rfl
  · obtain ⟨t, m, n, rfl, hm, hT, q⟩ := h
    refine ⟨_, (pss_cons (ps_asg (pe_tupU (pa_cons pe_str (pa_cons (pe_c C_law_draw hr hk (ha := (pa_cons (pv 0) (pa_cons pe_int pa_nil)))) pa_nil))) (pg_tup rfl (pgs_cons (pg_name (i := 2) scNames.nd rfl (Or.inr rfl)) (pgs_cons (pg_name (i := 3) scNames.nd rfl (Or.inl rfl)) pgs_nil))))
  (pss_cons (ps_set (i := 4) scNames.nd rfl (Or.inl rfl) (pe_join pe_str (pe_lc (own := [("_law_k", 5)]) (g := (gName 5)) (tt := tYes) rfl scNames.nd (pi_range1 (by rfl) g.range (pa_cons (pe_c C_law_draw hr hk (ha := (pa_cons (pv 0) (pa_cons pe_int pa_nil)))) pa_nil)) (blkOk_by (own := [("_law_k", 5)]) (N := ["_law_tape_here", "_law_many", "_law_letters", "_law_shift", "_law_stem", "_law_k", "_law_at", "_law_step", "_law_found", "_law_head", "_law_tail", "_law_way", "_law_sign"]) (sc := defScope sNames) (by decide +kernel)) (fun _ _ _ _ _ => (pg_name (i := 5) scNames.nd rfl (Or.inl rfl))) (fun _ _ _ _ _ => pts_nil) (fun _ _ _ _ _ => (pe_ix ix_str (pv 2) (pe_c C_law_draw hr hk (ha := (pa_cons (pv 0) (pa_cons pe_int pa_nil)))) (fun _ _ => rfl))))))
  (pss_cons (ps_par3 (i := 6) (j := 7) (l := 8) rfl scNames.nd rfl rfl rfl (by decide) (by decide) (by decide) rfl rfl rfl (pa_cons (pe_c C_law_draw hr hk (ha := (pa_cons (pv 0) (pa_cons (pe_op op_add (pe_callB call_len_str (by rfl) g.len PySem.boot_len (pa_cons (pv 4) pa_nil)) pe_int) pa_nil)))) (pa_cons (pe_ix ix_list (pe_lstU (pa_cons pe_int (pa_cons pe_int (pa_cons pe_int pa_nil)))) (pe_c C_law_draw hr hk (ha := (pa_cons (pv 0) (pa_cons pe_int pa_nil)))) (fun _ _ => rfl)) (pa_cons (pe_lstU pa_nil) pa_nil))) rfl)
  (pss_cons (ps_par (i := 9) (j := 10) rfl scNames.nd rfl rfl (by decide) rfl rfl (pa_cons (pe_slice sl_str (pv 4) po_none (po_some (pv 6))) (pa_cons (pe_slice sl_str (pv 4) (po_some (pv 6)) po_none) pa_nil)) rfl)
  (pss_cons (ps_for PassesOwn.never rfl (pi_range1 (by rfl) g.range (pa_cons (pv 1) pa_nil)) (pg_name (i := 5) scNames.nd rfl (Or.inl rfl))
    (pss_cons (ps_set (i := 11) scNames.nd rfl (Or.inl rfl) (pe_cut (pe_op op_mul (pe_op op_mod (pe_op op_add (pe_op op_add (pv 3) (pv 6)) (pe_callB call_len_str (by rfl) g.len PySem.boot_len (pa_cons (pv 4) pa_nil))) pe_int) (pe_callTy call_int1 (by rfl) g.int PyProof.Rows.boot_int (pa_cons (pe_cmpR op_ne (pv 10) pe_str (nomark _)) pa_nil)))))
    (pss_cons (ps_set (i := 12) scNames.nd rfl (Or.inl rfl) (pe_ix ix_str (pv 2) (pe_op op_mod (pe_op op_add (pv 3) (pe_op op_mul (pv 7) (pe_ix ix_list (pe_lstU (pa_cons (pv 5) (pa_cons (pe_op op_fdiv (pv 5) pe_int) (pa_cons (pv 5) pa_nil)))) (pv 11) (fun _ _ => rfl)))) pe_int) (fun _ _ => rfl)))
    (pss_one (ps_expr (pe_bm PySem.F.plainAttrs_list PySem.F.slot_list_append PySem.F.type_list_append mt_append (pv 8) (pa_cons (pe_cut (pe_op op_add_str (pe_op op_add_str (pv 9) (pv 12)) (pe_ix ix_list (pe_lstU (pa_cons (pv 10) (pa_cons (pe_op op_mulS (pv 10) (pe_op op_mod (pv 5) pe_int)) (pa_cons (pe_slice sl_str (pv 10) po_none (po_some (pe_op op_mod (pv 5) (pe_op op_add (pe_callB call_len_str (by rfl) g.len PySem.boot_len (pa_cons (pv 10) pa_nil)) pe_int)))) pa_nil)))) (pv 11) (fun _ _ => rfl)))) pa_nil)))))))
  (pss_one (ps_ret (pv 8)))))))), ?_⟩
    have z2 : 2 ≤ 100000 := by decide
    have z3 : 3 ≤ 100000 := by decide
    -- letters, shift
    refine ⟨_, rfl, t, 26, n + 10, rfl, by decide, by decide, hT, fun sh H1 sh0 sh1 kp1 tp1 => ⟨z2, fun p1 H2 np1 s2 c2 => ⟨p1, _, rfl, SqT.of c2, rfl, _, _, rfl, _, _, rfl, rfl, ?_⟩⟩⟩
    obtain ⟨sh, rfl⟩ := Int.eq_ofNat_of_zero_le sh0
    have tp2 := tape_same s2 tp1
    have k02 : Kp t H H2 := kp1.trans (kp_same s2)
    -- stem
    refine ⟨⟨_, rfl⟩, _, rfl, t, 8, n + 9, rfl, by decide, by decide, tp2, fun m1 H3 m10 m11 kp3 tp3 => ⟨m1, rfl, by omega, by omega, fun D nD => ?_⟩⟩
    obtain ⟨m1, rfl⟩ := Int.eq_ofNat_of_zero_le m10
    have k03 : Kp t H H3 := k02.trans kp3
    have hDt : D ≠ t := tape_ne tp3 nD
    refine lc_range (lo := 0) (n := (m1 : Int).toNat) (fun i H4 => Kp t H3 H4 ∧ Tape H4 t (n + 2 + (7 - i)) ∧ ∃ cs : List Nat, cs.length = i ∧ (∀ c ∈ cs, 97 ≤ c ∧ c ≤ 122) ∧ H4 D = some (.lst (cs.map fun c => V.str (sgn c)))) ⟨Kp.new nD, tape_same (same_new nD) (tp3.mono (by omega)), [], rfl, (fun c hc => nomatch hc), upd_same⟩ ?_ ?_
    · rintro i H4 hi ⟨k4, t4, cs, l1, l2, l3⟩
      have hi7 : i < 7 := by omega
      refine ⟨rfl, ?_⟩
      refine ⟨_, rfl, _, rfl, t, 26, n + 2 + (7 - (i + 1)), rfl, by decide, by decide, t4.mono (by omega), fun c H5 c0 c1 kp5 tp5 => ?_⟩
      obtain ⟨c, rfl⟩ := Int.eq_ofNat_of_zero_le c0
      refine ⟨_, (c : Int), 97 + (c : Int).toNat, rfl, rfl, letters_len, letter_at c0 c1, ?_⟩
      have l5 := kp5 _ _ hDt l3
      refine ⟨_, l5, ?_, fun b o hb h => ?_, ?_, cs ++ [97 + (c : Int).toNat], ?_, ?_, ?_⟩
      · rw [List.length_map, l1]
        exact Nat.lt_trans hi7 (by decide)
      · rw [upd_ne (ne_of_none h nD)]
        exact (k4.trans kp5) b o hb h
      · obtain ⟨x, y, z, e, r⟩ := tp5
        exact ⟨x, y, z, by rw [upd_ne hDt.symm]; exact e, r⟩
      · rw [List.length_append, l1]
        rfl
      · intro x hx
        rcases List.mem_append.mp hx with hx | hx
        · exact l2 x hx
        · rw [List.mem_singleton.mp hx]
          omega
      · rw [upd_same, List.map_append]
        rfl
    · rintro H4 ⟨k4, t4, cs, l1, l2, l3⟩
      have hcl : cs.length ≤ 7 := by omega
      have e3 : H4 D = some (.lst ((cs.map sgn).map V.str)) := by
        rw [l3, List.map_map]
        rfl
      refine ⟨("" : Str), D, cs.map sgn, rfl, rfl, .inl (SqL.of e3), ?_, ?_⟩
      · have e0 : ((cs.map sgn).map (·.length)).sum = cs.length := by
          rw [List.map_map]
          clear l1 l2 l3 e3 hcl
          induction cs with
          | nil => rfl
          | cons c r ih =>
            rw [List.map_cons, List.sum_cons, ih, List.length_cons]
            show 1 + r.length = r.length + 1
            omega
        rw [e0, List.length_map]
        show cs.length + cs.length * 0 ≤ 16777216
        omega
      rw [join_sgn]
      have k04 : Kp t H H4 := k03.trans k4
      have t4' : Tape H4 t (n + 2) := t4.mono (by omega)
      have hsl : (mkS cs).length ≤ sizeLine := by
        rw [mkS_len]
        exact Nat.le_trans hcl (by decide)
      -- at, step, found
      refine ⟨_, rfl, _, rfl, mkS cs, rfl, hsl, _, _, rfl, rfl, t, ((mkS cs).length : Int) + 1, n + 1, rfl, by omega, ?_, t4', fun at' H5 a0 a1 kp5 tp5 => ?_⟩
      · rw [mkS_len]
        omega
      obtain ⟨at', rfl⟩ := Int.eq_ofNat_of_zero_le a0
      have hat : at' ≤ cs.length := by
        rw [mkS_len] at a1
        omega
      refine ⟨z3, fun p6 H6 np6 s6 c6 => ?_⟩
      have tp6 := tape_same s6 tp5
      have h6t : p6 ≠ t := tape_ne tp5 np6
      refine ⟨_, rfl, t, 3, n, rfl, by decide, by decide, tp6, fun sx H7 x0 x1 kp7 tp7 => ?_⟩
      obtain ⟨sx, rfl⟩ := Int.eq_ofNat_of_zero_le x0
      obtain ⟨st, hst, hat3⟩ : ∃ st : Nat, (st = 1 ∨ st = 7 ∨ st = 25) ∧ atI [V.int 1, V.int 7, V.int 25] (sx : Int) = some (.int (st : Int)) := by
        have : sx = 0 ∨ sx = 1 ∨ sx = 2 := by omega
        rcases this with rfl | rfl | rfl
        · exact ⟨1, .inl rfl, rfl⟩
        · exact ⟨7, .inr (.inl rfl), rfl⟩
        · exact ⟨25, .inr (.inr rfl), rfl⟩
      refine ⟨p6, _, (sx : Int), .int (st : Int), rfl, rfl, SqL.of (kp7 _ _ h6t c6), hat3, ?_⟩
      refine ⟨Nat.zero_le _, fun fd0 H8 nf s8 c8 => ⟨_, _, _, rfl, ?_⟩⟩
      have tp8 := tape_same s8 tp7
      have k08 : Kp t H H8 := k04.trans (kp5.trans ((kp_same s6).trans (kp7.trans (kp_same s8))))
      have hft : fd0 ≠ t := tape_ne tp7 nf
      have nf0 : H fd0 = none := by
        cases e : H fd0 with
        | none => rfl
        | some o =>
          rw [(k04.trans (kp5.trans ((kp_same s6).trans kp7))) fd0 o hft e] at nf
          cases nf
      -- head, tail
      refine ⟨_, rfl, _, rfl, (at' : Int), rfl, mkS cs, rfl, hsl, _, rfl, _, rfl, (at' : Int), rfl, mkS cs, rfl, hsl, _, _, rfl, ?_⟩
      rw [cut_take hat, cut_drop hat]
      generalize hhd : cs.take at' = hd
      generalize htl : cs.drop at' = tl
      have hlen : hd.length + tl.length = cs.length := by
        rw [← hhd, ← htl, List.length_take, List.length_drop]
        omega
      have h1 : ∀ c ∈ hd, 97 ≤ c ∧ c ≤ 122 := fun c hc => l2 c (by rw [← hhd] at hc; exact List.mem_of_mem_take hc)
      have h2 : ∀ c ∈ tl, 97 ≤ c ∧ c ≤ 122 := fun c hc => l2 c (by rw [← htl] at hc; exact List.mem_of_mem_drop hc)
      have hhs : (mkS hd).length ≤ 7 := by
        rw [mkS_len]
        omega
      have hts : (mkS tl).length ≤ 7 := by
        rw [mkS_len]
        omega
      have sz : sizeLine = 16777216 := rfl
      obtain ⟨way, hway, hway3, hw0⟩ : ∃ way : Nat, ((sh : Int) + (at' : Int) + ((mkS cs).length : Int)) % 3 * (if (!decide (V.str (mkS tl) = V.str "")) = true then 1 else 0) = (way : Int) ∧ way < 3 ∧ (way ≠ 0 → tl ≠ []) := by
        by_cases ht : tl = []
        · refine ⟨0, ?_, by decide, fun z => absurd rfl z⟩
          have : mkS tl = "" := by rw [ht]; rfl
          rw [if_neg (by rw [decide_eq_true (congrArg V.str this)]; decide)]
          simp
        · refine ⟨((sh : Int) + (at' : Int) + ((mkS cs).length : Int)).toNat % 3, ?_, Nat.mod_lt _ (by decide), fun _ => ht⟩
          have : ¬ V.str (mkS tl) = V.str "" := fun z => ht (mkS_inj (b := []) (V.str.inj z))
          rw [if_pos (by rw [decide_eq_false this]; rfl)]
          omega
      refine ⟨_, rfl, (m : Int), rfl, by omega, by omega, for_range (lo := 0) (n := (m : Int).toNat) (fun i σ H9 => ∃ y5 y11 y12, σ = [some (.ref t), some (.int (m : Int)), some (.str "abcdefghijklmnopqrstuvwxyz"), some (.int (sh : Int)), some (.str (mkS cs)), y5, some (.int (at' : Int)), some (.int (st : Int)), some (.ref fd0), some (.str (mkS hd)), some (.str (mkS tl)), y11, y12] ∧
        (∀ b o, b ≠ fd0 → H8 b = some o → H9 b = some o) ∧ H9 fd0 = some (.lst ((List.range i).map fun k => V.str (mkS (nmOf hd tl sh st way k))))) ⟨_, _, _, rfl, fun b o _ h => h, c8⟩ ?_ ?_⟩
      · rintro i σ H9 hi ⟨y5, y11, y12, rfl, k9, f9⟩
        have hi26 : i < 26 := by omega
        rw [Int.zero_add]
        -- way
        refine ⟨fun v H' => v = .int (way : Int) ∧ H' = H9, ?_, ?_⟩
        · refine ⟨_, rfl, _, rfl, _, _, rfl, rfl, _, rfl, mkS cs, rfl, hsl, _, _, rfl, rfl, _, 3, rfl, rfl, (show (0 : Int) < 3 by decide), _, rfl, rfl, .inr ⟨_, rfl, _, _, rfl, rfl, .inl ⟨?_, ?_⟩, ?_, rfl⟩⟩
          · have := Int.emod_nonneg ((sh : Int) + (at' : Int) + ((mkS cs).length : Int)) (show (3 : Int) ≠ 0 by decide)
            omega
          · have := Int.emod_lt_of_pos ((sh : Int) + (at' : Int) + ((mkS cs).length : Int)) (show (0 : Int) < 3 by decide)
            omega
          · exact congrArg V.int hway
        rintro v H' ⟨rfl, rfl⟩
        -- sign
        obtain ⟨ix, hix, hixa⟩ : ∃ ix : Nat, ix = (if way = 1 then i / 2 else i) ∧ atI [V.int (i : Int), V.int ((i : Int) / 2), V.int (i : Int)] (way : Int) = some (.int (ix : Int)) := by
          have : way = 0 ∨ way = 1 ∨ way = 2 := by omega
          rcases this with rfl | rfl | rfl
          · exact ⟨i, rfl, rfl⟩
          · exact ⟨i / 2, rfl, rfl⟩
          · exact ⟨i, rfl, rfl⟩
        refine ⟨_, rfl, _, rfl, _, rfl, _, rfl, _, rfl, _, _, rfl, rfl, ⟨by decide, by decide⟩, _, rfl, z3, fun p9 Ha npa sa ca => ?_⟩
        refine ⟨_, rfl, p9, _, (way : Int), .int (ix : Int), rfl, rfl, SqL.of ca, hixa, _, _, rfl, rfl, .inl ⟨by omega, by omega⟩, _, _, rfl, rfl, _, 26, rfl, rfl, (show (0 : Int) < 26 by decide), ?_⟩
        have hnn : ((sh : Int) + (st : Int) * (ix : Int)) % 26 = (((sh + st * ix) % 26 : Nat) : Int) := by
          rw [← Int.natCast_mul, ← Int.natCast_add]
          rfl
        have hlt26 : (sh + st * ix) % 26 < 26 := Nat.mod_lt _ (by decide)
        refine ⟨_, ((sh : Int) + (st : Int) * (ix : Int)) % 26, 97 + (sh + st * ix) % 26, rfl, rfl, letters_len, ?_, ?_⟩
        · rw [hnn]
          exact letter_at (by omega) (by omega)
        have fa := sa _ _ f9
        -- found.append(..)
        refine ⟨_, rfl, .inl ⟨rfl, _, SqL.of fa⟩, fun v H' => v = .str (mkS (nmOf hd tl sh st way i)) ∧ Same Ha H', ?_, ?_⟩
        · refine ⟨_, rfl, _, rfl, mkS hd, sgn (97 + (sh + st * ix) % 26), rfl, rfl, ?_, ?_⟩
          · show (mkS hd).length + 1 ≤ sizeLine
            omega
          have hkm : i % (tl.length + 1) ≤ tl.length := by
            have := Nat.mod_lt i (show 0 < tl.length + 1 by omega)
            omega
          refine ⟨_, rfl, _, rfl, _, rfl, _, 2, rfl, rfl, (show (0 : Int) < 2 by decide), mkS tl, i % 2, rfl, rfl, by omega, _, rfl, _, rfl, _, rfl, mkS tl, rfl, by omega, _, _, rfl, rfl, _, _, rfl, rfl, (show (0 : Int) < ((mkS tl).length : Int) + 1 by omega), ((i % (tl.length + 1) : Nat) : Int), rfl, mkS tl, rfl, by omega, z3, fun pb Hb npb sb cb => ?_⟩
          rw [cut_take hkm] at cb
          obtain ⟨xs, hxs, hxa⟩ : ∃ xs : List Nat, xs = (if way = 0 then tl else if way = 1 then (if i % 2 = 0 then [] else tl) else tl.take (i % (tl.length + 1))) ∧ atI [V.str (mkS tl), V.str (if i % 2 = 0 then ("" : Str) else mkS tl), V.str (mkS (tl.take (i % (tl.length + 1))))] (way : Int) = some (.str (mkS xs)) := by
            have : way = 0 ∨ way = 1 ∨ way = 2 := by omega
            rcases this with rfl | rfl | rfl
            · exact ⟨tl, rfl, rfl⟩
            · by_cases h0 : i % 2 = 0
              · refine ⟨[], by rw [if_neg (by decide), if_pos rfl, if_pos h0], ?_⟩
                rw [if_pos h0]
                rfl
              · refine ⟨tl, by rw [if_neg (by decide), if_pos rfl, if_neg h0], ?_⟩
                rw [if_neg h0]
                rfl
            · exact ⟨tl.take (i % (tl.length + 1)), rfl, rfl⟩
          have hxl : xs.length ≤ tl.length := by
            rw [hxs]
            split
            · exact Nat.le_refl _
            · split
              · split
                · exact Nat.zero_le _
                · exact Nat.le_refl _
              · rw [List.length_take]
                exact Nat.min_le_right _ _
          refine ⟨_, rfl, pb, _, (way : Int), .str (mkS xs), rfl, rfl, SqL.of cb, hxa, mkS hd ++ sgn (97 + (sh + st * ix) % 26), mkS xs, rfl, rfl, ?_, ?_, sb⟩
          · rw [mkS_len]
            show (mkS hd ++ mkS [97 + (sh + st * ix) % 26]).length + xs.length ≤ sizeLine
            rw [mkS_app, mkS_len, List.length_append, List.length_singleton]
            omega
          · show V.str (mkS hd ++ mkS [97 + (sh + st * ix) % 26] ++ mkS xs) = _
            rw [mkS_app, mkS_app, hix, hxs]
            rfl
        rintro v H' ⟨rfl, sb⟩
        refine ⟨fd0, _, _, rfl, rfl, sb _ _ fa, ?_, ⟨_, _, _, rfl, fun b o hb h => ?_, ?_⟩⟩
        · rw [List.length_map, List.length_range]
          exact Nat.lt_trans hi26 (by decide)
        · rw [upd_ne hb]
          exact sb _ _ (sa _ _ (k9 b o hb h))
        · rw [upd_same, List.range_succ, List.map_append]
          rfl
      · rintro σ H9 ⟨y5, y11, y12, rfl, k9, f9⟩
        have em : (m : Int).toNat = m := by omega
        rw [em] at f9
        refine ⟨_, rfl, q fd0 H9 ((List.range m).map fun k => mkS (nmOf hd tl sh st way k)) nf0 (fun b o hb h => ?_) ?_ ?_ ?_ ?_ ?_⟩
        · by_cases hbf : b = fd0
          · subst hbf
            rw [nf0] at h
            cases h
          · exact k9 b o hbf (k08 b o hb h)
        · obtain ⟨x, y, z, e, r⟩ := tp8
          exact ⟨x, y, z, k9 _ _ hft.symm e, r⟩
        · rw [f9, List.map_map]
          rfl
        · rw [List.length_map, List.length_range]
        · exact nodup_rmap fun j k hj hk e => nm_ne hst hw0 (by omega) (by omega) (mkS_inj e)
        · intro z hz
          obtain ⟨k, _, rfl⟩ := List.mem_map.mp hz
          exact nm_is (by omega) h1 h2
end
end Tw

/-! things drawn: all that is no list stands; comprehensions of drawn things -/
namespace Tw
open PySem PySem.Spec PyProof.Rows L2
/-- all that is no list stands -/
def KpT (H H' : Hp) : Prop := ∀ b o, (∀ l, o ≠ HO.lst l) → H b = some o → H' b = some o
theorem KpT.refl (H : Hp) : KpT H H := fun _ _ _ h => h
theorem KpT.trans {H H1 H2 : Hp} (a : KpT H H1) (b : KpT H1 H2) : KpT H H2 := fun c o n h => b c o n (a c o n h)
theorem kpT_same {H H' : Hp} (h : Same H H') : KpT H H' := fun b o _ e => h b o e
theorem kpT_kp {t : Addr} {H H' : Hp} {n : Nat} (h : Kp t H H') (ht : Tape H t n) : KpT H H' := fun b o no e => h b o (fun z => by
  obtain ⟨_, _, _, e', _⟩ := ht
  rw [z, e'] at e
  cases e
  exact no _ rfl) e
theorem kpT_lst {H : Hp} {p : Addr} {l : List V} {o' : HO} (h : H p = some (.lst l)) : KpT H (upd H p o') := fun b o no e => by
  rw [upd_ne (fun z => by rw [z, h] at e; cases e; exact no _ rfl)]
  exact e
theorem kpT_tup {H H' : Hp} {p : Addr} {xs : List V} (k : KpT H H') (h : H p = some (.tup xs)) : H' p = some (.tup xs) := k _ _ (fun _ e => by cases e) h
theorem kpT_sqt {K : PySem.W.Frag} {H H' : Hp} {a : Addr} {xs : List V} (e : KpT H H') (h : SqT K H a xs) : SqT K H' a xs := by
  rcases h with (h | ⟨o, h⟩) | h
  · exact .inl (.inl (e _ _ (fun _ z => by cases z) h))
  · exact .inl (.inr ⟨o, e _ _ (fun _ z => by cases z) h⟩)
  · exact .inr h
theorem tape_lst {H : Hp} {t p : Addr} {n : Nat} {l : List V} (h : Tape H t n) (hp : p ≠ t) {o : HO} : Tape (upd H p o) t n := by
  obtain ⟨a, b, c, e, r⟩ := h
  exact ⟨a, b, c, by rw [upd_ne hp.symm]; exact e, r⟩
theorem kp_none {t : Addr} {H H' : Hp} {n : Nat} {p : Addr} (k : Kp t H H') (ht : Tape H' t n) (h : H' p = none) : H p = none := by
  cases e : H p with
  | none => rfl
  | some o =>
    rw [k p o (tape_ne ht h) e] at h
    cases h
theorem kp_mut {t : Addr} {H H' : Hp} {p : Addr} {o : HO} (k : Kp t H H') (h : H p = none) : Kp t H (upd H' p o) := fun b u hb e => by
  rw [upd_ne (ne_of_none e h)]
  exact k b u hb e
section
variable {t : Addr} {g : TG} {te : TE} {vs : List Nat} {σ : L2.St} {H1 : Hp} {D : Addr} {Qd : Hp → Prop}
/-- what holds of the list under way -/
def LcI (t : Addr) (E : Hp → V → Prop) (H1 : Hp) (D : Addr) (base : Nat) (i : Nat) (b : Nat) (H : Hp) : Prop := Kp t H1 H ∧ Tape H t (base + b) ∧ ∃ acc : List V, acc.length = i ∧ H D = some (.lst acc) ∧ ∀ v ∈ acc, E H v
theorem lcI_next {E : Hp → V → Prop} (mono : ∀ H H' v, KpT H H' → E H v → E H' v) {base i b b' : Nat} {H H4 : Hp} {y : V} (hD : H1 D = none) (hDt : D ≠ t) (hi : i < sizeLine) (h : LcI t E H1 D base i b H) (k : Kp t H H4) (tp : Tape H4 t (base + b')) (e : E H4 y) :
    ∃ acc, H4 D = some (.lst acc) ∧ acc.length < sizeLine ∧ LcI t E H1 D base (i + 1) b' (upd H4 D (.lst (acc ++ [y]))) := by
  obtain ⟨h1, h2, acc, h3, h4, h5⟩ := h
  have hd4 := k _ _ hDt h4
  refine ⟨acc, hd4, by omega, kp_mut (h1.trans k) hD, tape_lst (l := []) tp hDt, acc ++ [y], by rw [List.length_append, h3]; rfl, upd_same, fun v hv => ?_⟩
  have kk : KpT H4 (upd H4 D (.lst (acc ++ [y]))) := kpT_lst hd4
  rcases List.mem_append.mp hv with hv | hv
  · exact mono _ _ _ ((kpT_kp k h2).trans kk) (h5 v hv)
  · rw [List.mem_singleton.mp hv]
    exact mono _ _ _ kk e
/-- a comprehension over a range, each turn of at most c draws -/
theorem lcU_range {lo : Int} {n : Nat} (E : Hp → V → Prop) (mono : ∀ H H' v, KpT H H' → E H v → E H' v) (c base : Nat) (hz : n ≤ 100000) (hD : H1 D = none) (hT : Tape H1 t (base + c * n))
    (hs : ∀ (i : Nat) H (R : V → Hp → Prop), i < n → Kp t H1 H → Tape H t (base + c * (n - (i + 1)) + c) → (∀ y H4, Kp t H H4 → Tape H4 t (base + c * (n - (i + 1))) → E H4 y → R y H4) → g (.int (lo + i)) (wipe σ vs) H fun σ2 H2 => wipe σ2 vs = wipe σ vs ∧ te σ2 H2 R)
    (hd : ∀ H acc, Kp t H1 H → Tape H t base → H D = some (.lst acc) → acc.length = n → (∀ v ∈ acc, E H v) → Qd H) :
    ∃ W : Nat → Nat → Hp → Prop, (∃ m, W 0 m (upd H1 D (.lst []))) ∧ ∀ i m H, W i m H →
      ((Itr lo n).stop i H ∧ Qd H) ∨ ((Itr lo n).go i H ∧ ∃ Nx : Hp → Prop, (∀ H', Nx H' → ∃ m', m' < m ∧ W (i + 1) m' H') ∧ ∀ x H', (Itr lo n).yld i H x H' → g x (wipe σ vs) H' fun σ2 H2 => wipe σ2 vs = wipe σ vs ∧ tYes σ2 H2 fun b H3 =>
        if b = true then te σ2 H3 fun y H4 => ∃ acc, H4 D = some (.lst acc) ∧ acc.length < sizeLine ∧ Nx (upd H4 D (.lst (acc ++ [y]))) else Nx H3) := by
  have hDt : D ≠ t := tape_ne hT hD
  refine lc_range (lo := lo) (n := n) (tt := tYes) (fun i H => LcI t E H1 D base i (c * (n - i)) H) ⟨Kp.new hD, tape_same (same_new hD) hT, [], rfl, upd_same, fun v hv => nomatch hv⟩ ?_ ?_
  · intro i H hi h
    have e : c * (n - i) = c * (n - (i + 1)) + c := by
      have : n - i = (n - (i + 1)) + 1 := by omega
      rw [this, Nat.mul_add, Nat.mul_one]
    have h2 := h.2.1
    rw [e, ← Nat.add_assoc] at h2
    exact hs i H _ hi h.1 h2 fun y H4 k4 t4 e4 => lcI_next mono hD hDt (Nat.lt_of_lt_of_le (Nat.lt_of_lt_of_le hi hz) (by decide)) h k4 t4 e4
  · rintro H ⟨h1, h2, acc, h3, h4, h5⟩
    exact hd H acc h1 (h2.mono (by omega)) h4 h3 h5
/-- over a tuple -/
theorem lcU_tup {K : PySem.W.Frag} {a : Addr} {xs : List V} (E : Hp → V → Prop) (mono : ∀ H H' v, KpT H H' → E H v → E H' v) (c base : Nat) (hz : xs.length ≤ 100000) (hD : H1 D = none) (hT : Tape H1 t (base + c * xs.length)) (ha : SqT K H1 a xs)
    (hs : ∀ (i : Nat) x H (R : V → Hp → Prop), xs[i]? = some x → Kp t H1 H → Tape H t (base + c * (xs.length - (i + 1)) + c) → (∀ y H4, Kp t H H4 → Tape H4 t (base + c * (xs.length - (i + 1))) → E H4 y → R y H4) → g x (wipe σ vs) H fun σ2 H2 => wipe σ2 vs = wipe σ vs ∧ te σ2 H2 R)
    (hd : ∀ H acc, Kp t H1 H → Tape H t base → H D = some (.lst acc) → acc.length = xs.length → (∀ v ∈ acc, E H v) → Qd H) :
    ∃ W : Nat → Nat → Hp → Prop, (∃ m, W 0 m (upd H1 D (.lst []))) ∧ ∀ i m H, W i m H →
      ((Itt K a).stop i H ∧ Qd H) ∨ ((Itt K a).go i H ∧ ∃ Nx : Hp → Prop, (∀ H', Nx H' → ∃ m', m' < m ∧ W (i + 1) m' H') ∧ ∀ x H', (Itt K a).yld i H x H' → g x (wipe σ vs) H' fun σ2 H2 => wipe σ2 vs = wipe σ vs ∧ tYes σ2 H2 fun b H3 =>
        if b = true then te σ2 H3 fun y H4 => ∃ acc, H4 D = some (.lst acc) ∧ acc.length < sizeLine ∧ Nx (upd H4 D (.lst (acc ++ [y]))) else Nx H3) := by
  have hDt : D ≠ t := tape_ne hT hD
  refine lc_tup (xs := xs) (tt := tYes) (fun i H => LcI t E H1 D base i (c * (xs.length - i)) H) ⟨Kp.new hD, tape_same (same_new hD) hT, [], rfl, upd_same, fun v hv => nomatch hv⟩ (fun i H _ h => kpT_sqt (kpT_kp h.1 hT) ha) ?_ ?_
  · intro i x H hx h
    have hi := (List.getElem?_eq_some_iff.mp hx).1
    have e : c * (xs.length - i) = c * (xs.length - (i + 1)) + c := by
      have : xs.length - i = (xs.length - (i + 1)) + 1 := by omega
      rw [this, Nat.mul_add, Nat.mul_one]
    have h2 := h.2.1
    rw [e, ← Nat.add_assoc] at h2
    exact hs i x H _ hx h.1 h2 fun y H4 k4 t4 e4 => lcI_next mono hD hDt (Nat.lt_of_lt_of_le (Nat.lt_of_lt_of_le hi hz) (by decide)) h k4 t4 e4
  · rintro H ⟨h1, h2, acc, h3, h4, h5⟩
    exact hd H acc h1 (h2.mono (by omega)) h4 h3 h5
end
section
variable {X : Cx}
/-- a list times a small number, the heap hidden -/
def rRepL : R2 := fun x y H Q => ∃ (l : Addr) (k : Nat) (xs : List V), x = .ref l ∧ y = .int (k : Int) ∧ H l = some (.lst xs) ∧ k ≤ 1000 ∧ xs.length ≤ 1000 ∧ ∀ p H', H p = none → Same H H' → H' p = some (.lst (List.replicate k xs).flatten) → Q (.ref p) H'
theorem op_repL : OpR X (binaryOp .Mult) rRepL := fun pins s σ H x y v u Q I rx ry h => by
  obtain ⟨l, k, xs, e1, e2, hl, hk, hz, q⟩ := h
  refine op_rep pins s σ H x y v u Q I rx ry ⟨l, (k : Int), xs, e1, e2, hl, by omega, by omega, ?_, fun p np => q p _ np (same_new np) (by rw [upd_same]; rfl)⟩
  have : xs.length * (k : Int).toNat ≤ 1000 * 1000 := Nat.mul_le_mul hz (by omega)
  exact Nat.le_trans this (by decide)
end
end Tw

/-! codes done on a pile: the plain law -/
namespace Tw
open PySem PySem.Spec PyProof.Rows L2
/-- pile: the top first -/
structure DS where
  pile : List Int
  kept : List Int
  taken : List (Str × List Int)
  given : List (Str × List Int)
inductive Act where
  | take (t : Str) | give (t : Str) | num (n : Int) | keep (k : Nat) | kept (k : Nat) | wrd (w : Str)
def lk (es : List (Str × List Int)) (t : Str) : Option (List Int) := (es.find? fun e => decide (e.1 = t)).map (·.2)
def stE (es : List (Str × List Int)) (t : Str) (ns : List Int) : List (Str × List Int) := es.map fun e => if e.1 = t then (e.1, ns) else e
def pushE (es : List (Str × List Int)) (t : Str) (x : Int) : List (Str × List Int) := match lk es t with
  | some ns => stE es t (ns ++ [x])
  | none => es ++ [(t, [x])]
def reck (w : Str) (a b : Int) : Option Int :=
  if w = "below" then some (if a < b then 1 else 0) else if w = "plus" then some ((a + b) % 1000000) else if w = "less" then some ((a - b) % 1000000) else if w = "times" then some (a * b % 1000000) else none
def wstep (w : Str) (p : List Int) : Option (List Int) :=
  if w = "drop" then (match p with | _ :: r => some r | _ => none)
  else if w = "twice" then (match p with | b :: r => some (b :: b :: r) | _ => none)
  else if w = "swap" then (match p with | b :: a :: r => some (a :: b :: r) | _ => none)
  else if w = "pick" then (match p with | b :: a :: c :: r => some ((if c ≠ 0 then a else b) :: r) | _ => none)
  else match p with | b :: a :: r => (reck w a b).map (· :: r) | _ => none
def step (s : DS) : Act → Option DS
  | .take t => match lk s.taken t with | some (x :: r) => some { s with pile := x :: s.pile, taken := stE s.taken t r } | _ => none
  | .num n => some { s with pile := n :: s.pile }
  | .kept k => match s.kept[k]? with | some x => some { s with pile := x :: s.pile } | none => none
  | .give t => match s.pile with | x :: r => some { s with pile := r, given := pushE s.given t x } | [] => none
  | .keep k => match s.pile with | x :: r => if k < s.kept.length then some { s with pile := r, kept := s.kept.set k x } else none | [] => none
  | .wrd w => match wstep w s.pile with | some p => some { s with pile := p } | none => none
def runA : DS → List Act → Option DS
  | s, [] => some s
  | s, a :: r => match step s a with | some s' => runA s' r | none => none
theorem runA_snoc : ∀ (as : List Act) (s s' : DS) (a : Act), runA s as = some s' → runA s (as ++ [a]) = step s' a
  | [], s, s', a, h => by
    cases h
    show (match step s a with | some s' => runA s' [] | none => none) = step s a
    cases step s a <;> rfl
  | b :: r, s, s', a, h => by
    have h' : (match step s b with | some s' => runA s' r | none => none) = some s' := h
    show (match step s b with | some s' => runA s' (r ++ [a]) | none => none) = step s' a
    cases e : step s b with
    | none =>
      rw [e] at h'
      cases h'
    | some t =>
      rw [e] at h'
      exact runA_snoc r t s' a h'
/-- an ITEM -/
def it (x : Int) : Prop := 0 ≤ x ∧ x < 1000000
structure DS.Good (s : DS) : Prop where
  p : ∀ x ∈ s.pile, it x
  k : ∀ x ∈ s.kept, it x
  t : ∀ e ∈ s.taken, ∀ x ∈ e.2, it x
def ActGood : Act → Prop
  | .num n => it n
  | _ => True
/-- no part longer than n -/
structure DS.Bnd (s : DS) (n : Nat) : Prop where
  p : s.pile.length ≤ n
  g : s.given.length ≤ n
  e : ∀ e ∈ s.given, e.2.length ≤ n
theorem lk_mem {es : List (Str × List Int)} {t : Str} {ns : List Int} (h : lk es t = some ns) : (t, ns) ∈ es := by
  unfold lk at h
  cases e : es.find? (fun e => decide (e.1 = t)) with
  | none =>
    rw [e] at h
    cases h
  | some p =>
    rw [e] at h
    have h1 := List.mem_of_find?_eq_some e
    have h2 : p.1 = t := by
      have h0 := List.find?_some e
      simpa using h0
    have h3 : p.2 = ns := Option.some.inj h
    rw [← h2, ← h3]
    exact h1
theorem stE_mem {es : List (Str × List Int)} {t : Str} {ns : List Int} {e : Str × List Int} (h : e ∈ stE es t ns) : e ∈ es ∨ e.2 = ns := by
  unfold stE at h
  obtain ⟨e', h1, h2⟩ := List.mem_map.mp h
  by_cases c : e'.1 = t
  · rw [if_pos c] at h2
    rw [← h2]
    exact .inr rfl
  · rw [if_neg c] at h2
    rw [← h2]
    exact .inl h1
theorem reck_it {w : Str} {a b n : Int} (h : reck w a b = some n) : it n := by
  unfold reck at h
  split at h
  · cases h
    split
    · exact ⟨by decide, by decide⟩
    · exact ⟨by decide, by decide⟩
  · split at h
    · cases h
      exact ⟨by omega, by omega⟩
    · split at h
      · cases h
        exact ⟨by omega, by omega⟩
      · split at h
        · cases h
          exact ⟨Int.emod_nonneg _ (by decide), Int.emod_lt_of_pos _ (by decide)⟩
        · cases h
theorem wstep_it {w : Str} {p q : List Int} (h : wstep w p = some q) (hp : ∀ x ∈ p, it x) : ∀ x ∈ q, it x := by
  unfold wstep at h
  split at h
  · split at h
    · cases h
      exact fun x hx => hp x (List.mem_cons_of_mem _ hx)
    · cases h
  · split at h
    · split at h
      · cases h
        intro x hx
        rcases List.mem_cons.mp hx with rfl | hx
        · exact hp _ List.mem_cons_self
        · exact hp x hx
      · cases h
    · split at h
      · split at h
        · cases h
          intro x hx
          simp only [List.mem_cons] at hx hp
          rcases hx with rfl | rfl | hx
          · exact hp _ (.inr (.inl rfl))
          · exact hp _ (.inl rfl)
          · exact hp _ (.inr (.inr hx))
        · cases h
      · split at h
        · split at h
          · cases h
            intro x hx
            simp only [List.mem_cons] at hx hp
            rcases hx with rfl | hx
            · split
              · exact hp _ (.inr (.inl rfl))
              · exact hp _ (.inl rfl)
            · exact hp _ (.inr (.inr (.inr hx)))
          · cases h
        · split at h
          · rename_i b a r
            cases e : reck w a b with
            | none =>
              rw [e] at h
              cases h
            | some n =>
              rw [e] at h
              cases h
              intro x hx
              rcases List.mem_cons.mp hx with rfl | hx
              · exact reck_it e
              · exact hp x (List.mem_cons_of_mem _ (List.mem_cons_of_mem _ hx))
          · cases h
theorem wstep_len {w : Str} {p q : List Int} (h : wstep w p = some q) : q.length ≤ p.length + 1 := by
  unfold wstep at h
  split at h
  · split at h
    · cases h
      simp only [List.length_cons]
      omega
    · cases h
  · split at h
    · split at h
      · cases h
        simp only [List.length_cons]
        omega
      · cases h
    · split at h
      · split at h
        · cases h
          simp only [List.length_cons]
          omega
        · cases h
      · split at h
        · split at h
          · cases h
            simp only [List.length_cons]
            omega
          · cases h
        · split at h
          · rename_i b a r
            cases e : reck w a b with
            | none =>
              rw [e] at h
              cases h
            | some n =>
              rw [e] at h
              cases h
              simp only [List.length_cons]
              omega
          · cases h
theorem step_good {s s' : DS} {a : Act} (h : step s a = some s') (g : s.Good) (ga : ActGood a) : s'.Good := by
  cases a with
  | take t =>
    unfold step at h
    dsimp only at h
    split at h
    · rename_i x r e
      cases h
      have hm := lk_mem e
      refine ⟨fun y hy => ?_, g.k, fun e' he y hy => ?_⟩
      · rcases List.mem_cons.mp hy with rfl | hy
        · exact g.t _ hm _ List.mem_cons_self
        · exact g.p y hy
      · rcases stE_mem he with he | he
        · exact g.t e' he y hy
        · rw [he] at hy
          exact g.t _ hm y (List.mem_cons_of_mem _ hy)
    · cases h
  | num n =>
    cases h
    refine ⟨fun y hy => ?_, g.k, g.t⟩
    rcases List.mem_cons.mp hy with rfl | hy
    · exact ga
    · exact g.p y hy
  | kept k =>
    unfold step at h
    dsimp only at h
    split at h
    · rename_i x e
      cases h
      refine ⟨fun y hy => ?_, g.k, g.t⟩
      rcases List.mem_cons.mp hy with rfl | hy
      · exact g.k _ (List.mem_of_getElem? e)
      · exact g.p y hy
    · cases h
  | give t =>
    unfold step at h
    dsimp only at h
    split at h
    · rename_i x r e
      cases h
      exact ⟨fun y hy => g.p y (by rw [e]; exact List.mem_cons_of_mem _ hy), g.k, g.t⟩
    · cases h
  | keep k =>
    unfold step at h
    dsimp only at h
    split at h
    · rename_i x r e
      split at h
      · cases h
        refine ⟨fun y hy => g.p y (by rw [e]; exact List.mem_cons_of_mem _ hy), fun y hy => ?_, g.t⟩
        rcases List.mem_or_eq_of_mem_set hy with hy | rfl
        · exact g.k y hy
        · exact g.p _ (by rw [e]; exact List.mem_cons_self)
      · cases h
    · cases h
  | wrd w =>
    unfold step at h
    dsimp only at h
    split at h
    · rename_i p e
      cases h
      exact ⟨wstep_it e g.p, g.k, g.t⟩
    · cases h
theorem step_bnd {s s' : DS} {a : Act} {n : Nat} (h : step s a = some s') (b : s.Bnd n) : s'.Bnd (n + 1) := by
  have b0 := b.p
  have b1 := b.g
  have be : ∀ e ∈ s.given, e.2.length ≤ n + 1 := fun e he => Nat.le_succ_of_le (b.e e he)
  cases a with
  | take t =>
    unfold step at h
    dsimp only at h
    split at h
    · cases h
      exact ⟨by simp only [List.length_cons]; omega, by dsimp only; omega, be⟩
    · cases h
  | num m =>
    cases h
    exact ⟨by simp only [List.length_cons]; omega, by dsimp only; omega, be⟩
  | kept k =>
    unfold step at h
    dsimp only at h
    split at h
    · cases h
      exact ⟨by simp only [List.length_cons]; omega, by dsimp only; omega, be⟩
    · cases h
  | give t =>
    unfold step at h
    dsimp only at h
    split at h
    · rename_i x r e
      cases h
      rw [e, List.length_cons] at b0
      refine ⟨by dsimp only; omega, ?_, fun e' he => ?_⟩
      · dsimp only
        unfold pushE
        split
        · unfold stE
          rw [List.length_map]
          omega
        · rw [List.length_append, List.length_singleton]
          omega
      · dsimp only at he
        unfold pushE at he
        split at he
        · rename_i ns hl
          have h1 := b.e _ (lk_mem hl)
          rcases stE_mem he with he | he
          · exact be e' he
          · rw [he, List.length_append, List.length_singleton]
            dsimp only at h1
            omega
        · rcases List.mem_append.mp he with he | he
          · exact be e' he
          · rw [List.mem_singleton.mp he, List.length_singleton]
            omega
    · cases h
  | keep k =>
    unfold step at h
    dsimp only at h
    split at h
    · rename_i x r e
      rw [e, List.length_cons] at b0
      split at h
      · cases h
        exact ⟨by dsimp only; omega, by dsimp only; omega, be⟩
      · cases h
    · cases h
  | wrd w =>
    unfold step at h
    dsimp only at h
    split at h
    · rename_i p e
      cases h
      have := wstep_len e
      exact ⟨by dsimp only; omega, by dsimp only; omega, be⟩
    · cases h
end Tw

/-! a Doing in the heap -/
namespace Tw
open PySem PySem.Spec PyProof.Rows L2
/-- a dict of lists of numbers: its pairs, what they hold, where the lists lie -/
inductive Ents (H : Hp) : List (Key × V) → List (Str × List Int) → List Addr → Prop
  | nil : Ents H [] [] []
  | cons {s : Str} {a : Addr} {ns : List Int} {kvs : List (Key × V)} {es : List (Str × List Int)} {as : List Addr} : H a = some (.lst (ns.map V.int)) → Ents H kvs es as → Ents H ((Sum.inr s, .ref a) :: kvs) ((s, ns) :: es) (a :: as)
theorem ents_mono {H H' : Hp} : ∀ {kvs : List (Key × V)} {es : List (Str × List Int)} {as : List Addr}, Ents H kvs es as → (∀ a ∈ as, ∀ o, H a = some o → H' a = some o) → Ents H' kvs es as
  | _, _, _, .nil, _ => .nil
  | _, _, _, .cons h r, k => .cons (k _ List.mem_cons_self _ h) (ents_mono r fun a ha => k a (List.mem_cons_of_mem _ ha))
theorem ents_len {H : Hp} : ∀ {kvs : List (Key × V)} {es : List (Str × List Int)} {as : List Addr}, Ents H kvs es as → kvs.length = es.length ∧ as.length = es.length
  | _, _, _, .nil => ⟨rfl, rfl⟩
  | _, _, _, .cons _ r => ⟨congrArg Nat.succ (ents_len r).1, congrArg Nat.succ (ents_len r).2⟩
theorem lk_pos {es : List (Str × List Int)} {e : Str × List Int} {t : Str} (h : e.1 = t) : lk (e :: es) t = some e.2 := by simp [lk, List.find?_cons, h]
theorem lk_neg {es : List (Str × List Int)} {e : Str × List Int} {t : Str} (h : ¬ e.1 = t) : lk (e :: es) t = lk es t := by simp [lk, List.find?_cons, h]
theorem inr_ne {s t : Str} (h : ¬ s = t) : ¬ (Sum.inr s : Key) = Sum.inr t := fun e => h (Sum.inr.inj e)
theorem ents_none {H : Hp} {t : Str} : ∀ {kvs : List (Key × V)} {es : List (Str × List Int)} {as : List Addr}, Ents H kvs es as → (valV kvs (Sum.inr t : Key) = none ↔ lk es t = none)
  | _, _, _, .nil => ⟨fun _ => rfl, fun _ => rfl⟩
  | _, _, _, .cons (s := s) h r => by
    by_cases c : s = t
    · rw [valV_pos (by rw [c]), lk_pos c]
      exact ⟨fun z => (Option.some_ne_none _ z).elim, fun z => (Option.some_ne_none _ z).elim⟩
    · rw [valV_neg (inr_ne c), lk_neg c]
      exact ents_none r
/-- the list of a name -/
theorem ents_get {H : Hp} {t : Str} {ns : List Int} : ∀ {kvs : List (Key × V)} {es : List (Str × List Int)} {as : List Addr}, Ents H kvs es as → lk es t = some ns → ∃ a, valV kvs (Sum.inr t : Key) = some (.ref a) ∧ a ∈ as ∧ H a = some (.lst (ns.map V.int))
  | _, _, _, .nil, h => nomatch h
  | _, _, _, .cons (s := s) (a := a) h r, e => by
    by_cases c : s = t
    · rw [lk_pos c] at e
      cases e
      exact ⟨a, valV_pos (by rw [c]), List.mem_cons_self, h⟩
    · rw [lk_neg c] at e
      obtain ⟨b, h1, h2, h3⟩ := ents_get r e
      exact ⟨b, (valV_neg (inr_ne c)).trans h1, List.mem_cons_of_mem _ h2, h3⟩
/-- that list changed -/
theorem ents_set {H : Hp} {t : Str} {ns : List Int} {b : Addr} : ∀ {kvs : List (Key × V)} {es : List (Str × List Int)} {as : List Addr}, Ents H kvs es as → as.Nodup → (es.map (·.1)).Nodup → valV kvs (Sum.inr t : Key) = some (.ref b) →
    Ents (upd H b (.lst (ns.map V.int))) kvs (stE es t ns) as
  | _, _, _, .nil, _, _, _ => .nil
  | _, _, _, .cons (s := s) (a := a) (es := es) (as := as) h r, nd, nk, e => by
    have n1 := (List.nodup_cons.mp nd).1
    have n2 := (List.nodup_cons.mp nd).2
    rw [List.map_cons] at nk
    have k1 := (List.nodup_cons.mp nk).1
    have k2 := (List.nodup_cons.mp nk).2
    by_cases c : s = t
    · rw [valV_pos (by rw [c])] at e
      cases e
      have e2 : stE es t ns = es := by
        unfold stE
        refine (List.map_congr_left fun p hp => ?_).trans (List.map_id es)
        rw [if_neg (fun z => k1 (by rw [c, ← z]; exact List.mem_map.mpr ⟨p, hp, rfl⟩))]
        rfl
      show Ents _ _ ((if s = t then (s, ns) else _) :: stE es t ns) _
      rw [if_pos c, e2]
      refine .cons upd_same (ents_mono r fun x hx o ho => ?_)
      rw [upd_ne (fun z => n1 (by rw [← z]; exact hx))]
      exact ho
    · rw [valV_neg (inr_ne c)] at e
      show Ents _ _ ((if s = t then _ else (s, _)) :: stE es t ns) _
      rw [if_neg c]
      have hb : b ∈ as := by
        obtain ⟨ms, hm⟩ : ∃ ms, lk es t = some ms := by
          cases q : lk es t with
          | none =>
            rw [(ents_none r).mpr q] at e
            cases e
          | some ms => exact ⟨ms, rfl⟩
        obtain ⟨b', h1, h2, _⟩ := ents_get r hm
        rw [e] at h1
        cases h1
        exact h2
      refine .cons ?_ (ents_set r n2 k2 e)
      rw [upd_ne (fun z => n1 (by rw [z]; exact hb))]
      exact h
theorem ents_snoc {H : Hp} {t : Str} {ns : List Int} {b : Addr} (hb : H b = some (.lst (ns.map V.int))) : ∀ {kvs : List (Key × V)} {es : List (Str × List Int)} {as : List Addr}, Ents H kvs es as → Ents H (kvs ++ [(Sum.inr t, .ref b)]) (es ++ [(t, ns)]) (as ++ [b])
  | _, _, _, .nil => .cons hb .nil
  | _, _, _, .cons h r => .cons h (ents_snoc hb r)
theorem stE_keys (es : List (Str × List Int)) (t : Str) (ns : List Int) : (stE es t ns).map (·.1) = es.map (·.1) := by
  unfold stE
  rw [List.map_map]
  refine List.map_congr_left fun e _ => ?_
  show (if e.1 = t then (e.1, ns) else e).1 = e.1
  split <;> rfl
theorem pushE_nd {es : List (Str × List Int)} {t : Str} {x : Int} (h : (es.map (·.1)).Nodup) : ((pushE es t x).map (·.1)).Nodup := by
  unfold pushE
  split
  · rw [stE_keys]
    exact h
  · rename_i hl
    rw [List.map_append, List.map_singleton, List.nodup_append]
    refine ⟨h, by simp, fun a ha b hb => ?_⟩
    rw [List.mem_singleton.mp hb]
    rintro rfl
    obtain ⟨e, he, h2⟩ := List.mem_map.mp ha
    unfold lk at hl
    cases q : es.find? (fun e' => decide (e'.1 = e.1)) with
    | none =>
      have := List.find?_eq_none.mp q e he
      simp at this
    | some p =>
      rw [← h2, q] at hl
      cases hl
/-! ### the object -/
def flds (pl kp tk gv : Addr) : List (Str × V) := [("own_pile", .ref pl), ("own_kept", .ref kp), ("own_taken", .ref tk), ("own_given", .ref gv)]
theorem flds_pile {pl kp tk gv : Addr} : (flds pl kp tk gv).lookup ("own_pile" : Str) = some (V.ref pl) := rfl
theorem flds_kept {pl kp tk gv : Addr} : (flds pl kp tk gv).lookup ("own_kept" : Str) = some (V.ref kp) := rfl
theorem flds_taken {pl kp tk gv : Addr} : (flds pl kp tk gv).lookup ("own_taken" : Str) = some (V.ref tk) := rfl
theorem flds_given {pl kp tk gv : Addr} : (flds pl kp tk gv).lookup ("own_given" : Str) = some (V.ref gv) := rfl
theorem flds_made {pl kp tk gv : Addr} : putF "own_given" (.ref gv) (putF "own_taken" (.ref tk) (putF "own_kept" (.ref kp) (putF "own_pile" (.ref pl) []))) = flds pl kp tk gv := rfl
theorem flds_no1 {pl kp tk gv : Addr} : (flds pl kp tk gv).lookup ("come_on" : Str) = none := rfl
theorem flds_no2 {pl kp tk gv : Addr} : (flds pl kp tk gv).lookup ("go_off" : Str) = none := rfl
theorem flds_no3 {pl kp tk gv : Addr} : (flds pl kp tk gv).lookup ("reckon" : Str) = none := rfl
theorem flds_no4 {pl kp tk gv : Addr} : (flds pl kp tk gv).lookup ("do_act" : Str) = none := rfl
theorem flds_no5 {pl kp tk gv : Addr} : (flds pl kp tk gv).lookup ("told" : Str) = none := rfl
/-- a Doing at p, made behind H0 -/
structure DX (C : Addr) (H0 H : Hp) (p dx pl kp tk gv : Addr) (tks gvs : List (Key × V)) (ta ga : List Addr) (s : DS) : Prop where
  ob : H p = some (.ins C dx (flds pl kp tk gv))
  hp : H pl = some (.lst (s.pile.reverse.map V.int))
  hk : H kp = some (.lst (s.kept.map V.int))
  ht : H tk = some (.dK tks)
  hg : H gv = some (.dK gvs)
  et : Ents H tks s.taken ta
  eg : Ents H gvs s.given ga
  nd : (pl :: kp :: (ta ++ ga)).Nodup
  ntg : tk ≠ gv
  kt : (s.taken.map (·.1)).Nodup
  kg : (s.given.map (·.1)).Nodup
  fr : H0 p = none ∧ H0 pl = none ∧ H0 kp = none ∧ H0 tk = none ∧ H0 gv = none ∧ ∀ a ∈ ta ++ ga, H0 a = none
  sm : Same H0 H
section
variable {C : Addr} {H0 H : Hp} {p dx pl kp tk gv : Addr} {tks gvs : List (Key × V)} {ta ga : List Addr} {s : DS}
theorem ents_lst {H : Hp} {a : Addr} : ∀ {kvs : List (Key × V)} {es : List (Str × List Int)} {as : List Addr}, Ents H kvs es as → a ∈ as → ∃ ns, H a = some (.lst ns)
  | _, _, _, .nil, h => nomatch h
  | _, _, _, .cons h r, ha => by
    rcases List.mem_cons.mp ha with rfl | ha
    · exact ⟨_, h⟩
    · exact ents_lst r ha
/-- new things elsewhere -/
theorem DX.other {H' : Hp} (X : DX C H0 H p dx pl kp tk gv tks gvs ta ga s) (k : Same H H') : DX C H0 H' p dx pl kp tk gv tks gvs ta ga s :=
  ⟨k _ _ X.ob, k _ _ X.hp, k _ _ X.hk, k _ _ X.ht, k _ _ X.hg, ents_mono X.et fun a _ o h => k a o h, ents_mono X.eg fun a _ o h => k a o h, X.nd, X.ntg, X.kt, X.kg, X.fr, X.sm.trans k⟩
theorem lst_ne_ins {a b : Addr} {xs : List V} {fs : List (Str × V)} (h : H a = some (.lst xs)) (h' : H b = some (.ins C dx fs)) : b ≠ a := ne_of h' h (by intro z; cases z)
theorem lst_ne_dk {a b : Addr} {xs : List V} {ks : List (Key × V)} (h : H a = some (.lst xs)) (h' : H b = some (.dK ks)) : b ≠ a := ne_of h' h (by intro z; cases z)
theorem ins_ne_dk {a b : Addr} {fs : List (Str × V)} {ks : List (Key × V)} (h : H a = some (.dK ks)) (h' : H b = some (.ins C dx fs)) : b ≠ a := ne_of h' h (by intro z; cases z)
theorem DX.pile (X : DX C H0 H p dx pl kp tk gv tks gvs ta ga s) (xs : List Int) : DX C H0 (upd H pl (.lst (xs.reverse.map V.int))) p dx pl kp tk gv tks gvs ta ga { s with pile := xs } := by
  have n := List.nodup_cons.mp X.nd
  have nk : kp ≠ pl := fun z => n.1 (by rw [← z]; exact List.mem_cons_self)
  have na : ∀ a ∈ ta ++ ga, a ≠ pl := fun a ha z => n.1 (by rw [← z]; exact List.mem_cons_of_mem _ ha)
  refine ⟨?_, upd_same, ?_, ?_, ?_, ?_, ?_, X.nd, X.ntg, X.kt, X.kg, X.fr, same_mut X.sm X.fr.2.1⟩
  · rw [upd_ne (lst_ne_ins X.hp X.ob)]; exact X.ob
  · rw [upd_ne nk]; exact X.hk
  · rw [upd_ne (lst_ne_dk X.hp X.ht)]; exact X.ht
  · rw [upd_ne (lst_ne_dk X.hp X.hg)]; exact X.hg
  · refine ents_mono X.et fun a ha o h => ?_
    rw [upd_ne (na a (List.mem_append_left _ ha))]; exact h
  · refine ents_mono X.eg fun a ha o h => ?_
    rw [upd_ne (na a (List.mem_append_right _ ha))]; exact h
theorem DX.keep (X : DX C H0 H p dx pl kp tk gv tks gvs ta ga s) (xs : List Int) : DX C H0 (upd H kp (.lst (xs.map V.int))) p dx pl kp tk gv tks gvs ta ga { s with kept := xs } := by
  have n := List.nodup_cons.mp X.nd
  have m := List.nodup_cons.mp n.2
  have nk : pl ≠ kp := fun z => n.1 (by rw [z]; exact List.mem_cons_self)
  have na : ∀ a ∈ ta ++ ga, a ≠ kp := fun a ha z => m.1 (by rw [← z]; exact ha)
  refine ⟨?_, ?_, upd_same, ?_, ?_, ?_, ?_, X.nd, X.ntg, X.kt, X.kg, X.fr, same_mut X.sm X.fr.2.2.1⟩
  · rw [upd_ne (lst_ne_ins X.hk X.ob)]; exact X.ob
  · rw [upd_ne nk]; exact X.hp
  · rw [upd_ne (lst_ne_dk X.hk X.ht)]; exact X.ht
  · rw [upd_ne (lst_ne_dk X.hk X.hg)]; exact X.hg
  · refine ents_mono X.et fun a ha o h => ?_
    rw [upd_ne (na a (List.mem_append_left _ ha))]; exact h
  · refine ents_mono X.eg fun a ha o h => ?_
    rw [upd_ne (na a (List.mem_append_right _ ha))]; exact h
/-- a list within ta ++ ga is none of the others -/
theorem DX.apart (X : DX C H0 H p dx pl kp tk gv tks gvs ta ga s) {b : Addr} (hb : b ∈ ta ++ ga) : p ≠ b ∧ pl ≠ b ∧ kp ≠ b ∧ tk ≠ b ∧ gv ≠ b := by
  have n := List.nodup_cons.mp X.nd
  have m := List.nodup_cons.mp n.2
  obtain ⟨ns, hl⟩ : ∃ ns, H b = some (.lst ns) := by
    rcases List.mem_append.mp hb with h | h
    · exact ents_lst X.et h
    · exact ents_lst X.eg h
  exact ⟨lst_ne_ins hl X.ob, fun z => n.1 (by rw [z]; exact List.mem_cons_of_mem _ hb), fun z => m.1 (by rw [z]; exact hb), lst_ne_dk hl X.ht, lst_ne_dk hl X.hg⟩
theorem DX.took (X : DX C H0 H p dx pl kp tk gv tks gvs ta ga s) {t : Str} {b : Addr} (ns : List Int) (hv : valV tks (Sum.inr t : Key) = some (.ref b)) (hb : b ∈ ta) :
    DX C H0 (upd H b (.lst (ns.map V.int))) p dx pl kp tk gv tks gvs ta ga { s with taken := stE s.taken t ns } := by
  obtain ⟨a1, a2, a3, a4, a5⟩ := X.apart (List.mem_append_left ga hb)
  have n := (List.nodup_cons.mp (List.nodup_cons.mp X.nd).2).2
  obtain ⟨n1, n2, n3⟩ := List.nodup_append.mp n
  refine ⟨?_, ?_, ?_, ?_, ?_, ents_set X.et n1 X.kt hv, ?_, X.nd, X.ntg, ?_, X.kg, X.fr, same_mut X.sm (X.fr.2.2.2.2.2 b (List.mem_append_left _ hb))⟩
  · rw [upd_ne a1]; exact X.ob
  · rw [upd_ne a2]; exact X.hp
  · rw [upd_ne a3]; exact X.hk
  · rw [upd_ne a4]; exact X.ht
  · rw [upd_ne a5]; exact X.hg
  · refine ents_mono X.eg fun a ha o h => ?_
    rw [upd_ne (fun z => n3 b hb a ha z.symm)]; exact h
  · show ((stE s.taken t ns).map (·.1)).Nodup
    rw [stE_keys]; exact X.kt
theorem DX.gave (X : DX C H0 H p dx pl kp tk gv tks gvs ta ga s) {t : Str} {b : Addr} (ns : List Int) (hv : valV gvs (Sum.inr t : Key) = some (.ref b)) (hb : b ∈ ga) :
    DX C H0 (upd H b (.lst (ns.map V.int))) p dx pl kp tk gv tks gvs ta ga { s with given := stE s.given t ns } := by
  obtain ⟨a1, a2, a3, a4, a5⟩ := X.apart (List.mem_append_right ta hb)
  have n := (List.nodup_cons.mp (List.nodup_cons.mp X.nd).2).2
  obtain ⟨n1, n2, n3⟩ := List.nodup_append.mp n
  refine ⟨?_, ?_, ?_, ?_, ?_, ?_, ents_set X.eg n2 X.kg hv, X.nd, X.ntg, X.kt, ?_, X.fr, same_mut X.sm (X.fr.2.2.2.2.2 b (List.mem_append_right _ hb))⟩
  · rw [upd_ne a1]; exact X.ob
  · rw [upd_ne a2]; exact X.hp
  · rw [upd_ne a3]; exact X.hk
  · rw [upd_ne a4]; exact X.ht
  · rw [upd_ne a5]; exact X.hg
  · refine ents_mono X.et fun a ha o h => ?_
    rw [upd_ne (fun z => n3 a ha b hb z)]; exact h
  · show ((stE s.given t ns).map (·.1)).Nodup
    rw [stE_keys]; exact X.kg
/-- a tray that was not given into: its list, at b, is new -/
theorem DX.gave0 (X : DX C H0 H p dx pl kp tk gv tks gvs ta ga s) {t : Str} {b : Addr} (ns : List Int) (hv : lk s.given t = none) (hb : H b = none) :
    DX C H0 (upd (upd H b (.lst (ns.map V.int))) gv (.dK (putK gvs (Sum.inr t) (.ref b)))) p dx pl kp tk gv tks (gvs ++ [(Sum.inr t, .ref b)]) ta (ga ++ [b]) { s with given := s.given ++ [(t, ns)] } := by
  have hv2 : valV gvs (Sum.inr t : Key) = none := (ents_none X.eg).mpr hv
  have eb : ∀ a o, H a = some o → a ≠ b := fun a o h => ne_of_none h hb
  have nb : ∀ a ∈ ta ++ ga, a ≠ b := fun a ha => by
    rcases List.mem_append.mp ha with h | h
    · obtain ⟨ns, hl⟩ := ents_lst X.et h
      exact eb a _ hl
    · obtain ⟨ns, hl⟩ := ents_lst X.eg h
      exact eb a _ hl
  have ng : ∀ a ∈ ta ++ ga, a ≠ gv := fun a ha => (X.apart ha).2.2.2.2.symm
  have nbg : b ≠ gv := (eb gv _ X.hg).symm
  have hb0 : H0 b = none := X.sm.free hb
  have keep : ∀ a o, a ≠ gv → H a = some o → (upd (upd H b (.lst (ns.map V.int))) gv (.dK (putK gvs (Sum.inr t) (.ref b)))) a = some o := fun a o h1 h2 => by
    rw [upd_ne h1, upd_ne (eb a o h2)]
    exact h2
  refine ⟨keep _ _ (ins_ne_dk X.hg X.ob) X.ob, keep _ _ (lst_ne_dk X.hp X.hg).symm X.hp, keep _ _ (lst_ne_dk X.hk X.hg).symm X.hk, keep _ _ X.ntg X.ht, ?_, ents_mono X.et fun a ha o h => keep a o (ng a (List.mem_append_left _ ha)) h, ?_, ?_, X.ntg, X.kt, ?_, ?_, ?_⟩
  · rw [upd_same, putK_new _ hv2]
  · refine ents_snoc ?_ (ents_mono X.eg fun a ha o h => keep a o (ng a (List.mem_append_right _ ha)) h)
    rw [upd_ne nbg, upd_same]
  · have e : pl :: kp :: (ta ++ (ga ++ [b])) = (pl :: kp :: (ta ++ ga)) ++ [b] := by
      simp only [List.cons_append, List.append_assoc]
    rw [e, List.nodup_append]
    refine ⟨X.nd, by simp, fun a ha c hc => ?_⟩
    rw [List.mem_singleton.mp hc]
    rcases List.mem_cons.mp ha with rfl | ha
    · exact eb _ _ X.hp
    · rcases List.mem_cons.mp ha with rfl | ha
      · exact eb _ _ X.hk
      · exact nb a ha
  · have := pushE_nd (t := t) (x := 0) X.kg
    unfold pushE at this
    rw [hv] at this
    rw [List.map_append] at this ⊢
    exact this
  · refine ⟨X.fr.1, X.fr.2.1, X.fr.2.2.1, X.fr.2.2.2.1, X.fr.2.2.2.2.1, fun a ha => ?_⟩
    rcases List.mem_append.mp ha with h | h
    · exact X.fr.2.2.2.2.2 a (List.mem_append_left _ h)
    · rcases List.mem_append.mp h with h | h
      · exact X.fr.2.2.2.2.2 a (List.mem_append_right _ h)
      · rw [List.mem_singleton.mp h]
        exact hb0
  · exact same_mut (same_mut X.sm hb0) X.fr.2.2.2.2.1
end
end Tw

/-! Doing's methods, but for those that walk dicts -/
namespace Tw
open PySem PySem.Spec PyProof.Rows L2
abbrev sReckoned : Stmt := topS 6
abbrev sDoInit : Stmt := inClass (topS 7) 0
abbrev sDoAct : Stmt := inClass (topS 7) 1
abbrev sComeOn : Stmt := inClass (topS 7) 2
abbrev sGoOff : Stmt := inClass (topS 7) 3
abbrev sReckon : Stmt := inClass (topS 7) 4
abbrev sTold : Stmt := inClass (topS 7) 5
theorem scReckoned : FnScope ["word", "a", "b"] ["word", "a", "b"] (defScope sReckoned) := ⟨rfl, rfl, rfl, by decide +kernel, rfl, by decide +kernel, by decide +kernel⟩
theorem scDoAct : FnScope ["self", "act", "word", "rest"] ["self", "act"] (defScope sDoAct) := ⟨rfl, rfl, rfl, by decide +kernel, rfl, by decide +kernel, by decide +kernel⟩
theorem scComeOn : FnScope ["self", "word", "thing"] ["self", "word", "thing"] (defScope sComeOn) := ⟨rfl, rfl, rfl, by decide +kernel, rfl, by decide +kernel, by decide +kernel⟩
theorem scGoOff : FnScope ["self", "word", "thing", "number"] ["self", "word", "thing"] (defScope sGoOff) := ⟨rfl, rfl, rfl, by decide +kernel, rfl, by decide +kernel, by decide +kernel⟩
theorem scReckon : FnScope ["self", "word", "pile", "b", "a", "c"] ["self", "word"] (defScope sReckon) := ⟨rfl, rfl, rfl, by decide +kernel, rfl, by decide +kernel, by decide +kernel⟩
/-- the constants of the top -/
structure Cst (mg : Str → Option Value) : Prop where
  TAKE : ∃ t, mg "TAKE" = some (.str "take" t)
  GIVE : ∃ t, mg "GIVE" = some (.str "give" t)
  KEEP : ∃ t, mg "KEEP" = some (.str "keep" t)
  KEPT : ∃ t, mg "KEPT" = some (.str "kept" t)
  WIDE : ∃ t, mg "WIDE" = some (.int 1000000 t)
/-- the class Doing as the top has made it -/
structure TD (K : PySem.W.Frag) (mg : Str → Option Value) (C : Addr) : Prop where
  cl : Cls K C
  n1 : NoAttr K C "own_pile"
  n2 : NoAttr K C "own_kept"
  n3 : NoAttr K C "own_taken"
  n4 : NoAttr K C "own_given"
  mgC : mg "Doing" = some (.ref C)
/-- a method of the class, with its promise -/
structure MCal (P : Program) (w : World) (K : PySem.W.Frag) (mg : Str → Option Value) (base : Heap) (C : Addr) (m : Str) (k : Nat) (ps : List Str) (sp : Sp) : Prop where
  ex : ∃ (f : Addr) (fd : FuncData), FnOk P w K mg base CX0 k f fd ps sp ∧ Meth K C m f ∧ Binds K fd ps []
section
variable {X : Cx}
theorem rev_last {b : Int} {r : List Int} : ((b :: r).reverse.map V.int)[((b :: r).reverse.map V.int).length - 1]? = some (.int b) := by
  rw [List.reverse_cons, List.map_append, List.length_append, List.map_singleton, List.length_singleton, Nat.add_sub_cancel, List.getElem?_append_right (Nat.le_refl _), Nat.sub_self]
  rfl
theorem rev_drop {b : Int} {r : List Int} : ((b :: r).reverse.map V.int).dropLast = r.reverse.map V.int := by
  rw [List.reverse_cons, List.map_append, List.map_singleton, List.dropLast_concat]
theorem rev_app {b : Int} {r : List Int} : r.reverse.map V.int ++ [.int b] = (b :: r).reverse.map V.int := by
  rw [List.reverse_cons, List.map_append, List.map_singleton]
def rPopR : V → List V → Hp → VK → Prop := fun x vs H Q => ∃ (l : Addr) (b : Int) (r : List Int), x = .ref l ∧ vs = [] ∧ H l = some (.lst ((b :: r).reverse.map V.int)) ∧ Q (.int b) (upd H l (.lst (r.reverse.map V.int)))
theorem mt_popR : MtR X "list.pop" rPopR := fun pins s σ H x vs v us Q I rx rv h => by
  obtain ⟨l, b, r, e1, e2, h1, q⟩ := h
  exact mt_pop pins s σ H x vs v us Q I rx rv ⟨l, _, .int b, e1, e2, h1, rev_last, by rw [rev_drop]; exact q⟩
def rAppR : V → List V → Hp → VK → Prop := fun x vs H Q => ∃ (l : Addr) (b : Int) (r : List Int), x = .ref l ∧ vs = [.int b] ∧ H l = some (.lst (r.reverse.map V.int)) ∧ r.length ≤ 10000 ∧ Q .non (upd H l (.lst ((b :: r).reverse.map V.int)))
theorem mt_appR : MtR X "list.append" rAppR := fun pins s σ H x vs v us Q I rx rv h => by
  obtain ⟨l, b, r, e1, e2, h1, hz, q⟩ := h
  refine mt_append pins s σ H x vs v us Q I rx rv ⟨l, _, .int b, e1, e2, h1, ?_, by rw [rev_app]; exact q⟩
  rw [List.length_map, List.length_reverse]
  exact Nat.lt_of_le_of_lt hz (by decide)
def rExtR : V → List V → Hp → VK → Prop := fun x vs H Q => ∃ (l q : Addr) (b a : Int) (r : List Int), x = .ref l ∧ vs = [.ref q] ∧ H l = some (.lst (r.reverse.map V.int)) ∧ H q = some (.lst [.int a, .int b]) ∧ r.length ≤ 10000 ∧ Q .non (upd H l (.lst ((b :: a :: r).reverse.map V.int)))
theorem mt_extR : MtR X "list.extend" rExtR := fun pins s σ H x vs v us Q I rx rv h => by
  obtain ⟨l, qa, b, a, r, e1, e2, h1, h2, hz, q⟩ := h
  refine mt_extend pins s σ H x vs v us Q I rx rv ⟨l, qa, _, _, e1, e2, h1, h2, ?_, ?_⟩
  · rw [List.length_map, List.length_reverse]
    show r.length + 2 ≤ sizeLine
    have : sizeLine = 16777216 := rfl
    omega
  · have e : r.reverse.map V.int ++ [.int a, .int b] = (b :: a :: r).reverse.map V.int := by
      rw [← rev_app, ← rev_app, List.append_assoc]
      rfl
    rw [e]
    exact q
end
/-! ### promises -/
def DAt (C : Addr) (H0 H : Hp) (p : Addr) (s : DS) : Prop := ∃ dx pl kp tk gv tks gvs ta ga, DX C H0 H p dx pl kp tk gv tks gvs ta ga s
def actV : Act → List V
  | .take t => [.str "take", .str t] | .give t => [.str "give", .str t] | .num n => [.str "number", .int n] | .keep k => [.str "keep", .int (k : Int)] | .kept k => [.str "kept", .int (k : Int)] | .wrd w => [.str w]
def words8 : List Str := ["plus", "less", "times", "below", "twice", "swap", "drop", "pick"]
def actOk : Act → Prop
  | .wrd w => w ∈ words8
  | .num n => it n
  | _ => True
theorem actOk.good {a : Act} (h : actOk a) : ActGood a := by
  cases a with
  | num n => exact h
  | _ => trivial
def ActV (K : PySem.W.Frag) (H : Hp) (v : V) (a : Act) : Prop := ∃ q, v = .ref q ∧ SqT K H q (actV a)
def spReckoned : Sp := fun vs H Q _ => ∃ (w : Str) (a b n : Int), vs = [.str w, .int a, .int b] ∧ it a ∧ it b ∧ reck w a b = some n ∧ ∀ H', Same H H' → Q (.int n) H'
def spReckon (C : Addr) : Sp := fun vs H Q _ => ∃ (H0 : Hp) (p dx pl kp tk gv : Addr) (tks gvs : List (Key × V)) (ta ga : List Addr) (s : DS) (w : Str) (q : List Int), vs = [.ref p, .str w] ∧ DX C H0 H p dx pl kp tk gv tks gvs ta ga s ∧ (∀ x ∈ s.pile, it x) ∧ s.pile.length ≤ 5000 ∧
  wstep w s.pile = some q ∧ ∀ H', DX C H0 H' p dx pl kp tk gv tks gvs ta ga { s with pile := q } → Q .non H'
/-- what comes on: word, thing, the number, the trays behind it -/
def Comes (s : DS) (w : Str) (v : V) (n : Int) (tk : List (Str × List Int)) : Prop :=
  (w = "take" ∧ ∃ t r, v = .str t ∧ lk s.taken t = some (n :: r) ∧ tk = stE s.taken t r) ∨ (w = "number" ∧ v = .int n ∧ tk = s.taken) ∨ (w = "kept" ∧ ∃ k : Nat, v = .int (k : Int) ∧ s.kept[k]? = some n ∧ tk = s.taken)
def spComeOn (C : Addr) : Sp := fun vs H Q _ => ∃ (H0 : Hp) (p dx pl kp tk gv : Addr) (tks gvs : List (Key × V)) (ta ga : List Addr) (s : DS) (w : Str) (v : V) (n : Int) (tn : List (Str × List Int)), vs = [.ref p, .str w, v] ∧ DX C H0 H p dx pl kp tk gv tks gvs ta ga s ∧
  Comes s w v n tn ∧ ∀ H', DX C H0 H' p dx pl kp tk gv tks gvs ta ga { s with taken := tn } → Q (.int n) H'
def spGoOff (C : Addr) : Sp := fun vs H Q _ => ∃ (H0 : Hp) (p : Addr) (s : DS) (w : Str) (v : V) (x : Int) (r : List Int), vs = [.ref p, .str w, v] ∧ DAt C H0 H p s ∧ s.Bnd 5000 ∧ s.pile = x :: r ∧
  ((w = "give" ∧ ∃ t, v = .str t ∧ ∀ H', DAt C H0 H' p { s with pile := r, given := pushE s.given t x } → Q .non H') ∨
   (w = "keep" ∧ ∃ k : Nat, v = .int (k : Int) ∧ k < s.kept.length ∧ ∀ H', DAt C H0 H' p { s with pile := r, kept := s.kept.set k x } → Q .non H'))
def spDoAct (K : PySem.W.Frag) (C : Addr) : Sp := fun vs H Q _ => ∃ (H0 : Hp) (p : Addr) (v : V) (s s' : DS) (a : Act), vs = [.ref p, v] ∧ DAt C H0 H p s ∧ ActV K H v a ∧ actOk a ∧ s.Good ∧ s.Bnd 5000 ∧ step s a = some s' ∧ ∀ H', DAt C H0 H' p s' → Q .non H'
section
variable {P : Program} {w : World} {K : PySem.W.Frag} {mg : Str → Option Value} {base : Heap}
theorem ok_reckoned {f : Addr} {fd : FuncData} {k : Nat} (c : Cst mg) (F : Fun K "reckoned" "reckoned" sReckoned f fd) : FnOk P w K mg base CX0 (k + 1) f fd ["word", "a", "b"] spReckoned := by
  refine F.ok scReckoned (fun vs H Q E h => ?_) (fun cdv A outer s H vs Q E hr h => ?_)
  · obtain ⟨w, a, b, n, rfl, _⟩ := h
    rfl
  · obtain ⟨w, a, b, n, rfl, ha, hb, hn, q⟩ := h
    obtain ⟨tw, cW⟩ := c.WIDE
    refine ⟨_, (pss_cons (ps_if (pt_cmpR op_eq (pv 0) pe_str (nomark _))
    (pss_one (ps_ret (pe_ifExp (pt_cmpR op_lt (pv 1) (pv 2) (nomark _)) pe_int pe_int)))
    pss_nil)
  (pss_one (ps_ret (pe_op op_mod (pe_dget (hu_of hr) (pe_disp (pps_cons pe_str (pe_op op_add (pv 1) (pv 2)) (pps_cons pe_str (pe_op op_sub (pv 1) (pv 2)) (pps_cons pe_str (pe_op op_mul (pv 1) (pv 2)) pps_nil))) (by rfl) (by rfl) (fun z => by cases z) (by decide)) (pv 0) (fun _ _ => rfl)) (pe_glob (v := .int 1000000) rfl cW ⟨_, rfl⟩))))), ?_⟩
    unfold reck at hn
    refine ⟨_, rfl, rfl, _, rfl, ite2 (fun e => ?_) (fun e => ?_)⟩
    · have e1 : w = "below" := V.str.inj (of_decide_eq_true e)
      rw [if_pos e1] at hn
      cases hn
      refine ⟨_, rfl, _, rfl, _, _, rfl, rfl, _, rfl, ite2 (fun h1 => ?_) (fun h1 => ?_)⟩
      · rw [if_pos (of_decide_eq_true h1)] at q
        exact q H (Same.refl H)
      · rw [if_neg (fun z => h1 (decide_eq_true z))] at q
        exact q H (Same.refl H)
    · have e1 : ¬ w = "below" := fun z => e (decide_eq_true (congrArg V.str z))
      rw [if_neg e1] at hn
      intro d nd
      have cm : CMul a b := .inl ⟨by have := ha.1; omega, by have := ha.2; omega⟩
      refine ⟨_, rfl, _, rfl, _, _, rfl, rfl, _, rfl, _, rfl, _, _, rfl, rfl, _, rfl, _, rfl, _, _, rfl, rfl, cm, upd_same, [(Sum.inr "plus", .int (a + b)), (Sum.inr "less", .int (a - b)), (Sum.inr "times", .int (a * b))], rfl, (by show 3 ≤ 15; decide), ?_⟩
      have sm : Same H (upd (upd H d (.dK [])) d (.dK (mergeK [] [(Sum.inr "plus", .int (a + b)), (Sum.inr "less", .int (a - b)), (Sum.inr "times", .int (a * b))]))) := same_mut (same_new nd) nd
      by_cases e2 : w = "plus"
      · rw [if_pos e2] at hn
        cases hn
        subst e2
        refine ⟨_, rfl, d, .int (a + b), rfl, DGet.k (k := Sum.inr "plus") upd_same, _, _, rfl, rfl, (show (0 : Int) < _ by decide), q _ sm⟩
      · rw [if_neg e2] at hn
        by_cases e3 : w = "less"
        · rw [if_pos e3] at hn
          cases hn
          subst e3
          refine ⟨_, rfl, d, .int (a - b), rfl, DGet.k (k := Sum.inr "less") upd_same, _, _, rfl, rfl, (show (0 : Int) < _ by decide), q _ sm⟩
        · rw [if_neg e3] at hn
          by_cases e4 : w = "times"
          · rw [if_pos e4] at hn
            cases hn
            subst e4
            refine ⟨_, rfl, d, .int (a * b), rfl, DGet.k (k := Sum.inr "times") upd_same, _, _, rfl, rfl, (show (0 : Int) < _ by decide), q _ sm⟩
          · rw [if_neg e4] at hn
            cases hn
theorem ok_reckon {f C : Addr} {fd : FuncData} {k j : Nat} (T : TD K mg C) (Creckoned : Cal P w K mg base "reckoned" j ["word", "a", "b"] spReckoned) (hj : j ≤ k) (F : Fun K "reckon" "Doing.reckon" sReckon f fd) : FnOk P w K mg base CX0 (k + 1) f fd ["self", "word"] (spReckon C) := by
  refine F.ok scReckon (fun vs H Q E h => ?_) (fun cdv A outer s H vs Q E hr h => ?_)
  · obtain ⟨H0, p, dx, pl, kp, tk, gv, tks, gvs, ta, ga, s, w, q, rfl, _⟩ := h
    rfl
  · obtain ⟨H0, p, dx, pl, kp, tk, gv, tks, gvs, ta, ga, s, w, qs, rfl, X, hit, hlen, hw, q⟩ := h
    refine ⟨_, (pss_cons (ps_set (i := 2) scReckon.nd rfl (Or.inl rfl) (pe_fld (pv 0) rfl))
  (pss_cons (ps_set (i := 3) scReckon.nd rfl (Or.inl rfl) (pe_bm0 PySem.F.plainAttrs_list PySem.F.slot_list_pop PySem.F.type_list_pop mt_popR (pv 2)))
  (pss_cons (ps_if (pt_cmpR op_eq (pv 1) pe_str (nomark _))
    (pss_one ps_retN)
    pss_nil)
  (pss_cons (ps_if (pt_cmpR op_eq (pv 1) pe_str (nomark _))
    (pss_cons (ps_expr (pe_bm PySem.F.plainAttrs_list PySem.F.slot_list_extend PySem.F.type_list_extend mt_extR (pv 2) (pa_cons (pe_lst (pa_cons (pv 3) (pa_cons (pv 3) pa_nil))) pa_nil)))
    (pss_one ps_retN))
    pss_nil)
  (pss_cons (ps_set (i := 4) scReckon.nd rfl (Or.inl rfl) (pe_bm0 PySem.F.plainAttrs_list PySem.F.slot_list_pop PySem.F.type_list_pop mt_popR (pv 2)))
  (pss_one (ps_if (pt_cmpR op_eq (pv 1) pe_str (nomark _))
    (pss_one (ps_expr (pe_bm PySem.F.plainAttrs_list PySem.F.slot_list_extend PySem.F.type_list_extend mt_extR (pv 2) (pa_cons (pe_lst (pa_cons (pv 3) (pa_cons (pv 4) pa_nil))) pa_nil))))
    (pss_one (ps_if (pt_cmpR op_eq (pv 1) pe_str (nomark _))
      (pss_cons (ps_set (i := 5) scReckon.nd rfl (Or.inl rfl) (pe_bm0 PySem.F.plainAttrs_list PySem.F.slot_list_pop PySem.F.type_list_pop mt_popR (pv 2)))
      (pss_one (ps_expr (pe_bm PySem.F.plainAttrs_list PySem.F.slot_list_append PySem.F.type_list_append mt_appR (pv 2) (pa_cons (pe_ifExp (pt_cmpR op_ne (pv 5) pe_int (nomark _)) (pv 4) (pv 3)) pa_nil)))))
      (pss_one (ps_expr (pe_bm PySem.F.plainAttrs_list PySem.F.slot_list_append PySem.F.type_list_append mt_appR (pv 2) (pa_cons (pe_c Creckoned hr hj (ha := (pa_cons (pv 1) (pa_cons (pv 4) (pa_cons (pv 3) pa_nil))))) pa_nil))))))))))))), ?_⟩
    refine ⟨_, rfl, p, C, dx, _, _, rfl, X.ob, T.cl, T.n1, flds_pile, ?_⟩
    obtain ⟨pile, kept, taken, given⟩ := s
    dsimp only at hit hlen hw
    unfold wstep at hw
    cases pile with
    | nil =>
      split at hw
      · cases hw
      · split at hw
        · cases hw
        · split at hw
          · cases hw
          · split at hw <;> cases hw
    | cons b r =>
    have hp := X.hp
    refine ⟨_, rfl, .inl ⟨rfl, _, SqL.of hp⟩, pl, b, r, rfl, rfl, hp, ?_⟩
    have X1 := X.pile r
    rw [List.length_cons] at hlen
    refine ⟨_, rfl, rfl, _, rfl, ite2 (fun e => ?_) (fun e => ?_)⟩
    · have e1 : w = "drop" := V.str.inj (of_decide_eq_true e)
      rw [if_pos e1] at hw
      cases hw
      exact q _ X1
    · have e1 : ¬ w = "drop" := fun z => e (decide_eq_true (congrArg V.str z))
      rw [if_neg e1] at hw
      refine ⟨_, rfl, rfl, _, rfl, ite2 (fun e => ?_) (fun e => ?_)⟩
      · have e2 : w = "twice" := V.str.inj (of_decide_eq_true e)
        rw [if_pos e2] at hw
        cases hw
        refine ⟨_, rfl, .inl ⟨rfl, _, SqL.of X1.hp⟩, _, rfl, _, rfl, (by show 2 ≤ sizeLine; decide), fun qa nq => ?_⟩
        have X2 := X1.other (same_new (o := .lst [.int b, .int b]) nq)
        refine ⟨pl, qa, b, b, r, rfl, rfl, X2.hp, upd_same, by omega, ?_⟩
        exact q _ (X2.pile (b :: b :: r))
      · have e2 : ¬ w = "twice" := fun z => e (decide_eq_true (congrArg V.str z))
        rw [if_neg e2] at hw
        cases r with
        | nil =>
          split at hw
          · cases hw
          · split at hw <;> cases hw
        | cons a r =>
        rw [List.length_cons] at hlen
        refine ⟨_, rfl, .inl ⟨rfl, _, SqL.of X1.hp⟩, pl, a, r, rfl, rfl, X1.hp, ?_⟩
        have X2 := X1.pile r
        refine ⟨_, rfl, rfl, _, rfl, ite2 (fun e => ?_) (fun e => ?_)⟩
        · have e3 : w = "swap" := V.str.inj (of_decide_eq_true e)
          rw [if_pos e3] at hw
          cases hw
          refine ⟨_, rfl, .inl ⟨rfl, _, SqL.of X2.hp⟩, _, rfl, _, rfl, (by show 2 ≤ sizeLine; decide), fun qa nq => ?_⟩
          have X3 := X2.other (same_new (o := .lst [.int b, .int a]) nq)
          refine ⟨pl, qa, a, b, r, rfl, rfl, X3.hp, upd_same, by omega, ?_⟩
          exact q _ (X3.pile (a :: b :: r))
        · have e3 : ¬ w = "swap" := fun z => e (decide_eq_true (congrArg V.str z))
          rw [if_neg e3] at hw
          refine ⟨_, rfl, rfl, _, rfl, ite2 (fun e => ?_) (fun e => ?_)⟩
          · have e4 : w = "pick" := V.str.inj (of_decide_eq_true e)
            rw [if_pos e4] at hw
            cases r with
            | nil => cases hw
            | cons cc r =>
            rw [List.length_cons] at hlen
            cases hw
            refine ⟨_, rfl, .inl ⟨rfl, _, SqL.of X2.hp⟩, pl, cc, r, rfl, rfl, X2.hp, ?_⟩
            have X3 := X2.pile r
            refine ⟨_, rfl, .inl ⟨rfl, _, SqL.of X3.hp⟩, _, rfl, rfl, _, rfl, ite2 (fun h0 => ?_) (fun h0 => ?_)⟩
            · have hc : cc ≠ 0 := fun z => by
                rw [z] at h0
                exact absurd h0 (by decide)
              refine ⟨_, rfl, pl, a, r, rfl, rfl, X3.hp, by omega, ?_⟩
              rw [if_pos hc] at q
              exact q _ (X3.pile (a :: r))
            · have hc : ¬ cc ≠ 0 := fun z => h0 (by rw [decide_eq_false (fun y => z (V.int.inj y))]; rfl)
              refine ⟨_, rfl, pl, b, r, rfl, rfl, X3.hp, by omega, ?_⟩
              rw [if_neg hc] at q
              exact q _ (X3.pile (b :: r))
          · have e4 : ¬ w = "pick" := fun z => e (decide_eq_true (congrArg V.str z))
            rw [if_neg e4] at hw
            have hw : Option.map (· :: r) (reck w a b) = some qs := hw
            cases er : reck w a b with
            | none =>
              rw [er] at hw
              cases hw
            | some n =>
            rw [er] at hw
            cases hw
            refine ⟨_, rfl, .inl ⟨rfl, _, SqL.of X2.hp⟩, _, rfl, _, rfl, _, rfl, w, a, b, n, rfl, hit _ (List.mem_cons_of_mem _ List.mem_cons_self), hit _ List.mem_cons_self, er, fun H3 s3 => ?_⟩
            have X3 := X2.other s3
            refine ⟨pl, n, r, rfl, rfl, X3.hp, by omega, ?_⟩
            exact q _ (X3.pile (n :: r))
theorem ok_come_on {f C : Addr} {fd : FuncData} {k : Nat} (T : TD K mg C) (c : Cst mg) (F : Fun K "come_on" "Doing.come_on" sComeOn f fd) : FnOk P w K mg base CX0 (k + 1) f fd ["self", "word", "thing"] (spComeOn C) := by
  refine F.ok scComeOn (fun vs H Q E h => ?_) (fun cdv A outer s H vs Q E hr h => ?_)
  · obtain ⟨H0, p, dx, pl, kp, tk, gv, tks, gvs, ta, ga, s, w, v, n, tn, rfl, _⟩ := h
    rfl
  · obtain ⟨H0, p, dx, pl, kp, tk, gv, tks, gvs, ta, ga, s, w, v, n, tn, rfl, X, hc, q⟩ := h
    obtain ⟨t1, cT⟩ := c.TAKE
    refine ⟨_, (pss_cons (ps_if (pt_cmpR op_eq (pv 1) (pe_glob (v := .str "take") rfl cT ⟨_, rfl⟩) (nomark _))
    (pss_one (ps_ret (pe_bm PySem.F.plainAttrs_list PySem.F.slot_list_pop PySem.F.type_list_pop mt_popAt (pe_dget (hu_of hr) (pe_fld (pv 0) rfl) (pv 2) (fun _ _ => rfl)) (pa_cons pe_int pa_nil))))
    pss_nil)
  (pss_one (ps_ret (pe_ifExp (pt_cmpR op_eq (pv 1) pe_str (nomark _)) (pv 2) (pe_ix ix_list (pe_fld (pv 0) rfl) (pv 2) (fun _ _ => rfl)))))), ?_⟩
    rcases hc with ⟨rfl, t, r, rfl, hl, rfl⟩ | ⟨rfl, rfl, rfl⟩ | ⟨rfl, j, rfl, hk, rfl⟩
    · obtain ⟨b, h1, h2, h3⟩ := ents_get X.et hl
      refine ⟨_, rfl, rfl, _, rfl, iteT ?_⟩
      refine ⟨_, rfl, p, C, dx, _, _, rfl, X.ob, T.cl, T.n3, flds_taken, _, rfl, tk, .ref b, rfl, ?_, .inl ⟨rfl, _, SqL.of h3⟩, b, _, 0, 0, .int n, rfl, rfl, h3, by decide, by decide, (ixN_seq (Evl.ixN_nat (n := (List.map V.int (n :: r)).length) (j := 0) (Nat.succ_pos _))).1, rfl, ?_⟩
      · have := DGet.k (k := Sum.inr t) X.ht
        rw [h1] at this
        exact this
      · exact q _ (X.took r h1 h2)
    · refine ⟨_, rfl, rfl, _, rfl, iteF ?_⟩
      refine ⟨_, rfl, rfl, _, rfl, iteT ?_⟩
      exact ⟨_, rfl, q _ X⟩
    · refine ⟨_, rfl, rfl, _, rfl, iteF ?_⟩
      refine ⟨_, rfl, rfl, _, rfl, iteF ?_⟩
      refine ⟨_, rfl, p, C, dx, _, _, rfl, X.ob, T.cl, T.n2, flds_kept, _, rfl, kp, _, (j : Int), .int n, rfl, rfl, SqL.of X.hk, atI_nat ?_, q _ X⟩
      rw [List.getElem?_map, hk]
      rfl
theorem ok_go_off {f C : Addr} {fd : FuncData} {k : Nat} (T : TD K mg C) (c : Cst mg) (F : Fun K "go_off" "Doing.go_off" sGoOff f fd) : FnOk P w K mg base CX0 (k + 1) f fd ["self", "word", "thing"] (spGoOff C) := by
  refine F.ok scGoOff (fun vs H Q E h => ?_) (fun cdv A outer s H vs Q E hr h => ?_)
  · obtain ⟨H0, p, s, w, v, x, r, rfl, _⟩ := h
    rfl
  · obtain ⟨H0, p, s, w, v, x, r, rfl, ⟨dx, pl, kp, tk, gv, tks, gvs, ta, ga, X⟩, hb, hp, hw⟩ := h
    obtain ⟨t1, cG⟩ := c.GIVE
    refine ⟨_, (pss_cons (ps_set (i := 3) scGoOff.nd rfl (Or.inl rfl) (pe_bm0 PySem.F.plainAttrs_list PySem.F.slot_list_pop PySem.F.type_list_pop mt_popR (pe_fld (pv 0) rfl)))
  (pss_one (ps_if (pt_cmpR op_eq (pv 1) (pe_glob (v := .str "give") rfl cG ⟨_, rfl⟩) (nomark _))
    (pss_one (ps_expr (pe_bm PySem.F.plainAttrs_list PySem.F.slot_list_append PySem.F.type_list_append mt_append (pe_dsetd (pe_fld (pv 0) rfl) (pv 2) (pe_lst pa_nil) ⟨rfl, rfl, rfl, rfl⟩) (pa_cons (pv 3) pa_nil))))
    (pss_one (ps_asg (pv 3) (pg_sub (pe_fld (pv 0) rfl) (pv 2) set_list)))))), ?_⟩
    have h1 := X.hp
    rw [hp] at h1
    refine ⟨_, rfl, p, C, dx, _, _, rfl, X.ob, T.cl, T.n1, flds_pile, .inl ⟨rfl, _, SqL.of h1⟩, pl, x, r, rfl, rfl, h1, ?_⟩
    have X1 := X.pile r
    rcases hw with ⟨rfl, t, rfl, q⟩ | ⟨rfl, j, rfl, hj, q⟩
    · refine ⟨_, rfl, rfl, _, rfl, iteT ?_⟩
      refine ⟨_, rfl, p, C, dx, _, _, rfl, X1.ob, T.cl, T.n4, flds_given, gv, rfl, .inl ⟨_, .inl X1.hg⟩, _, rfl, Nat.zero_le _, fun z nz => ?_⟩
      have X2 := X1.other (same_new (o := .lst []) nz)
      refine ⟨gvs, Sum.inr t, X2.hg, rfl, ?_, fun v hv => ?_, fun hv => ?_⟩
      · rw [(ents_len X.eg).1]
        exact Nat.lt_of_le_of_lt hb.g (by decide)
      · cases hl : lk s.given t with
        | none =>
          rw [(ents_none X.eg).mpr hl] at hv
          cases hv
        | some ns =>
        obtain ⟨b, g1, g2, g3⟩ := ents_get X2.eg (show lk s.given t = some ns from hl)
        rw [g1] at hv
        cases hv
        have hz : (ns.map V.int).length < sizeLine := by
          rw [List.length_map]
          exact Nat.lt_of_le_of_lt (hb.e _ (lk_mem hl)) (by decide)
        refine ⟨.inl ⟨rfl, _, SqL.of g3⟩, _, rfl, b, _, _, rfl, rfl, g3, hz, ?_⟩
        refine q _ ⟨dx, pl, kp, tk, gv, tks, gvs, ta, ga, ?_⟩
        have X3 := X2.gave (ns ++ [x]) g1 g2
        unfold pushE
        rw [hl]
        rw [List.map_append, List.map_singleton] at X3
        exact X3
      · have hl : lk s.given t = none := (ents_none X.eg).mp hv
        have nzg : z ≠ gv := fun e => by
          rw [e, X1.hg] at nz
          cases nz
        have g3 : (upd (upd (upd H pl (.lst (r.reverse.map V.int))) z (.lst [])) gv (.dK (putK gvs (Sum.inr t) (.ref z)))) z = some (.lst []) := by
          rw [upd_ne nzg, upd_same]
        refine ⟨.inl ⟨rfl, _, SqL.of g3⟩, _, rfl, z, _, _, rfl, rfl, g3, by decide, ?_⟩
        refine q _ ⟨dx, pl, kp, tk, gv, tks, gvs ++ [(Sum.inr t, .ref z)], ta, ga ++ [z], ?_⟩
        have X3 := X1.gave0 (t := t) [x] hl nz
        unfold pushE
        rw [hl]
        have e : upd (upd (upd (upd H pl (.lst (r.reverse.map V.int))) z (.lst [])) gv (.dK (putK gvs (Sum.inr t) (.ref z)))) z (.lst ([] ++ [.int x])) = upd (upd (upd H pl (.lst (r.reverse.map V.int))) z (.lst (([x] : List Int).map V.int))) gv (.dK (putK gvs (Sum.inr t) (.ref z))) := by
          funext b
          by_cases b1 : b = z
          · subst b1
            rw [upd_same, upd_ne nzg, upd_same]
            rfl
          · rw [upd_ne b1]
            by_cases b2 : b = gv
            · subst b2
              rw [upd_same, upd_same]
            · rw [upd_ne b2, upd_ne b1, upd_ne b2, upd_ne b1]
        rw [e]
        exact X3
    · refine ⟨_, rfl, rfl, _, rfl, iteF ?_⟩
      refine ⟨_, rfl, _, rfl, p, C, dx, _, _, rfl, X1.ob, T.cl, T.n2, flds_kept, _, rfl, kp, _, (j : Int), j, rfl, rfl, X1.hk, ?_, ?_⟩
      · rw [List.length_map]
        exact Evl.ixN_nat hj
      · refine q _ ⟨dx, pl, kp, tk, gv, tks, gvs, ta, ga, ?_⟩
        have X2 := X1.keep (s.kept.set j x)
        rw [List.map_set] at X2
        exact X2
end
end Tw

/-! codes in which no act lacks numbers -/
namespace Tw
open PySem PySem.Spec PyProof.Rows L2
def needW (w : Str) : Nat := if w = "pick" then 3 else if w = "twice" ∨ w = "drop" then 1 else 2
def moreW (w : Str) : Int := if w = "twice" then 1 else if w = "swap" then 0 else if w = "pick" then -2 else -1
def needs : Act → Nat
  | .take _ => 0 | .give _ => 1 | .num _ => 0 | .keep _ => 1 | .kept _ => 0 | .wrd w => needW w
def more : Act → Int
  | .take _ => 1 | .give _ => -1 | .num _ => 1 | .keep _ => -1 | .kept _ => 1 | .wrd w => moreW w
/-- how many are on the pile behind the acts; none where one lacks -/
def lg : Nat → List Act → Option Nat
  | p, [] => some p
  | p, a :: r => if needs a ≤ p then lg ((p : Int) + more a).toNat r else none
theorem lg_snoc : ∀ (as : List Act) (p q : Nat) (a : Act), lg p as = some q → needs a ≤ q → lg p (as ++ [a]) = some ((q : Int) + more a).toNat
  | [], p, q, a, h, hn => by
    cases h
    show (if needs a ≤ p then _ else none) = _
    rw [if_pos hn]
    rfl
  | b :: r, p, q, a, h, hn => by
    have h' : (if needs b ≤ p then lg ((p : Int) + more b).toNat r else none) = some q := h
    show (if needs b ≤ p then lg ((p : Int) + more b).toNat (r ++ [a]) else none) = _
    by_cases c : needs b ≤ p
    · rw [if_pos c] at h' ⊢
      exact lg_snoc r _ q a h' hn
    · rw [if_neg c] at h'
      cases h'
/-- which places an act asks for -/
def plOk (n : Nat) : Act → Prop
  | .keep k => k < n
  | .kept k => k < n
  | _ => True
theorem more_ge {a : Act} (h : actOk a) : -(needs a : Int) ≤ more a := by
  cases a with
  | wrd w =>
    have hm : w ∈ words8 := h
    simp only [words8, List.mem_cons, List.not_mem_nil, or_false] at hm
    rcases hm with rfl | rfl | rfl | rfl | rfl | rfl | rfl | rfl <;> decide
  | take t => show -(0 : Int) ≤ 1; decide
  | give t => show -(1 : Int) ≤ -1; decide
  | num n => show -(0 : Int) ≤ 1; decide
  | keep k => show -(1 : Int) ≤ -1; decide
  | kept k => show -(0 : Int) ≤ 1; decide
/-- of a tray so many numbers are taken -/
def takesN (t : Str) : List Act → Nat
  | [] => 0
  | .take u :: r => (if u = t then 1 else 0) + takesN t r
  | _ :: r => takesN t r
theorem lk_stE (es : List (Str × List Int)) (t u : Str) (ns : List Int) : lk (stE es t ns) u = if u = t then (lk es u).map (fun _ => ns) else lk es u := by
  induction es with
  | nil => by_cases h : u = t <;> simp [stE, lk, h]
  | cons e r ih =>
    have e1 : stE (e :: r) t ns = (if e.1 = t then (e.1, ns) else e) :: stE r t ns := rfl
    rw [e1]
    by_cases h1 : e.1 = t
    · rw [if_pos h1]
      by_cases h2 : e.1 = u
      · have h3 : u = t := h2.symm.trans h1
        rw [if_pos h3]
        simp [lk, List.find?_cons, h2]
      · have h3 : ¬ u = t := fun z => h2 (h1.trans z.symm)
        rw [if_neg h3]
        rw [if_neg h3] at ih
        have l1 : lk ((e.1, ns) :: stE r t ns) u = lk (stE r t ns) u := by simp [lk, List.find?_cons, h2]
        have l2 : lk (e :: r) u = lk r u := by simp [lk, List.find?_cons, h2]
        rw [l1, l2, ih]
    · rw [if_neg h1]
      by_cases h2 : e.1 = u
      · have h3 : ¬ u = t := fun z => h1 (h2.trans z)
        rw [if_neg h3]
        simp [lk, List.find?_cons, h2]
      · have l1 : lk (e :: stE r t ns) u = lk (stE r t ns) u := by simp [lk, List.find?_cons, h2]
        have l2 : lk (e :: r) u = lk r u := by simp [lk, List.find?_cons, h2]
        rw [l1, l2, ih]
theorem wstep_some {w : Str} {p : List Int} (h : w ∈ words8) (hn : needW w ≤ p.length) : ∃ q, wstep w p = some q ∧ (q.length : Int) = (p.length : Int) + moreW w := by
  simp only [words8, List.mem_cons, List.not_mem_nil, or_false] at h
  rcases h with rfl | rfl | rfl | rfl | rfl | rfl | rfl | rfl
  · match p, hn with
    | b :: a :: r, _ => exact ⟨_, rfl, by simp only [List.length_cons]; show _ = _ + (-1 : Int); omega⟩
  · match p, hn with
    | b :: a :: r, _ => exact ⟨_, rfl, by simp only [List.length_cons]; show _ = _ + (-1 : Int); omega⟩
  · match p, hn with
    | b :: a :: r, _ => exact ⟨_, rfl, by simp only [List.length_cons]; show _ = _ + (-1 : Int); omega⟩
  · match p, hn with
    | b :: a :: r, _ => exact ⟨_, rfl, by simp only [List.length_cons]; show _ = _ + (-1 : Int); omega⟩
  · match p, hn with
    | b :: r, _ => exact ⟨_, rfl, by simp only [List.length_cons]; show _ = _ + (1 : Int); omega⟩
  · match p, hn with
    | b :: a :: r, _ => exact ⟨_, rfl, by simp only [List.length_cons]; show _ = _ + (0 : Int); omega⟩
  · match p, hn with
    | b :: r, _ => exact ⟨_, rfl, by simp only [List.length_cons]; show _ = _ + (-1 : Int); omega⟩
  · match p, hn with
    | b :: a :: c :: r, _ => exact ⟨_, rfl, by simp only [List.length_cons]; show _ = _ + (-2 : Int); omega⟩
/-- such a code can be done, where the trays have enough -/
theorem run_of_lg : ∀ (as : List Act) (s : DS) (q : Nat), lg s.pile.length as = some q → (∀ a ∈ as, actOk a) → (∀ a ∈ as, plOk s.kept.length a) → (∀ t, 0 < takesN t as → takesN t as ≤ ((lk s.taken t).getD []).length) → ∃ s', runA s as = some s' ∧ s'.pile.length = q ∧ s'.kept.length = s.kept.length
  | [], s, q, h, _, _, _ => by
    cases h
    exact ⟨s, rfl, rfl, rfl⟩
  | a :: r, s, q, h, ho, hp, ht => by
    have h' : (if needs a ≤ s.pile.length then lg ((s.pile.length : Int) + more a).toNat r else none) = some q := h
    by_cases c : needs a ≤ s.pile.length
    · rw [if_pos c] at h'
      have oka := ho a List.mem_cons_self
      have pla := hp a List.mem_cons_self
      have key : ∃ s1, step s a = some s1 ∧ (s1.pile.length : Int) = (s.pile.length : Int) + more a ∧ s1.kept.length = s.kept.length ∧ (∀ t, 0 < takesN t r → takesN t r ≤ ((lk s1.taken t).getD []).length) := by
        cases a with
        | take t =>
          have h1 := ht t (by show 0 < (if t = t then 1 else 0) + takesN t r; rw [if_pos rfl]; omega)
          have h1 : (if t = t then 1 else 0) + takesN t r ≤ ((lk s.taken t).getD []).length := h1
          rw [if_pos rfl] at h1
          cases hl : lk s.taken t with
          | none =>
            rw [hl] at h1
            simp at h1
          | some ns =>
            cases ns with
            | nil =>
              rw [hl] at h1
              simp at h1
            | cons x xs =>
              refine ⟨{ s with pile := x :: s.pile, taken := stE s.taken t xs }, by simp only [step, hl], by simp only [List.length_cons]; show _ = _ + (1 : Int); omega, rfl, fun u hu => ?_⟩
              have h2 : lk (stE s.taken t xs) u = _ := lk_stE s.taken t u xs
              show takesN u r ≤ ((lk (stE s.taken t xs) u).getD []).length
              rw [h2]
              by_cases e : u = t
              · subst e
                rw [if_pos rfl, hl]
                rw [hl] at h1
                simp at h1 ⊢
                omega
              · rw [if_neg e]
                have h3 : takesN u (.take t :: r) = takesN u r := by
                  show (if t = u then 1 else 0) + takesN u r = _
                  rw [if_neg (fun z => e z.symm)]
                  omega
                have := ht u (by rw [h3]; exact hu)
                rw [h3] at this
                exact this
        | num n => exact ⟨{ s with pile := n :: s.pile }, rfl, by simp only [List.length_cons]; show _ = _ + (1 : Int); omega, rfl, ht⟩
        | kept k =>
          have hk : k < s.kept.length := pla
          refine ⟨{ s with pile := s.kept[k] :: s.pile }, by simp only [step, List.getElem?_eq_getElem hk], by simp only [List.length_cons]; show _ = _ + (1 : Int); omega, rfl, ht⟩
        | give t =>
          have c' : 1 ≤ s.pile.length := c
          match hpile : s.pile, c' with
          | x :: rs, _ => exact ⟨{ s with pile := rs, given := pushE s.given t x }, by simp only [step, hpile], by simp only [List.length_cons]; show _ = _ + (-1 : Int); omega, rfl, ht⟩
        | keep k =>
          have hk : k < s.kept.length := pla
          have c' : 1 ≤ s.pile.length := c
          match hpile : s.pile, c' with
          | x :: rs, _ => exact ⟨{ s with pile := rs, kept := s.kept.set k x }, by simp only [step, hpile, if_pos hk], by simp only [List.length_cons]; show _ = _ + (-1 : Int); omega, List.length_set, ht⟩
        | wrd w =>
          obtain ⟨pq, e1, e2⟩ := wstep_some (p := s.pile) oka c
          exact ⟨{ s with pile := pq }, by simp only [step, e1], e2, rfl, ht⟩
      obtain ⟨s1, e1, e2, e3, e4⟩ := key
      have e5 : ((s.pile.length : Int) + more a).toNat = s1.pile.length := by omega
      rw [e5] at h'
      obtain ⟨s', r1, r2, r3⟩ := run_of_lg r s1 q h' (fun x hx => ho x (List.mem_cons_of_mem _ hx)) (fun x hx => by rw [e3]; exact hp x (List.mem_cons_of_mem _ hx)) e4
      refine ⟨s', ?_, r2, r3.trans e3⟩
      show (match step s a with | some s' => runA s' r | none => none) = some s'
      rw [e1]
      exact r1
    · rw [if_neg c] at h'
      cases h'
end Tw

/-! _law_some_act -/
namespace Tw
open PySem PySem.Spec PyProof.Rows L2
theorem scSomeAct : FnScope ["_law_tape_here", "_law_pile", "_law_places", "_law_some", "_law_word"] ["_law_tape_here", "_law_pile", "_law_places"] (defScope (topS 15)) := ⟨rfl, rfl, rfl, by decide +kernel, rfl, by decide +kernel, by decide +kernel⟩
def actMid : Act → Prop
  | .take _ => False | .give _ => False | _ => True
/-- a pair of an act that may come at such a pile, and the pile behind it -/
def GoodE (pile places : Nat) (H : Hp) (v : V) : Prop := ∃ q a act, v = .ref q ∧ H q = some (.tup [.ref a, .int ((pile : Int) + more act)]) ∧ H a = some (.tup (actV act)) ∧ actOk act ∧ actMid act ∧ needs act ≤ pile ∧ plOk places act
theorem goodE_mono {pile places : Nat} : ∀ H H' v, KpT H H' → GoodE pile places H v → GoodE pile places H' v := by
  rintro H H' v k ⟨q, a, act, e, h1, h2, r⟩
  exact ⟨q, a, act, e, kpT_tup k h1, kpT_tup k h2, r⟩
theorem goodE_mk {pile places : Nat} {H H' : Hp} {q a : Addr} {act : Act} {p' : Int} (s : Same H H') (h1 : H a = some (.tup (actV act))) (h2 : H' q = some (.tup [.ref a, .int p'])) (hp : p' = (pile : Int) + more act) (h3 : actOk act) (h4 : actMid act) (h5 : needs act ≤ pile) (h6 : plOk places act) : GoodE pile places H' (.ref q) := by
  subst hp
  exact ⟨q, a, act, rfl, h2, s _ _ h1, h3, h4, h5, h6⟩
def spSomeAct : Sp := fun vs H Q _ => ∃ (t : Addr) (pile places n : Nat), vs = [.ref t, .int (pile : Int), .int (places : Int)] ∧ pile ≤ 100000 ∧ places ≤ 100000 ∧ Tape H t (n + 6) ∧
  ∀ v H', Kp t H H' → Tape H' t n → GoodE pile places H' v → Q v H'
/-- the list under way -/
def SomeI (t : Addr) (pile places n : Nat) (H : Hp) (b c : Nat) (σ : L2.St) (H' : Hp) : Prop := ∃ (L : Addr) (xs : List V) (y : Option V), σ = [some (.ref t), some (.int (pile : Int)), some (.int (places : Int)), some (.ref L), y] ∧ Kp t H H' ∧ Tape H' t (n + c) ∧ H L = none ∧ H' L = some (.lst xs) ∧ 0 < xs.length ∧ xs.length ≤ b ∧ ∀ v ∈ xs, GoodE pile places H' v
theorem SomeI.mono {t : Addr} {pile places n : Nat} {H H' : Hp} {b c b' c' : Nat} {σ : L2.St} (h : SomeI t pile places n H b c σ H') (hb : b ≤ b') (hc : c' ≤ c) : SomeI t pile places n H b' c' σ H' := by
  obtain ⟨L, xs, y, e, k, tp, nl, hl, h1, h2, h3⟩ := h
  exact ⟨L, xs, y, e, k, tp.mono (by omega), nl, hl, h1, by omega, h3⟩
section
variable {P : Program} {w : World} {K : PySem.W.Frag} {mg : Str → Option Value} {base : Heap}
theorem ok_some_act {f : Addr} {fd : FuncData} {k k1 : Nat} (g : Bl mg) (C_law_draw : Cal P w K mg base "_law_draw" k1 ["_law_tape_here", "_law_many"] spDraw) (hk : k1 ≤ k) (F : Fun K "_law_some_act" "_law_some_act" (topS 15) f fd) : FnOk P w K mg base CX0 (k + 1) f fd ["_law_tape_here", "_law_pile", "_law_places"] spSomeAct := by
  refine F.ok scSomeAct (fun vs H Q E h => ?_) (fun cdv A outer s H vs Q E hr h => ?_)
  · obtain ⟨t, pile, places, n, rfl, _⟩ := h
    rfl
  · obtain ⟨t, pile, places, n, rfl, hpi, hpl, hT, q⟩ := h
    refine ⟨_, (pss_cons (ps_set (i := 3) scSomeAct.nd rfl (Or.inl rfl) (pe_lstU (pa_cons (pe_tupU (pa_cons (pe_tupU (pa_cons pe_str (pa_cons (pe_ix ix_list (pe_lstU (pa_cons (pe_c C_law_draw hr hk (ha := (pa_cons (pv 0) (pa_cons pe_int pa_nil)))) (pa_cons (pe_c C_law_draw hr hk (ha := (pa_cons (pv 0) (pa_cons (pe_op op_pow pe_int pe_int) pa_nil)))) pa_nil))) (pe_c C_law_draw hr hk (ha := (pa_cons (pv 0) (pa_cons pe_int pa_nil)))) (fun _ _ => rfl)) pa_nil))) (pa_cons (pe_op op_add (pv 1) pe_int) pa_nil))) pa_nil)))
      (Evl.pss_cut (ps_if (pt_cmpR op_gt (pv 2) pe_int (nomark _))
        (pss_one (ps_expr (pe_bm PySem.F.plainAttrs_list PySem.F.slot_list_append PySem.F.type_list_append mt_append (pv 3) (pa_cons (pe_tupU (pa_cons (pe_tupU (pa_cons pe_str (pa_cons (pe_c C_law_draw hr hk (ha := (pa_cons (pv 0) (pa_cons (pv 2) pa_nil)))) pa_nil))) (pa_cons (pe_op op_add (pv 1) pe_int) pa_nil))) pa_nil))))
        pss_nil)
      (Evl.pss_cut (ps_if (pt_cmpR op_gt (pv 1) pe_int (nomark _))
        (pss_one (ps_set (i := 3) scSomeAct.nd rfl (Or.inl rfl) (pe_op op_catL (pv 3) (pe_lstU (pa_cons (pe_tupU (pa_cons (pe_tupU (pa_cons pe_str pa_nil)) (pa_cons (pe_op op_add (pv 1) pe_int) pa_nil))) (pa_cons (pe_tupU (pa_cons (pe_tupU (pa_cons pe_str pa_nil)) (pa_cons (pe_op op_sub (pv 1) pe_int) pa_nil))) pa_nil))))))
        pss_nil)
      (Evl.pss_cut (ps_if (PW.pt (pw_and (pt_cmpR op_gt (pv 1) pe_int (nomark _)) (pw_and1 (pt_cmpR op_gt (pv 2) pe_int (nomark _)))))
        (pss_one (ps_set (i := 3) scSomeAct.nd rfl (Or.inl rfl) (pe_op op_catL (pv 3) (pe_op op_repL (pe_lstU (pa_cons (pe_tupU (pa_cons (pe_tupU (pa_cons pe_str (pa_cons (pe_c C_law_draw hr hk (ha := (pa_cons (pv 0) (pa_cons (pv 2) pa_nil)))) pa_nil))) (pa_cons (pe_op op_sub (pv 1) pe_int) pa_nil))) pa_nil)) pe_int))))
        pss_nil)
      (Evl.pss_cut (ps_if (pt_cmpR op_gt (pv 1) pe_int (nomark _))
        (pss_one (ps_set (i := 3) scSomeAct.nd rfl (Or.inl rfl) (pe_op op_catL (pe_op op_catL (pv 3) (pe_lc (own := [("_law_word", 4)]) (g := (gName 4)) (tt := tYes) rfl scSomeAct.nd (pi_tup (pe_tupU (pa_cons pe_str (pa_cons pe_str (pa_cons pe_str (pa_cons pe_str pa_nil)))))) (blkOk_by (own := [("_law_word", 4)]) (N := ["_law_tape_here", "_law_pile", "_law_places", "_law_some", "_law_word"]) (sc := defScope (topS 15)) (by decide +kernel)) (fun _ _ _ _ _ => (pg_name (i := 4) scSomeAct.nd rfl (Or.inl rfl))) (fun _ _ _ _ _ => pts_nil) (fun _ _ _ _ _ => (pe_tupU (pa_cons (pe_tupU (pa_cons (pv 4) pa_nil)) (pa_cons (pe_op op_sub (pv 1) pe_int) pa_nil)))))) (pe_lstU (pa_cons (pe_tupU (pa_cons (pe_tupU (pa_cons pe_str pa_nil)) (pa_cons (pv 1) pa_nil))) pa_nil)))))
        pss_nil)
      (Evl.pss_cut (ps_if (pt_cmpR op_gt (pv 1) pe_int (nomark _))
        (pss_one (ps_set (i := 3) scSomeAct.nd rfl (Or.inl rfl) (pe_op op_catL (pv 3) (pe_op op_repL (pe_lstU (pa_cons (pe_tupU (pa_cons (pe_tupU (pa_cons pe_str pa_nil)) (pa_cons (pe_op op_sub (pv 1) pe_int) pa_nil))) pa_nil)) pe_int))))
        pss_nil)
      (pss_one (ps_ret (pe_ix ix_list (pv 3) (pe_c C_law_draw hr hk (ha := (pa_cons (pv 0) (pa_cons (pe_callB call_len_seq (by rfl) g.len PySem.boot_len (pa_cons (pv 3) pa_nil)) pa_nil)))) (fun _ _ => rfl)))))))))), ?_⟩
    have z1 : 1 ≤ 100000 := by decide
    have z2 : 2 ≤ 100000 := by decide
    have z4 : 4 ≤ 100000 := by decide
    -- the first one: a number
    refine ⟨_, rfl, t, 10, n + 5, rfl, by decide, by decide, hT, fun i1 H1 i10 i11 k1 t1 => ⟨_, rfl, 10, 6, rfl, rfl, ⟨by decide, by decide, by decide⟩, ?_⟩⟩
    refine ⟨t, 1000000, n + 4, rfl, by decide, by decide, t1, fun i2 H2 i20 i21 k2 t2 => ⟨z2, fun p3 H3 np3 s3 c3 => ?_⟩⟩
    refine ⟨_, rfl, t, 2, n + 3, rfl, by decide, by decide, tape_same s3 t2, fun i4 H4 i40 i41 k4 t4 => ?_⟩
    have h3t : p3 ≠ t := tape_ne t2 np3
    obtain ⟨v, hv, hvi⟩ : ∃ v : Int, atI [V.int i1, V.int i2] i4 = some (.int v) ∧ it v := by
      have : i4 = 0 ∨ i4 = 1 := by omega
      rcases this with rfl | rfl
      · exact ⟨i1, rfl, by constructor <;> omega⟩
      · exact ⟨i2, rfl, by constructor <;> omega⟩
    refine ⟨p3, _, i4, .int v, rfl, rfl, SqL.of (k4 _ _ h3t c3), hv, z2, fun a5 H5 na5 s5 c5 => ?_⟩
    refine ⟨_, rfl, _, _, rfl, rfl, z2, fun q6 H6 nq6 s6 c6 => ⟨z1, fun L7 H7 nl7 s7 c7 => ?_⟩⟩
    have t5 := tape_same s5 t4
    have t6 := tape_same s6 t5
    have t7 := tape_same s7 t6
    have k06 : Kp t H H6 := ((k1.trans k2).trans ((kp_same s3).trans k4)).trans ((kp_same s5).trans (kp_same s6))
    have first : SomeI t pile places n H 1 3 [some (.ref t), some (.int (pile : Int)), some (.int (places : Int)), some (.ref L7), none] H7 := by
      refine ⟨L7, _, _, rfl, k06.trans (kp_same s7), t7, kp_none k06 t6 nl7, c7, Nat.one_pos, Nat.le_refl _, fun v' hv' => ?_⟩
      rw [List.mem_singleton.mp hv']
      exact goodE_mono _ _ _ (kpT_same s7) (goodE_mk (act := .num v) s6 c5 c6 rfl hvi trivial (Nat.zero_le _) trivial)
    have hlt : L7 ≠ t := tape_ne t6 nl7
    clear s7 c7 nl7 nq6 s6 c6 s5 c5
    refine ⟨SomeI t pile places n H 2 2, ?_, ?_⟩
    · refine ⟨_, rfl, (places : Int), 0, rfl, rfl, _, rfl, ite2 (fun e => ?_) (fun e => first.mono (by decide) (by decide))⟩
      have e : (0 : Int) < (places : Int) := of_decide_eq_true e
      obtain ⟨L, xs, y, e0, k8, t8, nl, hl, l1, l2, l3⟩ := first
      cases e0
      refine ⟨_, rfl, .inl ⟨rfl, _, SqL.of hl⟩, _, rfl, _, rfl, t, (places : Int), n + 2, rfl, e, by omega, t8, fun i H9 i0 i1 k9 t9 => ⟨z2, fun a Ha na sa ca => ⟨_, rfl, _, _, rfl, rfl, z2, fun qb Hb nb sb cb => ?_⟩⟩⟩
      obtain ⟨i, rfl⟩ := Int.eq_ofNat_of_zero_le i0
      have hlb := sb _ _ (sa _ _ (k9 _ _ hlt hl))
      have tb := tape_same sb (tape_same sa t9)
      have kb : Kp t H Hb := k8.trans (k9.trans ((kp_same sa).trans (kp_same sb)))
      have kt : KpT Hb (upd Hb L7 (.lst (xs ++ [.ref qb]))) := kpT_lst hlb
      refine ⟨L7, xs, _, rfl, rfl, hlb, Nat.lt_of_le_of_lt l2 (by decide), L7, _, _, rfl, kp_mut kb nl, tape_lst (l := []) tb hlt, nl, upd_same, by rw [List.length_append]; omega, by rw [List.length_append]; exact Nat.succ_le_succ l2, fun v' hv' => ?_⟩
      rcases List.mem_append.mp hv' with hv' | hv'
      · exact goodE_mono _ _ _ (((kpT_kp k9 t8).trans ((kpT_same sa).trans (kpT_same sb))).trans kt) (l3 v' hv')
      · rw [List.mem_singleton.mp hv']
        exact goodE_mono _ _ _ kt (goodE_mk (act := .kept i) sb ca cb rfl trivial trivial (Nat.zero_le _) (by show i < places; omega))
    clear first
    rintro σ H8 I8
    refine ⟨SomeI t pile places n H 4 2, ?_, ?_⟩
    · obtain ⟨L, xs, y, rfl, k8, t8, nl, hl, l1, l2, l3⟩ := id I8
      refine ⟨_, rfl, (pile : Int), 0, rfl, rfl, _, rfl, ite2 (fun e => ?_) (fun e => I8.mono (by decide) (by decide))⟩
      have e : (0 : Int) < (pile : Int) := of_decide_eq_true e
      refine ⟨_, rfl, z1, fun a1 Ha1 na1 sa1 ca1 => ⟨_, rfl, _, _, rfl, rfl, z2, fun q1 Hb1 nb1 sb1 cb1 => ⟨z1, fun a2 Ha2 na2 sa2 ca2 => ⟨_, rfl, _, _, rfl, rfl, z2, fun q2 Hb2 nb2 sb2 cb2 => ⟨z2, fun L9 H9 n9 s9 c9 => ?_⟩⟩⟩⟩⟩
      have s89 : Same H8 H9 := fun b o h => s9 _ _ (sb2 _ _ (sa2 _ _ (sb1 _ _ (sa1 _ _ h))))
      refine ⟨L, L9, xs, _, rfl, rfl, s89 _ _ hl, c9, by show xs.length + 2 ≤ 100000; omega, fun p Hp np sp cp => ⟨p, _, _, rfl, (k8.trans (kp_same s89)).trans (kp_same sp), tape_same sp (tape_same s89 t8), kp_none (k8.trans (kp_same s89)) (tape_same s89 t8) np, cp, by rw [List.length_append]; omega, by rw [List.length_append]; exact Nat.add_le_add_right l2 2, fun v' hv' => ?_⟩⟩
      rcases List.mem_append.mp hv' with hv' | hv'
      · exact goodE_mono _ _ _ ((kpT_same s89).trans (kpT_same sp)) (l3 v' hv')
      · rcases List.mem_cons.mp hv' with rfl | hv'
        · exact goodE_mono _ _ _ (kpT_same fun b o h => sp _ _ (s9 _ _ (sb2 _ _ (sa2 _ _ h)))) (goodE_mk (act := .wrd "twice") sb1 ca1 cb1 rfl (show ("twice" : Str) ∈ words8 by decide) trivial (by show 1 ≤ pile; omega) trivial)
        · rw [List.mem_singleton.mp hv']
          exact goodE_mono _ _ _ (kpT_same fun b o h => sp _ _ (s9 _ _ h)) (goodE_mk (act := .wrd "drop") sb2 ca2 cb2 rfl (show ("drop" : Str) ∈ words8 by decide) trivial (by show 1 ≤ pile; omega) trivial)
    rintro σ H8 I8
    refine ⟨SomeI t pile places n H 6 1, ?_, ?_⟩
    · obtain ⟨L, xs, y, rfl, k8, t8, nl, hl, l1, l2, l3⟩ := id I8
      refine ⟨_, rfl, (pile : Int), 0, rfl, rfl, _, rfl, ite2 (fun e => ?_) (fun e => iteF (I8.mono (by decide) (by decide)))⟩
      have e : (0 : Int) < (pile : Int) := of_decide_eq_true e
      refine ⟨_, rfl, (places : Int), 0, rfl, rfl, _, rfl, ite2 (fun e2 => ?_) (fun e => I8.mono (by decide) (by decide))⟩
      have e2 : (0 : Int) < (places : Int) := of_decide_eq_true e2
      refine ⟨_, rfl, _, rfl, _, rfl, t, (places : Int), n + 1, rfl, e2, by omega, t8, fun i H9 i0 i1 k9 t9 => ⟨z2, fun a Ha na sa ca => ⟨_, rfl, _, _, rfl, rfl, z2, fun qb Hb nb sb cb => ⟨z1, fun Lc Hc nc sc cc => ?_⟩⟩⟩⟩
      obtain ⟨i, rfl⟩ := Int.eq_ofNat_of_zero_le i0
      refine ⟨Lc, 2, _, rfl, rfl, cc, by decide, by show 1 ≤ 1000; decide, fun Ld Hd nd sd cd => ?_⟩
      have hLt : L ≠ t := fun z => by
        obtain ⟨_, _, _, e', _⟩ := hT
        rw [z, e'] at nl
        cases nl
      have s9d : Same H9 Hd := fun b o h => sd _ _ (sc _ _ (sb _ _ (sa _ _ h)))
      have kd : Kp t H Hd := k8.trans (k9.trans (kp_same s9d))
      have td := tape_same s9d t9
      refine ⟨L, Ld, xs, _, rfl, rfl, s9d _ _ (k9 _ _ hLt hl), cd, by show xs.length + 2 ≤ 100000; omega, fun p Hp np sp cp => ⟨p, _, _, rfl, kd.trans (kp_same sp), tape_same sp td, kp_none kd td np, cp, by rw [List.length_append]; omega, by rw [List.length_append]; exact Nat.add_le_add_right l2 2, fun v' hv' => ?_⟩⟩
      rcases List.mem_append.mp hv' with hv' | hv'
      · exact goodE_mono _ _ _ ((kpT_kp k9 t8).trans ((kpT_same s9d).trans (kpT_same sp))) (l3 v' hv')
      · have ev : v' = .ref qb := by
          rcases List.mem_cons.mp hv' with rfl | hv'
          · rfl
          · exact List.mem_singleton.mp hv'
        rw [ev]
        exact goodE_mono _ _ _ (kpT_same fun b o h => sp _ _ (sd _ _ (sc _ _ h))) (goodE_mk (act := .keep i) sb ca cb rfl trivial trivial (by show 1 ≤ pile; omega) (by show i < places; omega))
    rintro σ H8 I8
    refine ⟨SomeI t pile places n H 11 1, ?_, ?_⟩
    · obtain ⟨L, xs, y, rfl, k8, t8, nl, hl, l1, l2, l3⟩ := id I8
      refine ⟨_, rfl, (pile : Int), 1, rfl, rfl, _, rfl, ite2 (fun e => ?_) (fun e => I8.mono (by decide) (by decide))⟩
      have e : (1 : Int) < (pile : Int) := of_decide_eq_true e
      have hLt : L ≠ t := fun z => by
        obtain ⟨_, _, _, e', _⟩ := hT
        rw [z, e'] at nl
        cases nl
      refine ⟨_, rfl, z4, fun T9 H9 n9 s9 c9 => ⟨T9, rfl, ⟨_, SqT.of c9⟩, fun D nD => ?_⟩⟩
      have t9 := tape_same s9 t8
      refine lcU_tup (xs := _) (GoodE pile places) goodE_mono 0 (n + 1) (by show 4 ≤ 100000; decide) nD t9 (SqT.of c9) ?_ ?_
      · intro i x H10 R hx k10 t10 hR
        obtain ⟨wd, rfl, hw, hn, hm⟩ : ∃ wd, x = .str wd ∧ wd ∈ words8 ∧ needW wd = 2 ∧ moreW wd = -1 := by
          have := List.mem_of_getElem? hx
          simp only [List.mem_cons, List.not_mem_nil, or_false] at this
          rcases this with rfl | rfl | rfl | rfl <;> exact ⟨_, rfl, by decide, by decide, by decide⟩
        refine ⟨rfl, _, rfl, z1, fun a Ha na sa ca => ⟨_, rfl, _, _, rfl, rfl, z2, fun qb Hb nb sb cb => hR _ _ ((kp_same sa).trans (kp_same sb)) (tape_same sb (tape_same sa t10)) ?_⟩⟩
        exact goodE_mk (act := .wrd wd) sb ca cb (by show _ = _ + moreW wd; rw [hm]; rfl) hw trivial (by show needW wd ≤ pile; omega) trivial
      · intro H10 acc k10 t10 cD lacc hacc
        refine ⟨L, D, xs, acc, rfl, rfl, ?_, cD, by rw [lacc]; show xs.length + 4 ≤ 100000; omega, fun p Hp np sp cp => ?_⟩
        · exact k10 _ _ hLt (s9 _ _ hl)
        have kp : Kp t H Hp := k8.trans ((kp_same s9).trans (k10.trans (kp_same sp)))
        have tpp := tape_same sp t10
        refine ⟨z1, fun a Ha na sa ca => ⟨_, rfl, z2, fun qb Hb nb sb cb => ⟨z1, fun Lc Hc nc sc cc => ?_⟩⟩⟩
        have spc : Same Hp Hc := fun b o h => sc _ _ (sb _ _ (sa _ _ h))
        have kc := kp.trans (kp_same spc)
        have tc := tape_same spc tpp
        refine ⟨p, Lc, _, _, rfl, rfl, spc _ _ cp, cc, by rw [List.length_append, lacc]; show xs.length + 4 + 1 ≤ 100000; omega, fun pz Hz nz sz cz => ⟨pz, _, _, rfl, kc.trans (kp_same sz), tape_same sz tc, kp_none kc tc nz, cz, by rw [List.length_append, List.length_append]; omega, by rw [List.length_append, List.length_append, lacc]; exact Nat.add_le_add_right l2 5, fun v' hv' => ?_⟩⟩
        have kpz : KpT Hp Hz := (kpT_same spc).trans (kpT_same sz)
        rcases List.mem_append.mp hv' with hv' | hv'
        · rcases List.mem_append.mp hv' with hv' | hv'
          · exact goodE_mono _ _ _ ((kpT_same s9).trans ((kpT_kp k10 t9).trans ((kpT_same sp).trans kpz))) (l3 v' hv')
          · exact goodE_mono _ _ _ ((kpT_same sp).trans kpz) (hacc v' hv')
        · rw [List.mem_singleton.mp hv']
          exact goodE_mono _ _ _ (kpT_same fun b o h => sz _ _ (sc _ _ h)) (goodE_mk (act := .wrd "swap") sb ca cb (by show _ = _ + (0 : Int); omega) (show ("swap" : Str) ∈ words8 by decide) trivial (by show 2 ≤ pile; omega) trivial)
    rintro σ H8 I8
    refine ⟨SomeI t pile places n H 13 1, ?_, ?_⟩
    · obtain ⟨L, xs, y, rfl, k8, t8, nl, hl, l1, l2, l3⟩ := id I8
      refine ⟨_, rfl, (pile : Int), 2, rfl, rfl, _, rfl, ite2 (fun e => ?_) (fun e => I8.mono (by decide) (by decide))⟩
      have e : (2 : Int) < (pile : Int) := of_decide_eq_true e
      refine ⟨_, rfl, z1, fun a Ha na sa ca => ⟨_, rfl, _, _, rfl, rfl, z2, fun qb Hb nb sb cb => ⟨z1, fun Lc Hc nc sc cc => ?_⟩⟩⟩
      refine ⟨Lc, 2, _, rfl, rfl, cc, by decide, by show 1 ≤ 1000; decide, fun Ld Hd nd sd cd => ?_⟩
      have s8d : Same H8 Hd := fun b o h => sd _ _ (sc _ _ (sb _ _ (sa _ _ h)))
      have kd : Kp t H Hd := k8.trans (kp_same s8d)
      have td := tape_same s8d t8
      refine ⟨L, Ld, xs, _, rfl, rfl, s8d _ _ hl, cd, by show xs.length + 2 ≤ 100000; omega, fun p Hp np sp cp => ⟨p, _, _, rfl, kd.trans (kp_same sp), tape_same sp td, kp_none kd td np, cp, by rw [List.length_append]; omega, by rw [List.length_append]; exact Nat.add_le_add_right l2 2, fun v' hv' => ?_⟩⟩
      rcases List.mem_append.mp hv' with hv' | hv'
      · exact goodE_mono _ _ _ ((kpT_same s8d).trans (kpT_same sp)) (l3 v' hv')
      · have ev : v' = .ref qb := by
          rcases List.mem_cons.mp hv' with rfl | hv'
          · rfl
          · exact List.mem_singleton.mp hv'
        rw [ev]
        exact goodE_mono _ _ _ (kpT_same fun b o h => sp _ _ (sd _ _ (sc _ _ h))) (goodE_mk (act := .wrd "pick") sb ca cb rfl (show ("pick" : Str) ∈ words8 by decide) trivial (by show 3 ≤ pile; omega) trivial)
    rintro σ H8 ⟨L, xs, y, rfl, k8, t8, nl, hl, l1, l2, l3⟩
    refine ⟨_, rfl, _, rfl, _, rfl, L, xs, rfl, .inl (SqL.of hl), t, (xs.length : Int), n, rfl, by omega, by omega, t8, fun i H9 i0 i1 k9 t9 => ?_⟩
    obtain ⟨i, rfl⟩ := Int.eq_ofNat_of_zero_le i0
    have hi : i < xs.length := by omega
    have hLt : L ≠ t := fun z => by
      obtain ⟨_, _, _, e', _⟩ := hT
      rw [z, e'] at nl
      cases nl
    refine ⟨L, xs, (i : Int), xs[i], rfl, rfl, SqL.of (k9 _ _ hLt hl), atI_nat (List.getElem?_eq_getElem hi), q _ _ (k8.trans k9) t9 (goodE_mono _ _ _ (kpT_kp k9 t8) (l3 _ (List.getElem_mem hi)))⟩
end
end Tw

/-! a code under way: heap and plain law; lists of names beside [] -/
namespace Tw
open PySem PySem.Spec PyProof.Rows L2
theorem isnm_ok {z : Str} (h : IsNm z) : PyData.strOk z = true := by
  unfold PyData.strOk
  rw [Array.all_eq_true']
  intro c hc
  have := (h.2.2 c (by simpa using hc)).2
  exact decide_eq_true (by omega)
theorem canLay_strs : ∀ zs : List Str, (∀ z ∈ zs, IsNm z) → PyData.canLayAll0 (zs.map PyData.str) = true
  | [], _ => rfl
  | z :: r, h => by
    show (PyData.strOk z && PyData.canLayAll0 (r.map PyData.str)) = true
    rw [isnm_ok (h z List.mem_cons_self), canLay_strs r fun x hx => h x (List.mem_cons_of_mem _ hx)]
    rfl
theorem depth_strs : ∀ zs : List Str, PyData.depthAll (zs.map PyData.str) ≤ 1
  | [] => by simp [PyData.depthAll]
  | z :: r => by
    have := depth_strs r
    simp [PyData.depthAll, PyData.depth]
    try omega
theorem shaped_strs {zs : List Str} (h : ∀ z ∈ zs, IsNm z) : SeqAt.shaped (.list (zs.map PyData.str)) = true := by
  unfold SeqAt.shaped
  rw [Bool.and_eq_true_iff]
  refine ⟨canLay_strs zs h, decide_eq_true ?_⟩
  have := depth_strs zs
  simp only [PyData.depth]
  omega
theorem dpa_strs {K : PySem.W.Frag} {H : Hp} : ∀ zs : List Str, DpAll K H (zs.map V.str) (zs.map PyData.str)
  | [] => .nil
  | z :: r => .cons (.str z) (dpa_strs r)
section
variable {X : Cx}
/-- a list of names beside [] -/
def rNil (f : Bool → Bool) : R2 := fun x y H Q => ∃ (a b : Addr) (zs : List Str), x = .ref a ∧ y = .ref b ∧ H a = some (.lst (zs.map V.str)) ∧ H b = some (.lst []) ∧ (∀ z ∈ zs, IsNm z) ∧ Q (.bl (f (decide (zs = [])))) H
theorem eqv_nil (zs : List Str) : PyData.eqv (.list (zs.map PyData.str)) (.list []) = decide (zs = []) := by
  cases zs with
  | nil => rfl
  | cons z r => rfl
theorem op_eqN (hu : X.A.units + 64 < cLine) : OpR X (compareOp .Eq) (rNil id) := fun pins s σ H x y v u Q I rx ry h => by
  obtain ⟨a, b, zs, rfl, rfl, ha, hb, hz, q⟩ := h
  refine op_eqD hu pins s σ H _ _ v u Q I rx ry ⟨.list (zs.map PyData.str), .list [], .lst (SqL.of ha) (dpa_strs zs), .lst (SqL.of hb) .nil, shaped_strs hz, rfl, ?_⟩
  rw [eqv_nil]
  exact q
theorem op_neN (hu : X.A.units + 64 < cLine) : OpR X (compareOp .NotEq) (rNil not) := fun pins s σ H x y v u Q I rx ry h => by
  obtain ⟨a, b, zs, rfl, rfl, ha, hb, hz, q⟩ := h
  refine op_neD hu pins s σ H _ _ v u Q I rx ry ⟨.list (zs.map PyData.str), .list [], .lst (SqL.of ha) (dpa_strs zs), .lst (SqL.of hb) .nil, shaped_strs hz, rfl, ?_⟩
  rw [eqv_nil]
  exact q
/-- pop(i) of a list of texts -/
def rPopS : V → List V → Hp → VK → Prop := fun x vs H Q => ∃ (l : Addr) (zs : List Str) (i : Nat) (hi : i < zs.length), x = .ref l ∧ vs = [.int (i : Int)] ∧ H l = some (.lst (zs.map V.str)) ∧ zs.length ≤ 100000 ∧ Q (.str zs[i]) (upd H l (.lst ((zs.eraseIdx i).map V.str)))
theorem map_eraseIdx' {α β : Type} (f : α → β) : ∀ (l : List α) (k : Nat), (l.map f).eraseIdx k = (l.eraseIdx k).map f
  | [], _ => rfl
  | _ :: _, 0 => rfl
  | x :: r, k + 1 => by
    show f x :: (r.map f).eraseIdx k = f x :: (r.eraseIdx k).map f
    rw [map_eraseIdx' f r k]
theorem mt_popS : MtM X "list.pop" rPopS := fun pins s σ H x vs v us Q I rx rv h => by
  obtain ⟨l, zs, i, hi, rfl, rfl, hl, hz, q⟩ := h
  refine mt_popAt pins s σ H _ _ v us Q I rx rv ⟨l, zs.map V.str, (i : Int), i, .str zs[i], rfl, rfl, hl, by omega, by omega, ?_, ?_, ?_⟩
  · rw [List.length_map]
    have := seqIndex_of (k := (i : Int)) (n := zs.length) (by omega) (by omega)
    rw [this]
    rfl
  · rw [List.getElem?_map, List.getElem?_eq_getElem hi]
    rfl
  · rw [map_eraseIdx']
    exact q
end
/-! ### heap -/
def ActP (H : Hp) (v : V) (a : Act) : Prop := ∃ q, v = .ref q ∧ H q = some (.tup (actV a))
theorem actP_mono {H H' : Hp} (k : KpT H H') {v : V} {a : Act} (h : ActP H v a) : ActP H' v a := by
  obtain ⟨q, e, h⟩ := h
  exact ⟨q, e, kpT_tup k h⟩
structure CoH (t L1 L2 L3 : Addr) (H H' : Hp) (left outs : List Str) (xs : List V) (acts : List Act) (b : Nat) : Prop where
  kp : Kp t H H'
  tp : Tape H' t b
  l1 : H' L1 = some (.lst (left.map V.str))
  l2 : H' L2 = some (.lst (outs.map V.str))
  l3 : H' L3 = some (.lst xs)
  pa : Paired (ActP H') xs acts
/-- three new lists -/
structure Tri (t L1 L2 L3 : Addr) (H : Hp) : Prop where
  n1 : H L1 = none
  n2 : H L2 = none
  n3 : H L3 = none
  d1 : L1 ≠ t
  d2 : L2 ≠ t
  d3 : L3 ≠ t
  e12 : L1 ≠ L2
  e13 : L1 ≠ L3
  e23 : L2 ≠ L3
section
variable {t L1 L2 L3 : Addr} {H H' H'' : Hp} {left outs : List Str} {xs : List V} {acts : List Act} {b b' : Nat}
theorem CoH.step (T : Tri t L1 L2 L3 H) (h : CoH t L1 L2 L3 H H' left outs xs acts b) (k : Kp t H' H'') (tp : Tape H'' t b') : CoH t L1 L2 L3 H H'' left outs xs acts b' :=
  ⟨h.kp.trans k, tp, k _ _ T.d1 h.l1, k _ _ T.d2 h.l2, k _ _ T.d3 h.l3, h.pa.mono fun _ _ => actP_mono (kpT_kp k h.tp)⟩
theorem CoH.same (T : Tri t L1 L2 L3 H) (h : CoH t L1 L2 L3 H H' left outs xs acts b) (k : Same H' H'') : CoH t L1 L2 L3 H H'' left outs xs acts b := h.step T (kp_same k) (tape_same k h.tp)
theorem CoH.mono (h : CoH t L1 L2 L3 H H' left outs xs acts b) (l : b' ≤ b) : CoH t L1 L2 L3 H H' left outs xs acts b' := ⟨h.kp, h.tp.mono l, h.l1, h.l2, h.l3, h.pa⟩
theorem CoH.push {q : Addr} {a : Act} (T : Tri t L1 L2 L3 H) (h : CoH t L1 L2 L3 H H' left outs xs acts b) (hq : H' q = some (.tup (actV a))) : CoH t L1 L2 L3 H (upd H' L3 (.lst (xs ++ [.ref q]))) left outs (xs ++ [.ref q]) (acts ++ [a]) b := by
  have kk : KpT H' (upd H' L3 (.lst (xs ++ [.ref q]))) := kpT_lst h.l3
  exact ⟨kp_mut h.kp T.n3, tape_lst (l := []) h.tp T.d3, by rw [upd_ne T.e13]; exact h.l1, by rw [upd_ne T.e23]; exact h.l2, upd_same, (h.pa.mono fun _ _ => actP_mono kk).snoc ⟨q, rfl, kpT_tup kk hq⟩⟩
theorem CoH.pop1 {i : Nat} (T : Tri t L1 L2 L3 H) (h : CoH t L1 L2 L3 H H' left outs xs acts b) : CoH t L1 L2 L3 H (upd H' L1 (.lst ((left.eraseIdx i).map V.str))) (left.eraseIdx i) outs xs acts b :=
  ⟨kp_mut h.kp T.n1, tape_lst (l := []) h.tp T.d1, upd_same, by rw [upd_ne T.e12.symm]; exact h.l2, by rw [upd_ne T.e13.symm]; exact h.l3, h.pa.mono fun _ _ => actP_mono (kpT_lst h.l1)⟩
theorem CoH.pop2 {i : Nat} (T : Tri t L1 L2 L3 H) (h : CoH t L1 L2 L3 H H' left outs xs acts b) : CoH t L1 L2 L3 H (upd H' L2 (.lst ((outs.eraseIdx i).map V.str))) left (outs.eraseIdx i) xs acts b :=
  ⟨kp_mut h.kp T.n2, tape_lst (l := []) h.tp T.d2, by rw [upd_ne T.e12]; exact h.l1, upd_same, by rw [upd_ne T.e23.symm]; exact h.l3, h.pa.mono fun _ _ => actP_mono (kpT_lst h.l2)⟩
end
/-! ### plain -/
def givesN (t : Str) : List Act → Nat
  | [] => 0
  | .give u :: r => (if u = t then 1 else 0) + givesN t r
  | _ :: r => givesN t r
theorem takesN_app (z : Str) : ∀ (as : List Act) (a : Act), takesN z (as ++ [a]) = takesN z as + takesN z [a]
  | [], a => by simp [takesN]
  | b :: r, a => by
    have ih := takesN_app z r a
    cases b <;> simp only [List.cons_append, takesN, ih] <;> omega
theorem givesN_app (z : Str) : ∀ (as : List Act) (a : Act), givesN z (as ++ [a]) = givesN z as + givesN z [a]
  | [], a => by simp [givesN]
  | b :: r, a => by
    have ih := givesN_app z r a
    cases b <;> simp only [List.cons_append, givesN, ih] <;> omega
theorem count_erase (z : Str) : ∀ (l : List Str) (i : Nat) (h : i < l.length), l.count z = (l.eraseIdx i).count z + (if l[i] = z then 1 else 0)
  | x :: r, 0, _ => by
    show (x :: r).count z = r.count z + (if x = z then 1 else 0)
    rw [List.count_cons]
    congr 1
    by_cases e : x = z <;> simp [e]
  | x :: r, i + 1, h => by
    have h' : i < r.length := Nat.lt_of_succ_lt_succ h
    have ih := count_erase z r i h'
    show (x :: r).count z = (x :: r.eraseIdx i).count z + (if r[i] = z then 1 else 0)
    rw [List.count_cons, List.count_cons, ih]
    omega
structure CoP (takes gives : List Str) (places B : Nat) (left outs : List Str) (acts : List Act) (pile : Nat) : Prop where
  lg : lg 0 acts = some pile
  ok : ∀ a ∈ acts, actOk a ∧ plOk places a
  ct : ∀ z, takesN z acts + left.count z = takes.count z
  cg : ∀ z, givesN z acts + outs.count z = gives.count z
  len : acts.length + 2 * (left.length + outs.length) ≤ B
  nt : ∀ z ∈ left, IsNm z
  ng : ∀ z ∈ outs, IsNm z
  pl : pile ≤ acts.length
theorem more_le {a : Act} : more a ≤ 1 := by
  cases a with
  | wrd w =>
    show moreW w ≤ 1
    unfold moreW
    repeat' split
    all_goals decide
  | take t => exact Int.le_refl 1
  | num t => exact Int.le_refl 1
  | kept t => exact Int.le_refl 1
  | give t => show (-1 : Int) ≤ 1; decide
  | keep t => show (-1 : Int) ≤ 1; decide
section
variable {takes gives left outs : List Str} {places B pile : Nat} {acts : List Act}
theorem CoP.mid {a : Act} (h : CoP takes gives places B left outs acts pile) (hB : acts.length + 2 * (left.length + outs.length) + 1 ≤ B') (ha : actOk a) (hm : actMid a) (hn : needs a ≤ pile) (hp : plOk places a) : CoP takes gives places B' left outs (acts ++ [a]) ((pile : Int) + more a).toNat := by
  refine ⟨lg_snoc acts 0 pile a h.lg hn, fun x hx => ?_, fun z => ?_, fun z => ?_, ?_, h.nt, h.ng, ?_⟩
  · rcases List.mem_append.mp hx with hx | hx
    · exact h.ok x hx
    · rw [List.mem_singleton.mp hx]
      exact ⟨ha, hp⟩
  · rw [takesN_app, ← h.ct z]
    have : takesN z [a] = 0 := by cases a <;> first | rfl | exact hm.elim
    omega
  · rw [givesN_app, ← h.cg z]
    have : givesN z [a] = 0 := by cases a <;> first | rfl | exact hm.elim
    omega
  · rw [List.length_append, List.length_singleton]
    omega
  · have := h.pl
    have := more_le (a := a)
    rw [List.length_append, List.length_singleton]
    omega
theorem CoP.take {i : Nat} (h : CoP takes gives places B left outs acts pile) (hi : i < left.length) : CoP takes gives places B (left.eraseIdx i) outs (acts ++ [.take left[i]]) (pile + 1) := by
  refine ⟨lg_snoc acts 0 pile (.take left[i]) h.lg (Nat.zero_le _), fun x hx => ?_, fun z => ?_, fun z => ?_, ?_, fun z hz => h.nt z (List.mem_of_mem_eraseIdx hz), h.ng, ?_⟩
  · rcases List.mem_append.mp hx with hx | hx
    · exact h.ok x hx
    · rw [List.mem_singleton.mp hx]
      exact ⟨trivial, trivial⟩
  · rw [takesN_app, ← h.ct z, count_erase z left i hi]
    have : takesN z [.take left[i]] = (if left[i] = z then 1 else 0) := rfl
    omega
  · rw [givesN_app, ← h.cg z]
    rfl
  · have h1 := h.len
    rw [List.length_append, List.length_singleton, List.length_eraseIdx_of_lt hi]
    omega
  · have := h.pl
    rw [List.length_append, List.length_singleton]
    omega
theorem CoP.give {i : Nat} (h : CoP takes gives places (B + 1) left outs acts pile) (hp : 0 < pile) (hi : i < outs.length) : CoP takes gives places B left (outs.eraseIdx i) (acts ++ [.give outs[i]]) (pile - 1) := by
  refine ⟨?_, fun x hx => ?_, fun z => ?_, fun z => ?_, ?_, h.nt, fun z hz => h.ng z (List.mem_of_mem_eraseIdx hz), ?_⟩
  · rw [lg_snoc acts 0 pile (.give outs[i]) h.lg hp]
    congr 1
    show ((pile : Int) + (-1)).toNat = pile - 1
    omega
  · rcases List.mem_append.mp hx with hx | hx
    · exact h.ok x hx
    · rw [List.mem_singleton.mp hx]
      exact ⟨trivial, trivial⟩
  · rw [takesN_app, ← h.ct z]
    have : takesN z [.give outs[i]] = 0 := rfl
    omega
  · rw [givesN_app, ← h.cg z, count_erase z outs i hi]
    have : givesN z [.give outs[i]] = (if outs[i] = z then 1 else 0) := rfl
    omega
  · have h1 := h.len
    rw [List.length_append, List.length_singleton, List.length_eraseIdx_of_lt hi]
    omega
  · have := h.pl
    rw [List.length_append, List.length_singleton]
    omega
end
end Tw

/-! _law_code_of -/
namespace Tw
open PySem PySem.Spec PyProof.Rows L2
theorem scCodeOf : FnScope ["_law_tape_here", "_law_takes", "_law_gives", "_law_places", "_law_left", "_law_outs", "_law_acts", "_law_pile", "_law_k", "_law_own", "_law_act"] ["_law_tape_here", "_law_takes", "_law_gives", "_law_places"] (defScope (topS 16)) := ⟨rfl, rfl, rfl, by decide +kernel, rfl, by decide +kernel, by decide +kernel⟩
/-- a drawn code: a tuple of acts, of which none lacks numbers; it takes and gives just these -/
structure CodeOf (K : PySem.W.Frag) (H : Hp) (p : Addr) (takes gives : List Str) (places : Nat) (xs : List V) (acts : List Act) : Prop where
  sq : SqT K H p xs
  pa : Paired (ActP H) xs acts
  lg : ∃ pile, lg 0 acts = some pile
  ok : ∀ a ∈ acts, actOk a ∧ plOk places a
  ct : ∀ z, takesN z acts = takes.count z
  cg : ∀ z, givesN z acts = gives.count z
  len : acts.length ≤ max 23 (2 * (takes.length + gives.length))
def spCodeOf (K : PySem.W.Frag) : Sp := fun vs H Q _ => ∃ (t a b : Addr) (takes gives : List Str) (places n : Nat), vs = [.ref t, .ref a, .ref b, .int (places : Int)] ∧ H a = some (.lst (takes.map V.str)) ∧ H b = some (.lst (gives.map V.str)) ∧ takes.length ≤ 1000 ∧ gives.length ≤ 1000 ∧ places ≤ 100000 ∧ (∀ z ∈ takes, IsNm z) ∧ (∀ z ∈ gives, IsNm z) ∧
  Tape H t (n + 11 * (takes.length + gives.length)) ∧ ∀ p H' xs acts, Kp t H H' → Tape H' t n → CodeOf K H' p takes gives places xs acts → Q (.ref p) H'
theorem strs_ne {H : Hp} {t a : Addr} {n : Nat} {zs : List Str} (h : Tape H t n) (ha : H a = some (.lst (zs.map V.str))) : a ≠ t := fun e => by
  obtain ⟨x, y, z, e', _⟩ := h
  rw [e, e'] at ha
  cases zs with
  | nil => cases ha
  | cons w r =>
    rw [List.map_cons] at ha
    injection ha with ha
    injection ha with ha
    injection ha with ha
    cases ha
/-- what a test comes to is told by R, then gone on with -/
def tCutT (tt : TT) : TT := fun σ H Q => ∃ R : Bool → Hp → Prop, tt σ H R ∧ ∀ b H', R b H' → Q b H'
theorem pt_cut {X : Cx} {e : Expr} {tt : TT} (he : PT X e tt) : PT X e (tCutT tt) := by
  refine ⟨fun pins s σ H Q I h => ?_⟩
  obtain ⟨R, h1, h2⟩ := h
  exact thn (he.run pins s σ H R I h1) fun v s1 ⟨H1, I1, q1⟩ => ⟨H1, I1, h2 v H1 q1⟩
theorem fresh_of {H H' : Hp} {p : Addr} (s : Same H H') (h : H' p = none) : H p = none := by
  cases e : H p with
  | none => rfl
  | some o =>
    rw [s p o e] at h
    cases h
section
variable {P : Program} {w : World} {K : PySem.W.Frag} {mg : Str → Option Value} {base : Heap}
theorem ok_code_of {f : Addr} {fd : FuncData} {k k1 k2 : Nat} (g : Bl mg) (C_law_draw : Cal P w K mg base "_law_draw" k1 ["_law_tape_here", "_law_many"] spDraw) (C_law_some_act : Cal P w K mg base "_law_some_act" k2 ["_law_tape_here", "_law_pile", "_law_places"] spSomeAct) (hk : k1 ≤ k) (hk2 : k2 ≤ k) (F : Fun K "_law_code_of" "_law_code_of" (topS 16) f fd) : FnOk P w K mg base CX0 (k + 1) f fd ["_law_tape_here", "_law_takes", "_law_gives", "_law_places"] (spCodeOf K) := by
  refine F.ok scCodeOf (fun vs H Q E h => ?_) (fun cdv A outer s H vs Q E hr h => ?_)
  · obtain ⟨t, a, b, takes, gives, places, n, rfl, _⟩ := h
    rfl
  · obtain ⟨t, a, b, takes, gives, places, n, rfl, ha, hb, lt, lg', hpl, nt, ng, hT, q⟩ := h
    refine ⟨_, (pss_cons (ps_asg (pe_tupU (pa_cons (pe_callTy call_lstU (by rfl) g.list PyProof.Rows.boot_list (pa_cons (pv 1) pa_nil)) (pa_cons (pe_callTy call_lstU (by rfl) g.list PyProof.Rows.boot_list (pa_cons (pv 2) pa_nil)) (pa_cons (pe_lstU pa_nil) (pa_cons pe_int pa_nil))))) (pg_tup rfl (pgs_cons (pg_name (i := 4) scCodeOf.nd rfl (Or.inl rfl)) (pgs_cons (pg_name (i := 5) scCodeOf.nd rfl (Or.inl rfl)) (pgs_cons (pg_name (i := 6) scCodeOf.nd rfl (Or.inl rfl)) (pgs_cons (pg_name (i := 7) scCodeOf.nd rfl (Or.inl rfl)) pgs_nil))))))
      (pss_cons (ps_for PassesOwn.never rfl (pi_range1 (by rfl) g.range (pa_cons (pe_op op_add (pe_callB call_len_seq (by rfl) g.len PySem.boot_len (pa_cons (pv 1) pa_nil)) (pe_callB call_len_seq (by rfl) g.len PySem.boot_len (pa_cons (pv 2) pa_nil))) pa_nil)) (pg_name (i := 8) scCodeOf.nd rfl (Or.inl rfl))
        (Evl.pss_cut (ps_if (pt_cut (PW.pt (pw_and (pt_cmpR (op_neN hr.units) (pv 5) (pe_lstU pa_nil) (nomark _)) (pw_and1 (PW.pt (pw_or (pt_cmpR (op_eqN hr.units) (pv 4) (pe_lstU pa_nil) (nomark _)) (pw_or1 (pt_cmpR op_eq (pe_c C_law_draw hr hk (ha := (pa_cons (pv 0) (pa_cons pe_int pa_nil)))) pe_int (nomark _)))))))))
          (Evl.pss_cut (ps_if (pt_cmpR op_eq (pv 7) pe_int (nomark _))
            (pss_cons (ps_set (i := 9) scCodeOf.nd rfl (Or.inl rfl) (pe_cut (pe_and (pe_cmpR op_gt (pv 3) pe_int (nomark _)) (pe_one (pe_cmpR op_eq (pe_c C_law_draw hr hk (ha := (pa_cons (pv 0) (pa_cons pe_int pa_nil)))) pe_int (nomark _))))))
            (pss_cons (ps_expr (pe_bm PySem.F.plainAttrs_list PySem.F.slot_list_append PySem.F.type_list_append mt_append (pv 6) (pa_cons (pe_cut (pe_ifExp (pt_val (pv 9)) (pe_tupU (pa_cons pe_str (pa_cons pe_int pa_nil))) (pe_tupU (pa_cons pe_str (pa_cons (pe_c C_law_draw hr hk (ha := (pa_cons (pv 0) (pa_cons pe_int pa_nil)))) pa_nil))))) pa_nil)))
            (pss_one (ps_set (i := 7) scCodeOf.nd rfl (Or.inl rfl) pe_int))))
            pss_nil)
          (pss_cons (ps_expr (pe_bm PySem.F.plainAttrs_list PySem.F.slot_list_append PySem.F.type_list_append mt_append (pv 6) (pa_cons (pe_tupU (pa_cons pe_str (pa_cons (pe_bm PySem.F.plainAttrs_list PySem.F.slot_list_pop PySem.F.type_list_pop mt_popS (pv 5) (pa_cons (pe_c C_law_draw hr hk (ha := (pa_cons (pv 0) (pa_cons (pe_callB call_len_seq (by rfl) g.len PySem.boot_len (pa_cons (pv 5) pa_nil)) pa_nil)))) pa_nil)) pa_nil))) pa_nil)))
          (pss_one (ps_set (i := 7) scCodeOf.nd rfl (Or.inl rfl) (pe_op op_sub (pv 7) pe_int)))))
          (pss_cons (ps_expr (pe_bm PySem.F.plainAttrs_list PySem.F.slot_list_append PySem.F.type_list_append mt_append (pv 6) (pa_cons (pe_tupU (pa_cons pe_str (pa_cons (pe_bm PySem.F.plainAttrs_list PySem.F.slot_list_pop PySem.F.type_list_pop mt_popS (pv 4) (pa_cons (pe_c C_law_draw hr hk (ha := (pa_cons (pv 0) (pa_cons (pe_callB call_len_seq (by rfl) g.len PySem.boot_len (pa_cons (pv 4) pa_nil)) pa_nil)))) pa_nil)) pa_nil))) pa_nil)))
          (pss_one (ps_set (i := 7) scCodeOf.nd rfl (Or.inl rfl) (pe_op op_add (pv 7) pe_int)))))
        (pss_one (ps_if (pt_cut (PW.pt (pw_and (pt_cmpR op_lt (pe_callB call_len_seq (by rfl) g.len PySem.boot_len (pa_cons (pv 6) pa_nil)) (pe_op op_sub pe_int (pe_op op_mul pe_int (pe_op op_add (pe_callB call_len_seq (by rfl) g.len PySem.boot_len (pa_cons (pv 4) pa_nil)) (pe_callB call_len_seq (by rfl) g.len PySem.boot_len (pa_cons (pv 5) pa_nil))))) (nomark _)) (pw_and1 (pt_cmpR op_gt (pe_c C_law_draw hr hk (ha := (pa_cons (pv 0) (pa_cons pe_int pa_nil)))) pe_int (nomark _))))))
          (pss_cons (ps_asg (pe_c C_law_some_act hr hk2 (ha := (pa_cons (pv 0) (pa_cons (pv 7) (pa_cons (pv 3) pa_nil))))) (pg_tup rfl (pgs_cons (pg_name (i := 10) scCodeOf.nd rfl (Or.inl rfl)) (pgs_cons (pg_name (i := 7) scCodeOf.nd rfl (Or.inl rfl)) pgs_nil))))
          (pss_one (ps_expr (pe_bm PySem.F.plainAttrs_list PySem.F.slot_list_append PySem.F.type_list_append mt_append (pv 6) (pa_cons (pv 10) pa_nil)))))
          pss_nil))))
      (pss_one (ps_ret (pe_callTy call_tupU (by rfl) g.tuple PyProof.Rows.boot_tuple (pa_cons (pv 6) pa_nil)))))), ?_⟩
    have z4 : 4 ≤ 100000 := by decide
    have z2 : 2 ≤ 100000 := by decide
    have hat := strs_ne hT ha
    have hbt := strs_ne hT hb
    refine ⟨_, rfl, a, _, rfl, .inl (SqL.of ha), fun L1 H1 n1 s1 c1 => ⟨_, rfl, b, _, rfl, .inl (SqL.of (s1 _ _ hb)), fun L2 H2 n2 s2 c2 => ⟨Nat.zero_le _, fun L3 H3 n3 s3 c3 => ⟨z4, fun T4 H4 n4 s4 c4 => ?_⟩⟩⟩⟩
    refine ⟨T4, _, rfl, SqT.of c4, rfl, _, _, rfl, _, _, rfl, _, _, rfl, _, _, rfl, rfl, ?_⟩
    have s04 : Same H H4 := fun b o h => s4 _ _ (s3 _ _ (s2 _ _ (s1 _ _ h)))
    have t1 := tape_same s1 hT
    have t2 := tape_same s2 t1
    have t3 := tape_same s3 t2
    have T : Tri t L1 L2 L3 H := by
      refine ⟨n1, fresh_of s1 n2, fresh_of (fun b o h => s2 _ _ (s1 _ _ h)) n3, tape_ne hT n1, tape_ne t1 n2, tape_ne t2 n3, ne_of_none c1 n2, ne_of_none (s2 _ _ c1) n3, ne_of_none c2 n3⟩
    have l1 : ∀ zs : List Str, (zs.map V.str).length = zs.length := fun zs => List.length_map ..
    refine ⟨_, rfl, a, _, rfl, .inl (SqL.of (s04 _ _ ha)), _, rfl, b, _, rfl, .inl (SqL.of (s04 _ _ hb)), _, _, rfl, rfl, ?_⟩
    generalize hN : takes.length + gives.length = N at hT t1 t2 t3
    have eN : ((takes.length : Int) + (gives.length : Int)) = (N : Int) := by omega
    -- have mid : ∀ i σ H9, (∃ left outs xs acts pile y8 y9 y10, σ = [some (.ref t), some (.ref a), some (.ref b), some (.int (places : Int)), some (.ref L1), some (.ref L2), some (.ref L3), some (.int ((pile : Nat) : Int)), y8, y9, y10] ∧ CoH t L1 L2 L3 H H9 left outs xs acts (n + 11 * (N - i)) ∧ CoP takes gives places (max 23 (2 * N)) left outs acts pile ∧ left.length + outs.length = N - i) → True := fun _ _ _ _ => trivial
    refine ⟨(N : Int), by rw [l1, l1]; exact congrArg (fun z => [V.int z]) eN, by omega, by omega, for_range (lo := 0) (n := (N : Int).toNat) (fun i σ H9 => ∃ left outs xs acts pile y8 y9 y10, σ = [some (.ref t), some (.ref a), some (.ref b), some (.int (places : Int)), some (.ref L1), some (.ref L2), some (.ref L3), some (.int ((pile : Nat) : Int)), y8, y9, y10] ∧ CoH t L1 L2 L3 H H9 left outs xs acts (n + 11 * (N - i)) ∧ CoP takes gives places (max 23 (2 * N)) left outs acts pile ∧ left.length + outs.length = N - i) ?_ ?_ ?_⟩
    · refine ⟨takes, gives, [], [], 0, _, _, _, rfl, ⟨kp_same s04, tape_same s4 t3, s4 _ _ (s3 _ _ (s2 _ _ c1)), s4 _ _ (s3 _ _ c2), s4 _ _ c3, .nil⟩, ⟨rfl, fun _ h => (nomatch h), fun z => by show 0 + _ = _; omega, fun z => by show 0 + _ = _; omega, by show 0 + _ ≤ _; omega, nt, ng, Nat.le_refl _⟩, by omega⟩
    · rintro i σ H9 hi ⟨left, outs, xs, acts, pile, y8, y9, y10, rfl, ch, cp, hl⟩
      rw [Int.zero_add]
      have hiN : i < N := by omega
      have e11 : n + 11 * (N - i) = n + 11 * (N - (i + 1)) + 11 := by omega
      rw [e11] at ch
      generalize n + 11 * (N - (i + 1)) = m at ch ⊢
      have lenA : acts.length ≤ 5000 := by
        have := cp.len
        omega
      refine ⟨fun σ H9 => ∃ left outs xs acts pile y9 y10, σ = [some (.ref t), some (.ref a), some (.ref b), some (.int (places : Int)), some (.ref L1), some (.ref L2), some (.ref L3), some (.int ((pile : Nat) : Int)), some (.int (i : Int)), y9, y10] ∧ CoH t L1 L2 L3 H H9 left outs xs acts (m + 7) ∧ CoP takes gives places (max 23 (2 * N)) left outs acts pile ∧ left.length + outs.length = N - (i + 1), ?_, ?_⟩
      · refine ⟨fun bb Hb => CoH t L1 L2 L3 H Hb left outs xs acts (m + 10) ∧ (bb = true → outs ≠ []) ∧ (bb = false → left ≠ []), ?_, ?_⟩
        · refine ⟨_, rfl, Nat.zero_le _, fun pe He ne se ce => ⟨L2, pe, outs, rfl, rfl, se _ _ ch.l2, ce, cp.ng, _, rfl, ite2 (fun e => ?_) (fun e => ?_)⟩⟩
          · have ho : outs ≠ [] := fun z => by
              rw [decide_eq_true z] at e
              cases e
            have ch1 := ch.same T se
            refine ⟨_, rfl, Nat.zero_le _, fun pf Hf nf sf cf => ⟨L1, pf, left, rfl, rfl, sf _ _ ch1.l1, cf, cp.nt, _, rfl, ite2 (fun e => ?_) (fun e => ?_)⟩⟩
            · exact ⟨(ch1.same T sf).mono (by omega), fun _ => ho, fun z => by cases z⟩
            · have hl0 : left ≠ [] := fun z => e (by rw [decide_eq_true z]; rfl)
              refine ⟨_, rfl, t, 3, m + 10, rfl, by decide, by decide, (ch1.same T sf).tp, fun d Hd d0 d1 kd td => ⟨rfl, _, rfl, (ch1.same T sf).step T kd td, fun _ => ho, fun _ => hl0⟩⟩
          · have ho : outs = [] := by
              by_cases z : outs = []
              · exact z
              · exact absurd (by rw [decide_eq_false z]; rfl) e
            refine ⟨(ch.same T se).mono (by omega), fun z => (by cases z), fun _ z => ?_⟩
            rw [z, ho] at hl
            simp at hl
            omega
        clear ch
        rintro bb Hb ⟨ch, hb1, hb2⟩
        refine ite2 (fun e => ?_) (fun e => ?_)
        · have ho := hb1 e
          have ho1 : 0 < outs.length := List.length_pos_iff.mpr ho
          -- something to give
          refine ⟨fun σ H9 => ∃ xs acts pile y9, σ = [some (.ref t), some (.ref a), some (.ref b), some (.int (places : Int)), some (.ref L1), some (.ref L2), some (.ref L3), some (.int ((pile : Nat) : Int)), some (.int (i : Int)), y9, y10] ∧ CoH t L1 L2 L3 H H9 left outs xs acts (m + 8) ∧ CoP takes gives places (max 23 (2 * N) + 1) left outs acts pile ∧ 0 < pile, ?_, ?_⟩
          · refine ⟨_, rfl, rfl, _, rfl, ite2 (fun e => ?_) (fun e => ?_)⟩
            · have e0 : pile = 0 := by
                have e1 := of_decide_eq_true e
                injection e1 with e1
                omega
              subst e0
              refine ⟨fun v Hv => ∃ c, v = .bl c ∧ (c = true → 0 < places) ∧ CoH t L1 L2 L3 H Hv left outs xs acts (m + 9), ?_, ?_⟩
              · refine ⟨_, rfl, (places : Int), 0, rfl, rfl, _, rfl, ite2 (fun e => ?_) (fun e => ⟨false, rfl, fun z => (by cases z), ch.mono (by omega)⟩)⟩
                have e : (0 : Int) < (places : Int) := of_decide_eq_true e
                exact ⟨_, rfl, t, 2, m + 9, rfl, by decide, by decide, ch.tp, fun d Hd d0 d1 kd td => ⟨rfl, _, rfl, fun _ => by omega, ch.step T kd td⟩⟩
              · rintro v Hv ⟨c, rfl, hc, chv⟩
                refine ⟨_, rfl, .inl ⟨rfl, _, SqL.of chv.l3⟩, fun v Hw => ∃ qq act, v = .ref qq ∧ Hw qq = some (.tup (actV act)) ∧ actOk act ∧ actMid act ∧ needs act = 0 ∧ more act = 1 ∧ plOk places act ∧ CoH t L1 L2 L3 H Hw left outs xs acts (m + 8), ?_, ?_⟩
                · refine ⟨_, rfl, _, rfl, ite2 (fun e => ?_) (fun e => ?_)⟩
                  · exact ⟨z2, fun qq Hq nq sq cq => ⟨qq, .kept 0, rfl, cq, trivial, trivial, rfl, rfl, hc e, (chv.same T sq).mono (by omega)⟩⟩
                  · exact ⟨_, rfl, t, 99, m + 8, rfl, by decide, by decide, chv.tp, fun d Hd d0 d1 kd td => ⟨z2, fun qq Hq nq sq cq => ⟨qq, .num d, rfl, cq, ⟨d0, by omega⟩, trivial, rfl, rfl, trivial, (chv.step T kd td).same T sq⟩⟩⟩
                rintro v Hw ⟨qq, act, rfl, cq, a1, a2, a3, a4, a5, chw⟩
                refine ⟨L3, xs, _, rfl, rfl, chw.l3, ?_, ?_⟩
                · rw [ch.pa.length]
                  exact Nat.lt_of_le_of_lt lenA (by decide)
                · have := cp.mid (B' := max 23 (2 * N) + 1) (a := act) (by have := cp.len; omega) a1 a2 (by omega) a5
                  have e5 : (((0 : Nat) : Int) + more act).toNat = 1 := by rw [a4]; rfl
                  rw [e5] at this
                  exact ⟨_, _, 1, _, rfl, chw.push T cq, this, by decide⟩
            · refine ⟨xs, acts, pile, _, rfl, ch.mono (by omega), ⟨cp.lg, cp.ok, cp.ct, cp.cg, Nat.le_succ_of_le cp.len, cp.nt, cp.ng, cp.pl⟩, ?_⟩
              rcases Nat.eq_zero_or_pos pile with z | z
              · subst z
                exact absurd (decide_eq_true rfl) e
              · exact z
          · have hl2 := hl
            clear ch cp lenA
            rintro σ H9 ⟨xs, acts, pile, y9, rfl, ch, cp, hp⟩
            have lenA : acts.length ≤ 6000 := by
              have := cp.len
              omega
            have hle : outs.length ≤ 3000 := by omega
            refine ⟨_, rfl, .inl ⟨rfl, _, SqL.of ch.l3⟩, _, rfl, .inl ⟨rfl, _, SqL.of ch.l2⟩, _, rfl, _, rfl, L2, _, rfl, .inl (SqL.of ch.l2), t, ((outs.map V.str).length : Int), m + 7, rfl, by rw [l1]; omega, by rw [l1]; omega, ch.tp, fun d Hd d0 d1 kd td => ?_⟩
            rw [l1] at d1
            obtain ⟨d, rfl⟩ := Int.eq_ofNat_of_zero_le d0
            have hd : d < outs.length := by omega
            have ch1 := (ch.step T kd td)
            refine ⟨L2, outs, d, hd, rfl, rfl, ch1.l2, by omega, z2, fun qq Hq nq sq cq => ?_⟩
            have ch2 := (ch1.pop2 (i := d) T).same T sq
            have em : ((pile : Int) - 1) = ((pile - 1 : Nat) : Int) := by omega
            refine ⟨L3, xs, _, rfl, rfl, ch2.l3, ?_, _, rfl, _, _, rfl, rfl, left, outs.eraseIdx d, _, _, pile - 1, y9, y10, by rw [← em]; rfl, ch2.push T (a := .give outs[d]) cq, cp.give hp hd, ?_⟩
            · rw [ch.pa.length]
              exact Nat.lt_of_le_of_lt lenA (by decide)
            · rw [List.length_eraseIdx_of_lt hd]
              omega
        · have ho := hb2 (by cases bb with | true => exact absurd rfl e | false => rfl)
          have ho1 : 0 < left.length := List.length_pos_iff.mpr ho
          have hle : left.length ≤ 3000 := by omega
          refine ⟨_, rfl, .inl ⟨rfl, _, SqL.of ch.l3⟩, _, rfl, .inl ⟨rfl, _, SqL.of ch.l1⟩, _, rfl, _, rfl, L1, _, rfl, .inl (SqL.of ch.l1), t, ((left.map V.str).length : Int), m + 9, rfl, by rw [l1]; omega, by rw [l1]; omega, ch.tp, fun d Hd d0 d1 kd td => ?_⟩
          rw [l1] at d1
          obtain ⟨d, rfl⟩ := Int.eq_ofNat_of_zero_le d0
          have hd : d < left.length := by omega
          have ch1 := (ch.step T kd td)
          refine ⟨L1, left, d, hd, rfl, rfl, ch1.l1, by omega, z2, fun qq Hq nq sq cq => ?_⟩
          have ch2 := (ch1.pop1 (i := d) T).same T sq
          refine ⟨L3, xs, _, rfl, rfl, ch2.l3, ?_, _, rfl, _, _, rfl, rfl, left.eraseIdx d, outs, _, _, pile + 1, y9, y10, rfl, (ch2.push T (a := .take left[d]) cq).mono (by omega), cp.take hd, ?_⟩
          · rw [ch.pa.length]
            exact Nat.lt_of_le_of_lt lenA (by decide)
          · rw [List.length_eraseIdx_of_lt hd]
            omega
      · clear ch cp hl lenA
        rintro σ H9 ⟨left, outs, xs, acts, pile, y9, y10, rfl, ch, cp, hl⟩
        have lenA : acts.length ≤ 6000 := by
          have := cp.len
          omega
        refine ⟨fun bb Hb => CoH t L1 L2 L3 H Hb left outs xs acts (m + 6) ∧ (bb = true → acts.length + 2 * (left.length + outs.length) < 23), ?_, ?_⟩
        · refine ⟨_, rfl, L3, xs, rfl, .inl (SqL.of ch.l3), _, rfl, L1, _, rfl, .inl (SqL.of ch.l1), _, rfl, L2, _, rfl, .inl (SqL.of ch.l2), _, _, rfl, rfl, _, _, rfl, rfl, .inl ⟨by omega, by omega⟩, _, _, rfl, rfl, _, _, rfl, rfl, _, rfl, ite2 (fun e => ?_) (fun e => ?_)⟩
          · have e : (xs.length : Int) < 23 - 2 * (((left.map V.str).length : Int) + ((outs.map V.str).length : Int)) := of_decide_eq_true e
            rw [l1, l1, ch.pa.length] at e
            exact ⟨_, rfl, t, 3, m + 6, rfl, by decide, by decide, ch.tp, fun d Hd d0 d1 kd td => ⟨_, _, rfl, rfl, _, rfl, ch.step T kd td, fun _ => by omega⟩⟩
          · exact ⟨ch.mono (by omega), fun z => (by cases z)⟩
        clear ch
        rintro bb Hb ⟨ch, hb1⟩
        refine ite2 (fun e => ?_) (fun e => ?_)
        · have hlen := hb1 e
          refine ⟨_, rfl, _, rfl, _, rfl, t, pile, places, m, rfl, ?_, hpl, ch.tp, fun v Hv kv tv gv => ?_⟩
          · have := cp.pl
            omega
          obtain ⟨qq, aa, act, rfl, g1, g2, g3, g4, g5, g6⟩ := gv
          have chv := ch.step T kv tv
          have hm : (pile : Int) + more act = (((pile : Int) + more act).toNat : Int) := by
            have := more_ge g3
            omega
          refine ⟨qq, _, rfl, SqT.of g1, rfl, _, _, rfl, _, _, rfl, rfl, _, rfl, .inl ⟨rfl, _, SqL.of chv.l3⟩, _, rfl, L3, xs, _, rfl, rfl, chv.l3, ?_, left, outs, _, _, ((pile : Int) + more act).toNat, _, _, _, by rw [← hm]; rfl, chv.push T g2, cp.mid (by omega) g3 g4 g5 g6, hl⟩
          rw [ch.pa.length]
          exact Nat.lt_of_le_of_lt lenA (by decide)
        · exact ⟨left, outs, xs, acts, pile, _, _, _, rfl, ch.mono (by omega), cp, hl⟩
    · rintro σ H9 ⟨left, outs, xs, acts, pile, y8, y9, y10, rfl, ch, cp, hl⟩
      have eNN : (N : Int).toNat = N := by omega
      rw [eNN, Nat.sub_self] at hl ch
      have e1 : left = [] := List.length_eq_zero_iff.mp (by omega)
      have e2 : outs = [] := List.length_eq_zero_iff.mp (by omega)
      subst e1 e2
      refine ⟨_, rfl, L3, xs, rfl, .inl (SqL.of ch.l3), fun p Hp sp cpp => q p Hp xs acts (ch.kp.trans (kp_same sp)) (tape_same sp (ch.tp.mono (by omega))) ⟨cpp, ch.pa.mono fun _ _ => actP_mono (kpT_same sp), ⟨pile, cp.lg⟩, cp.ok, fun z => ?_, fun z => ?_, ?_⟩⟩
      · have := cp.ct z
        simpa using this
      · have := cp.cg z
        simpa using this
      · have := cp.len
        rw [hN]
        exact Nat.le_trans (Nat.le_add_right _ _) this
end
end Tw

/-! the same rules, K named -/
namespace Tw
open PySem PySem.Spec PyProof.Rows L2
theorem ix_list' {X : Cx} (K : PySem.W.Frag) (h : X.K = K := by rfl) : IxR X (rIxL K) := by subst h; exact ix_list
end Tw
namespace Tw
open PySem PySem.Spec PyProof.Rows L2
theorem ix_tup' {X : Cx} (K : PySem.W.Frag) (h : X.K = K := by rfl) : IxR X (rIxT K) := by subst h; exact ix_tup
def rLenS (K : PySem.W.Frag) : List V → Hp → VK → Prop := fun xs H Q => ∃ p ys, xs = [.ref p] ∧ (SqL K H p ys ∨ SqT K H p ys) ∧ Q (.int ys.length) H
theorem call_len' {X : Cx} (K : PySem.W.Frag) (h : X.K = K := by rfl) : CallR X (.builtin "len") (rLenS K) := by subst h; exact call_len_seq
theorem pi_list' {X : Cx} {tg l : Expr} {tl : TE} (K : PySem.W.Frag) (hl : PE X l tl) (h : X.K = K := by rfl) : PI X tg l (iList K tl) := by subst h; exact pi_list hl
theorem pi_tup' {X : Cx} {tg l : Expr} {tl : TE} (K : PySem.W.Frag) (hl : PE X l tl) (h : X.K = K := by rfl) : PI X tg l (iTup K tl) := by subst h; exact pi_tup hl
theorem call_tupU' {X : Cx} (K : PySem.W.Frag) (h : X.K = K := by rfl) : CallR X (.type "tuple") (rTupU K) := by subst h; exact call_tupU
theorem call_lstU' {X : Cx} (K : PySem.W.Frag) (h : X.K = K := by rfl) : CallR X (.type "list") (rLstU K) := by subst h; exact call_lstU
end Tw

/-! _law_some_code -/
namespace Tw
open PySem PySem.Spec PyProof.Rows L2
theorem scSomeCode : FnScope ["_law_tape_here", "_law_names_here", "_law_most", "_law_takes", "_law_gives", "_law_places", "_law_turn"] ["_law_tape_here", "_law_names_here", "_law_most"] (defScope (topS 17)) := ⟨rfl, rfl, rfl, by decide +kernel, rfl, by decide +kernel, by decide +kernel⟩
theorem CodeOf.mono {K : PySem.W.Frag} {H H' : Hp} {p : Addr} {takes gives : List Str} {places : Nat} {xs : List V} {acts : List Act} (h : CodeOf K H p takes gives places xs acts) (k : KpT H H') : CodeOf K H' p takes gives places xs acts :=
  ⟨kpT_sqt k h.sq, h.pa.mono fun _ _ => actP_mono k, h.lg, h.ok, h.ct, h.cg, h.len⟩
/-- texts of some kind -/
def StrE (M : Str → Prop) (_ : Hp) (v : V) : Prop := ∃ z, v = .str z ∧ M z
theorem strE_mono {M : Str → Prop} : ∀ H H' v, KpT H H' → StrE M H v → StrE M H' v := fun _ _ _ _ h => h
theorem strs_of {M : Str → Prop} {H : Hp} : ∀ {acc : List V}, (∀ v ∈ acc, StrE M H v) → ∃ zs : List Str, acc = zs.map V.str ∧ ∀ z ∈ zs, M z
  | [], _ => ⟨[], rfl, fun _ h => nomatch h⟩
  | v :: r, h => by
    obtain ⟨z, rfl, hz⟩ := h v List.mem_cons_self
    obtain ⟨zs, e, hs⟩ := strs_of (acc := r) fun x hx => h x (List.mem_cons_of_mem _ hx)
    refine ⟨z :: zs, by rw [e]; rfl, fun x hx => ?_⟩
    rcases List.mem_cons.mp hx with rfl | hx
    · exact hz
    · exact hs x hx
def spSomeCode (K : PySem.W.Frag) : Sp := fun vs H Q _ => ∃ (t a : Addr) (n1 n2 n3 n4 : Str) (rest : List Str) (most n : Nat), vs = [.ref t, .ref a, .int (most : Int)] ∧ H a = some (.lst ((n1 :: n2 :: n3 :: n4 :: rest).map V.str)) ∧ (IsNm n1 ∧ IsNm n2 ∧ IsNm n3 ∧ IsNm n4) ∧ 1 ≤ most ∧ most ≤ 1000 ∧ Tape H t (n + (24 * most + 1)) ∧
  ∀ q p places takes gives xs acts H', Kp t H H' → Tape H' t n → H' q = some (.tup [.ref p, .int ((places : Nat) : Int)]) → places < 5 → (∀ z ∈ takes, z = n1 ∨ z = n2) → (∀ z ∈ gives, z = n3 ∨ z = n4) → takes.length < most → gives.length < most → CodeOf K H' p takes gives places xs acts → Q (.ref q) H'
section
variable {P : Program} {w : World} {K : PySem.W.Frag} {mg : Str → Option Value} {base : Heap}
theorem ok_some_code {f : Addr} {fd : FuncData} {k k1 k2 : Nat} (g : Bl mg) (C_law_draw : Cal P w K mg base "_law_draw" k1 ["_law_tape_here", "_law_many"] spDraw) (C_law_code_of : Cal P w K mg base "_law_code_of" k2 ["_law_tape_here", "_law_takes", "_law_gives", "_law_places"] (spCodeOf K)) (hk : k1 ≤ k) (hk2 : k2 ≤ k) (F : Fun K "_law_some_code" "_law_some_code" (topS 17) f fd) : FnOk P w K mg base CX0 (k + 1) f fd ["_law_tape_here", "_law_names_here", "_law_most"] (spSomeCode K) := by
  refine F.ok scSomeCode (fun vs H Q E h => ?_) (fun cdv A outer s H vs Q E hr h => ?_)
  · obtain ⟨t, a, n1, n2, n3, n4, rest, most, n, rfl, _⟩ := h
    rfl
  · obtain ⟨t, a, n1, n2, n3, n4, rest, most, n, rfl, ha, ⟨m1, m2, m3, m4⟩, hm1, hm2, hT, q⟩ := h
    refine ⟨_, (pss_cons (ps_setLc (i := 3) (own := [("_law_turn", 6)]) (g := (gName 6)) (tt := tYes) rfl scSomeCode.nd rfl rfl (sw_true rfl rfl rfl (by decide +kernel)) (pi_range1 (by rfl) g.range (pa_cons (pe_c C_law_draw hr hk (ha := (pa_cons (pv 0) (pa_cons (pv 2) pa_nil)))) pa_nil)) (blkOk_by (own := [("_law_turn", 6)]) (N := ["_law_tape_here", "_law_names_here", "_law_most", "_law_takes", "_law_gives", "_law_places", "_law_turn"]) (sc := defScope (topS 17)) (by decide +kernel)) (fun _ _ _ _ _ => (pg_name (i := 6) scSomeCode.nd rfl (Or.inl rfl))) (fun _ _ _ _ _ => pts_nil) (fun _ _ _ _ _ => (pe_ix (ix_list' K) (pv 1) (pe_c C_law_draw hr hk (ha := (pa_cons (pv 0) (pa_cons pe_int pa_nil)))) (fun _ _ => rfl))))
      (pss_cons (ps_setLc (i := 4) (own := [("_law_turn", 6)]) (g := (gName 6)) (tt := tYes) rfl scSomeCode.nd rfl rfl (sw_true rfl rfl rfl (by decide +kernel)) (pi_range1 (by rfl) g.range (pa_cons (pe_c C_law_draw hr hk (ha := (pa_cons (pv 0) (pa_cons (pv 2) pa_nil)))) pa_nil)) (blkOk_by (own := [("_law_turn", 6)]) (N := ["_law_tape_here", "_law_names_here", "_law_most", "_law_takes", "_law_gives", "_law_places", "_law_turn"]) (sc := defScope (topS 17)) (by decide +kernel)) (fun _ _ _ _ _ => (pg_name (i := 6) scSomeCode.nd rfl (Or.inl rfl))) (fun _ _ _ _ _ => pts_nil) (fun _ _ _ _ _ => (pe_ix (ix_list' K) (pv 1) (pe_op op_add pe_int (pe_c C_law_draw hr hk (ha := (pa_cons (pv 0) (pa_cons pe_int pa_nil))))) (fun _ _ => rfl))))
      (pss_cons (ps_set (i := 5) scSomeCode.nd rfl (Or.inl rfl) (pe_c C_law_draw hr hk (ha := (pa_cons (pv 0) (pa_cons pe_int pa_nil)))))
      (pss_one (ps_ret (pe_tupU (pa_cons (pe_c C_law_code_of hr hk2 (ha := (pa_cons (pv 0) (pa_cons (pv 3) (pa_cons (pv 4) (pa_cons (pv 5) pa_nil)))))) (pa_cons (pv 5) pa_nil)))))))), ?_⟩
    have hat : a ≠ t := strs_ne hT ha
    -- takes
    refine ⟨_, rfl, _, rfl, t, (most : Int), n + 24 * most, rfl, by omega, by omega, hT, fun d1 H1 d10 d11 k1 t1 => ⟨d1, rfl, by omega, by omega, fun D nD => ?_⟩⟩
    obtain ⟨d1, rfl⟩ := Int.eq_ofNat_of_zero_le d10
    have ed1 : (d1 : Int).toNat = d1 := by omega
    refine lcU_range (lo := 0) (n := (d1 : Int).toNat) (StrE fun z => z = n1 ∨ z = n2) strE_mono 1 (n + 23 * most) (by omega) nD (t1.mono (by omega)) ?_ ?_
    · intro i Hi R hi ki ti hR
      refine ⟨rfl, _, rfl, _, rfl, t, 2, _, rfl, by decide, by decide, ti, fun d Hd d0 d1 kd td => ?_⟩
      have hs := kd _ _ hat (ki _ _ hat (k1 _ _ hat ha))
      have : d = 0 ∨ d = 1 := by omega
      rcases this with rfl | rfl
      · exact ⟨a, _, 0, .str n1, rfl, rfl, SqL.of hs, atI_nat (j := 0) rfl, hR _ _ kd td ⟨n1, rfl, .inl rfl⟩⟩
      · exact ⟨a, _, 1, .str n2, rfl, rfl, SqL.of hs, atI_nat (j := 1) rfl, hR _ _ kd td ⟨n2, rfl, .inr rfl⟩⟩
    intro H2 acc k2 t2 c2 l2 e2
    rw [ed1] at l2
    obtain ⟨takes, rfl, ht⟩ := strs_of e2
    rw [List.length_map] at l2
    have k02 := k1.trans k2
    have hDt := tape_ne t1 nD
    -- gives
    refine ⟨_, rfl, _, rfl, t, (most : Int), n + 23 * most - 1, rfl, by omega, by omega, t2.mono (by omega), fun d3 H3 d30 d31 k3 t3 => ⟨d3, rfl, by omega, by omega, fun D2 nD2 => ?_⟩⟩
    obtain ⟨d3, rfl⟩ := Int.eq_ofNat_of_zero_le d30
    have ed3 : (d3 : Int).toNat = d3 := by omega
    refine lcU_range (lo := 0) (n := (d3 : Int).toNat) (StrE fun z => z = n3 ∨ z = n4) strE_mono 1 (n + 22 * most) (by omega) nD2 (t3.mono (by omega)) ?_ ?_
    · intro i Hi R hi ki ti hR
      refine ⟨rfl, _, rfl, _, rfl, t, 2, _, rfl, by decide, by decide, ti, fun d Hd d0 d1 kd td => ?_⟩
      have hs := kd _ _ hat (ki _ _ hat (k3 _ _ hat (k02 _ _ hat ha)))
      have : d = 0 ∨ d = 1 := by omega
      rcases this with rfl | rfl
      · exact ⟨2, 0, rfl, rfl, a, _, 2, .str n3, rfl, rfl, SqL.of hs, atI_nat (j := 2) rfl, hR _ _ kd td ⟨n3, rfl, .inl rfl⟩⟩
      · exact ⟨2, 1, rfl, rfl, a, _, 3, .str n4, rfl, rfl, SqL.of hs, atI_nat (j := 3) rfl, hR _ _ kd td ⟨n4, rfl, .inr rfl⟩⟩
    intro H4 acc k4 t4 c4 l4 e4
    rw [ed3] at l4
    obtain ⟨gives, rfl, hg⟩ := strs_of e4
    rw [List.length_map] at l4
    have k04 := k02.trans (k3.trans k4)
    have hD2t := tape_ne t3 nD2
    -- places, code
    refine ⟨_, rfl, t, 5, n + 22 * most - 1, rfl, by decide, by decide, t4.mono (by omega), fun pl H5 p0 p1 k5 t5 => ?_⟩
    obtain ⟨pl, rfl⟩ := Int.eq_ofNat_of_zero_le p0
    have nm : ∀ z ∈ takes, IsNm z := fun z hz => by
      rcases ht z hz with rfl | rfl
      · exact m1
      · exact m2
    have nm2 : ∀ z ∈ gives, IsNm z := fun z hz => by
      rcases hg z hz with rfl | rfl
      · exact m3
      · exact m4
    refine ⟨_, rfl, _, rfl, _, rfl, _, rfl, t, D, D2, takes, gives, pl, n, rfl, k5 _ _ hDt (k4 _ _ hDt (k3 _ _ hDt c2)), k5 _ _ hD2t c4, by omega, by omega, by omega, nm, nm2, t5.mono (by omega), fun p H6 xs acts k6 t6 co => ?_⟩
    refine ⟨_, rfl, (by decide : 2 ≤ 100000), fun qq H7 nq s7 c7 => q qq p pl takes gives xs acts H7 ((k04.trans (k5.trans k6)).trans (kp_same s7)) (tape_same s7 t6) c7 (by omega) ht hg (by omega) (by omega) (co.mono (kpT_same s7))⟩
end
end Tw

/-! Doing: do_act, __init__, told; done_by -/
namespace Tw
open PySem PySem.Spec PyProof.Rows L2
section
variable {X : Cx} {o e : Expr} {es : List Expr} {ta : TE} {t : TA} {m : Str} {C : Addr} {j k : Nat} {ps : List Str} {sp : Sp} {apos pos : Pos}
theorem pe_m {pl : Sem Bool} (he : PE X o ta) (c : Cls X.K C) (M : MCal X.prog X.w X.K X.mg X.base C m k ps sp) (hr : Room j X.A) (hk : k ≤ j := by decide) (ha : PA X (e :: es) t)
    (hst : starEach (e :: es) X.env = (false, eval e X.env) :: starEach es X.env := by rfl) (hpl : (backTo pos (starEach es X.env)).any (·.1) = false := by rfl)
    (ht : eval (.Call (.Attribute o m apos) (e :: es) [] pos) X.env = (do
      let ov ← eval o X.env
      standAt apos.atName
      let (f, first) ← holding [ov] (getMethod ov m pl)
      callWith pos f first (backTo pos (starEach (e :: es) X.env)) (backToKw pos (keywordEach [] X.env))) := by rfl) :
    PE X (.Call (.Attribute o m apos) (e :: es) [] pos) (tMeth C m sp [] E0 ta t) := by
  obtain ⟨f, fd, F, hm, hb⟩ := M.ex
  exact pe_meth (pl := pl) he c hm F (hr.mono hk) hb .nil pass0 ha hst hpl ht
theorem pe_m0 {pl : Sem Bool} (he : PE X o ta) (c : Cls X.K C) (M : MCal X.prog X.w X.K X.mg X.base C m k ps sp) (hr : Room j X.A) (hk : k ≤ j := by decide)
    (ht : eval (.Call (.Attribute o m apos) [] [] pos) X.env = (do
      let ov ← eval o X.env
      standAt apos.atName
      let (f, first) ← holding [ov] (getMethod ov m pl)
      callWith pos f first (backTo pos (starEach [] X.env)) (backToKw pos (keywordEach [] X.env))) := by rfl) :
    PE X (.Call (.Attribute o m apos) [] [] pos) (tMeth C m sp [] E0 ta tNil) := by
  obtain ⟨f, fd, F, hm, hb⟩ := M.ex
  exact pe_meth0 (pl := pl) he c hm F (hr.mono hk) hb .nil pass0 ht
end
/-! ### a dict comprehension over anything that is walked -/
theorem dc_it {J : It} {n : Nat} {G : Hp → Prop} {Y : Nat → Hp → V → Hp → Prop} (w : Walk J n G Y) {g : TG} {tt : TT} {tk tv : TE} {vs : List Nat} {σ : L2.St} {H1 : Hp} {D : Addr} {Qd : Hp → Prop} (Pv : Nat → Hp → Prop) (h0 : Pv 0 (upd H1 D (.dK []))) (hG : ∀ i H, i ≤ n → Pv i H → G H)
    (hs : ∀ i x H H', i < n → Pv i H → Y i H x H' → g x (wipe σ vs) H' fun σ2 H2 => wipe σ2 vs = wipe σ vs ∧ tt σ2 H2 fun b H3 =>
      if b = true then tk σ2 H3 fun y H4 => tv σ2 H4 fun z H5 => ∃ kvs k, y = kV k ∧ H5 D = some (.dK kvs) ∧ kvs.length < sizeLine ∧ Pv (i + 1) (upd H5 D (.dK (putK kvs k z))) else Pv (i + 1) H3) (hd : ∀ H, Pv n H → Qd H) :
    ∃ W : Nat → Nat → Hp → Prop, (∃ m, W 0 m (upd H1 D (.dK []))) ∧ ∀ i m H, W i m H →
      (J.stop i H ∧ Qd H) ∨ (J.go i H ∧ ∃ Nx : Hp → Prop, (∀ H', Nx H' → ∃ m', m' < m ∧ W (i + 1) m' H') ∧ ∀ x H', J.yld i H x H' → g x (wipe σ vs) H' fun σ2 H2 => wipe σ2 vs = wipe σ vs ∧ tt σ2 H2 fun b H3 =>
        if b = true then tk σ2 H3 fun y H4 => tv σ2 H4 fun z H5 => ∃ kvs k, y = kV k ∧ H5 D = some (.dK kvs) ∧ kvs.length < sizeLine ∧ Nx (upd H5 D (.dK (putK kvs k z))) else Nx H3) := by
  refine ⟨fun i m H => m = n - i ∧ i ≤ n ∧ Pv i H, ⟨n, by simp, Nat.zero_le _, h0⟩, ?_⟩
  rintro i m H ⟨rfl, hi, p⟩
  have q := hG i H hi p
  by_cases hlt : i < n
  · refine .inr ⟨w.goes i H hlt q, Pv (i + 1), fun H' p' => ⟨n - (i + 1), by omega, rfl, hlt, p'⟩, fun x H' y => hs i x H H' hlt p (w.yields i H x H' hlt q y)⟩
  · have e : i = n := by omega
    subst e
    exact .inl ⟨w.stops H q, hd H p⟩
def SqS (K : PySem.W.Frag) (H : Hp) (a : Addr) (xs : List V) : Prop := SqL K H a xs ∨ SqT K H a xs
theorem sqs_mono {K : PySem.W.Frag} {H H' : Hp} {a : Addr} {xs : List V} (e : Same H H') (h : SqS K H a xs) : SqS K H' a xs := by
  rcases h with h | h
  · exact .inl (e.seq h)
  · exact .inr (same_sqt e h)
/-- a dict of lists or tuples of numbers -/
inductive EntsA (K : PySem.W.Frag) (H : Hp) : List (Key × V) → List (Str × List Int) → Prop
  | nil : EntsA K H [] []
  | cons {s : Str} {a : Addr} {ns : List Int} {kvs : List (Key × V)} {es : List (Str × List Int)} : SqS K H a (ns.map V.int) → EntsA K H kvs es → EntsA K H ((Sum.inr s, .ref a) :: kvs) ((s, ns) :: es)
theorem entsA_mono {K : PySem.W.Frag} {H H' : Hp} (k : Same H H') : ∀ {kvs : List (Key × V)} {es : List (Str × List Int)}, EntsA K H kvs es → EntsA K H' kvs es
  | _, _, .nil => .nil
  | _, _, .cons h r => .cons (sqs_mono k h) (entsA_mono k r)
theorem entsA_len {K : PySem.W.Frag} {H : Hp} : ∀ {kvs : List (Key × V)} {es : List (Str × List Int)}, EntsA K H kvs es → kvs.length = es.length
  | _, _, .nil => rfl
  | _, _, .cons _ r => congrArg Nat.succ (entsA_len r)
theorem entsA_get {K : PySem.W.Frag} {H : Hp} : ∀ {kvs : List (Key × V)} {es : List (Str × List Int)} {i : Nat} {kv : Key × V}, EntsA K H kvs es → kvs[i]? = some kv → ∃ s a ns, kv = (Sum.inr s, .ref a) ∧ es[i]? = some (s, ns) ∧ SqS K H a (ns.map V.int)
  | _, _, _, _, .nil, e => by simp at e
  | _, _, 0, _, .cons (s := s) (a := a) (ns := ns) h _, e => by
    simp at e
    exact ⟨s, a, ns, e.symm, rfl, h⟩
  | _, _, i + 1, kv, .cons _ r, e => by
    obtain ⟨s, a, ns, h1, h2, h3⟩ := entsA_get (i := i) (kv := kv) r (by simpa using e)
    exact ⟨s, a, ns, h1, by simpa using h2, h3⟩
theorem ents_A {K : PySem.W.Frag} {H : Hp} : ∀ {kvs : List (Key × V)} {es : List (Str × List Int)} {as : List Addr}, Ents H kvs es as → EntsA K H kvs es
  | _, _, _, .nil => .nil
  | _, _, _, .cons h r => .cons (.inl (SqL.of h)) (ents_A r)
theorem lk_fresh {es : List (Str × List Int)} {i : Nat} {s : Str} {ns : List Int} (h : es[i]? = some (s, ns)) (nd : (es.map (·.1)).Nodup) : lk (es.take i) s = none := by
  cases e : lk (es.take i) s with
  | none => rfl
  | some ms =>
    have h1 := lk_mem e
    obtain ⟨j, hj⟩ := List.mem_iff_getElem?.mp h1
    have hji : j < i := by
      have := (List.getElem?_eq_some_iff.mp hj).1
      rw [List.length_take] at this
      omega
    rw [List.getElem?_take_of_lt hji] at hj
    have hi : i < es.length := (List.getElem?_eq_some_iff.mp h).1
    have h2 : (es.map (·.1))[j]? = some s := by rw [List.getElem?_map, hj]; rfl
    have h3 : (es.map (·.1))[i]? = some s := by rw [List.getElem?_map, h]; rfl
    have hl : i < (es.map (·.1)).length := by rw [List.length_map]; exact hi
    have := (List.getElem?_inj (by omega) nd).mp (h2.trans h3.symm)
    omega
/-- {k: list(v) for k, v in d.items()} -/
theorem copyD {K : PySem.W.Frag} {σ : L2.St} {i j : Nat} {vs : List Nat} {H2 : Hp} {td : Addr} {tds : List (Key × V)} {es : List (Str × List Int)} {Q : VK} {te : TE} (hd : H2 td = some (.dK tds)) (he : EntsA K H2 tds es) (nk : (es.map (·.1)).Nodup) (hlen : es.length ≤ 5000)
    (hx : ∀ x y, (((wipe σ vs).set i (some x)).set j (some y))[i]? = some (some x)) (hy : ∀ x y, (((wipe σ vs).set i (some x)).set j (some y))[j]? = some (some y)) (hw : ∀ x y, wipe (((wipe σ vs).set i (some x)).set j (some y)) vs = wipe σ vs)
    (hte : ∀ od (Q' : VK), Q' (.ref td) (upd H2 td (.frz od (.dK tds))) → te σ (upd H2 td (.frz od (.dK tds))) Q')
    (q : ∀ D kvs as H', H2 D = none → Same H2 H' → H' D = some (.dK kvs) → Ents H' kvs es as → as.Nodup → (∀ a ∈ as, H2 a = none) → Q (.ref D) H') :
    tLockE (tDc (iItems te) (gTup K 2 (gCons (gName i) (gCons (gName j) gNil))) tYes (tVar i) (tCB (Evl.rListS K) (tCons (tVar j) tNil)) vs) σ H2 Q := by
  refine ⟨td, .dK tds, hd, trivial, fun od => hte od _ ⟨td, od, tds, rfl, upd_same, fun D nD => ?_⟩⟩
  have nDt : D ≠ td := fun e => by
    rw [e, upd_same] at nD
    cases nD
  have nD2 : H2 D = none := by
    rw [upd_ne nDt] at nD
    exact nD
  -- the locked heap keeps what H2 has, but for the dict
  have lk2 : ∀ b o, b ≠ td → H2 b = some o → (upd H2 td (.frz od (.dK tds))) b = some o := fun b o h1 h2 => by
    rw [upd_ne h1]
    exact h2
  have sqk : ∀ {H3 : Hp} {a : Addr} {xs : List V}, (∀ b o, b ≠ td → H2 b = some o → H3 b = some o) → SqS K H2 a xs → SqS K H3 a xs := fun {H3 a xs} k h => by
    rcases h with h | h
    · refine .inl ?_
      rcases h with (h | ⟨o, h⟩) | h
      · exact .inl (.inl (k _ _ (fun e => by rw [e, hd] at h; cases h) h))
      · exact .inl (.inr ⟨o, k _ _ (fun e => by rw [e, hd] at h; cases h) h⟩)
      · exact .inr h
    · refine .inr ?_
      rcases h with (h | ⟨o, h⟩) | h
      · exact .inl (.inl (k _ _ (fun e => by rw [e, hd] at h; cases h) h))
      · exact .inl (.inr ⟨o, k _ _ (fun e => by rw [e, hd] at h; cases h) h⟩)
      · exact .inr h
  refine dc_it walk_items (fun n H3 => (∀ b o, b ≠ td → H2 b = some o → H3 b = some o) ∧ H3 td = some (.frz od (.dK tds)) ∧ ∃ kvs as, H3 D = some (.dK kvs) ∧ Ents H3 kvs (es.take n) as ∧ as.Nodup ∧ (∀ a ∈ as, H2 a = none ∧ a ≠ D ∧ a ≠ td))
    ⟨fun b o h1 h2 => ?_, ?_, [], [], upd_same, .nil, List.nodup_nil, fun a ha => nomatch ha⟩ (fun n H3 _ p => p.2.1) ?_ ?_
  · rw [upd_ne (ne_of_none h2 nD2)]
    exact lk2 b o h1 h2
  · rw [upd_ne nDt.symm, upd_same]
  · rintro n x H3 H4 hn ⟨k3, l3, kvs, as, d3, e3, n3, f3⟩ ⟨T, x1, x2, rfl, nT, rfl, g1, g2⟩
    obtain ⟨kv, hkv⟩ : ∃ kv, tds[n]? = some kv := ⟨tds[n], List.getElem?_eq_getElem hn⟩
    obtain ⟨s, a, ns, rfl, hes, hsq⟩ := entsA_get he hkv
    dsimp only at g1 g2
    rw [hkv] at g1 g2
    cases g1
    cases g2
    have nTD : D ≠ T := ne_of_none d3 nT
    have nTt : td ≠ T := ne_of_none l3 nT
    have nT2 : H2 T = none := by
      cases e : H2 T with
      | none => rfl
      | some o =>
        rw [k3 T o (fun z => nTt z.symm) e] at nT
        cases nT
    refine ⟨T, _, rfl, .inl (.inl upd_same), rfl, _, _, rfl, _, _, rfl, rfl, ?_, ?_⟩
    · exact hw _ _
    · refine ⟨_, hx _ _, _, hy _ _, a, ns.map V.int, rfl, ?_, fun l nl => ?_⟩
      · exact sqk (fun b o h1 h2 => by rw [upd_ne (ne_of_none h2 nT2)]; exact k3 b o h1 h2) hsq
      · have nlT : l ≠ T := fun e => by
          rw [e, upd_same] at nl
          cases nl
        have nl3 : H3 l = none := by
          rw [upd_ne nlT] at nl
          exact nl
        have nlD : D ≠ l := ne_of_none d3 nl3
        have nlt : td ≠ l := ne_of_none l3 nl3
        have nl2 : H2 l = none := by
          cases e : H2 l with
          | none => rfl
          | some o =>
            rw [k3 l o (fun z => nlt z.symm) e] at nl3
            cases nl3
        have hl0 : lk (es.take n) s = none := lk_fresh hes nk
        have hv0 : valV kvs (Sum.inr s : Key) = none := (ents_none e3).mpr hl0
        have d5 : (upd (upd H3 T (.tup [.str s, .ref a])) l (.lst (ns.map V.int))) D = some (.dK kvs) := by
          rw [upd_ne nlD, upd_ne nTD]
          exact d3
        refine ⟨kvs, Sum.inr s, rfl, d5, ?_, fun b o h1 h2 => ?_, ?_, kvs ++ [(Sum.inr s, .ref l)], as ++ [l], ?_, ?_, ?_, ?_⟩
        · rw [(ents_len e3).1, List.length_take]
          have : sizeLine = 16777216 := rfl
          omega
        · rw [upd_ne (ne_of_none h2 nD2), upd_ne (ne_of_none h2 nl2), upd_ne (ne_of_none h2 nT2)]
          exact k3 b o h1 h2
        · rw [upd_ne nDt.symm, upd_ne nlt, upd_ne nTt]
          exact l3
        · rw [upd_same, putK_new _ hv0]
        · rw [List.take_add_one, hes]
          refine ents_snoc ?_ (ents_mono e3 fun b hb o ho => ?_)
          · rw [upd_ne nlD.symm, upd_same]
          · rw [upd_ne (f3 b hb).2.1, upd_ne (ne_of_none ho nl3), upd_ne (ne_of_none ho nT)]
            exact ho
        · rw [List.nodup_append]
          refine ⟨n3, by simp, fun b hb c hc => ?_⟩
          rw [List.mem_singleton.mp hc]
          obtain ⟨ms, hm⟩ := ents_lst e3 hb
          exact ne_of_none hm nl3
        · intro b hb
          rcases List.mem_append.mp hb with hb | hb
          · exact f3 b hb
          · rw [List.mem_singleton.mp hb]
            exact ⟨nl2, nlD.symm, nlt.symm⟩
  · rintro H3 ⟨k3, l3, kvs, as, d3, e3, n3, f3⟩
    refine ⟨l3, q D kvs as _ nD2 (fun b o h => ?_) ?_ ?_ n3 fun a ha => (f3 a ha).1⟩
    · by_cases hb : b = td
      · subst hb
        rw [upd_same]
        rw [hd] at h
        exact h
      · rw [upd_ne hb]
        exact k3 b o hb h
    · rw [upd_ne nDt]
      exact d3
    · have et : es.take tds.length = es := List.take_of_length_le (by rw [entsA_len he]; exact Nat.le_refl _)
      rw [et] at e3
      exact ents_mono e3 fun b hb o ho => by
        rw [upd_ne (f3 b hb).2.2]
        exact ho
theorem scDoInit : FnScope ["self", "kept", "taken", "tray", "numbers"] ["self", "kept", "taken"] (defScope sDoInit) := ⟨rfl, rfl, rfl, by decide +kernel, rfl, by decide +kernel, by decide +kernel⟩
theorem scTold : FnScope ["self", "tray", "numbers"] ["self"] (defScope sTold) := ⟨rfl, rfl, rfl, by decide +kernel, rfl, by decide +kernel, by decide +kernel⟩
def spInit (K : PySem.W.Frag) (C : Addr) : Sp := fun vs H Q _ => ∃ (H0 : Hp) (p dx kt td : Addr) (ks : List Int) (tds : List (Key × V)) (taken : List (Str × List Int)), vs = [.ref p, .ref kt, .ref td] ∧ H p = some (.ins C dx []) ∧ H0 p = none ∧ Same H0 H ∧ SqS K H0 kt (ks.map V.int) ∧ H0 td = some (.dK tds) ∧ EntsA K H0 tds taken ∧
  (taken.map (·.1)).Nodup ∧ taken.length ≤ 1000 ∧ ∀ H', DAt C H0 H' p ⟨[], ks, taken, []⟩ → Q .non H'
/-- the pair that is told -/
structure Pair2 (H H' : Hp) (r : Addr) (kept : List Int) (given : List (Str × List Int)) : Prop where
  ex : ∃ kt gd gvs ga, H r = none ∧ H kt = none ∧ H gd = none ∧ (∀ a ∈ ga, H a = none) ∧ H' r = some (.tup [.ref kt, .ref gd]) ∧ H' kt = some (.tup (kept.map V.int)) ∧ H' gd = some (.dK gvs) ∧ Ents H' gvs given ga ∧ ga.Nodup
def spTold (C : Addr) : Sp := fun vs H Q _ => ∃ (H0 : Hp) (p : Addr) (s : DS), vs = [.ref p] ∧ DAt C H0 H p s ∧ s.Bnd 5000 ∧ ∀ r H', Same H0 H' → Pair2 H0 H' r s.kept s.given → Q (.ref r) H'
section
variable {P : Program} {w : World} {K : PySem.W.Frag} {mg : Str → Option Value} {base : Heap}
theorem ok_do_act {f C : Addr} {fd : FuncData} {k k1 k2 k3 : Nat} (T : TD K mg C) (c : Cst mg) (M1 : MCal P w K mg base C "come_on" k1 ["self", "word", "thing"] (spComeOn C)) (M2 : MCal P w K mg base C "go_off" k2 ["self", "word", "thing"] (spGoOff C)) (M3 : MCal P w K mg base C "reckon" k3 ["self", "word"] (spReckon C))
    (h1 : k1 ≤ k) (h2 : k2 ≤ k) (h3 : k3 ≤ k) (F : Fun K "do_act" "Doing.do_act" sDoAct f fd) : FnOk P w K mg base CX0 (k + 1) f fd ["self", "act"] (spDoAct K C) := by
  refine F.ok scDoAct (fun vs H Q E h => ?_) (fun cdv A outer s H vs Q E hr h => ?_)
  · obtain ⟨H0, p, v, s, s', a, rfl, _⟩ := h
    rfl
  · obtain ⟨H0, p, v, s, s', a, rfl, ⟨dx, pl, kp, tk, gv, tks, gvs, ta, ga, X⟩, ⟨qa, rfl, ha⟩, hok, hgood, hb, hst, q⟩ := h
    obtain ⟨t1, cT⟩ := c.TAKE
    obtain ⟨t2, cG⟩ := c.GIVE
    obtain ⟨t3, cP⟩ := c.KEEP
    obtain ⟨t4, cK⟩ := c.KEPT
    refine ⟨_, (pss_cons (ps_asg (pv 1) (pg_star (i := 2) (j := 3) rfl scDoAct.nd rfl rfl (Or.inl rfl) (Or.inl rfl)))
  (pss_one (ps_if (pt_cmpR op_in_seq (pv 2) (pe_tup (pa_cons (pe_glob (v := .str "take") rfl cT ⟨_, rfl⟩) (pa_cons pe_str (pa_cons (pe_glob (v := .str "kept") rfl cK ⟨_, rfl⟩) pa_nil)))) rfl)
    (pss_one (ps_expr (pe_bm PySem.F.plainAttrs_list PySem.F.slot_list_append PySem.F.type_list_append mt_appR (pe_fld (pv 0) rfl) (pa_cons (pe_m (pv 0) T.cl M1 hr h1 (ha := pa_cons (pv 2) (pa_cons (pe_ix ix_list (pv 3) pe_int (fun _ _ => rfl)) pa_nil))) pa_nil))))
    (pss_one (ps_if (pt_cmpR op_in_seq (pv 2) (pe_tup (pa_cons (pe_glob (v := .str "give") rfl cG ⟨_, rfl⟩) (pa_cons (pe_glob (v := .str "keep") rfl cP ⟨_, rfl⟩) pa_nil))) rfl)
      (pss_one (ps_expr (pe_m (pv 0) T.cl M2 hr h2 (ha := pa_cons (pv 2) (pa_cons (pe_ix ix_list (pv 3) pe_int (fun _ _ => rfl)) pa_nil)))))
      (pss_one (ps_expr (pe_m (pv 0) T.cl M3 hr h3 (ha := pa_cons (pv 2) pa_nil))))))))), ?_⟩
    have z3 : 3 ≤ sizeLine := by decide
    have z2 : 2 ≤ sizeLine := by decide
    have hbp := hb.p
    cases a with
    | take t =>
      unfold step at hst
      dsimp only at hst
      split at hst
      · rename_i x r hl
        cases hst
        refine ⟨_, rfl, qa, _, _, rfl, ha, fun p3 n3 => ?_⟩
        have X1 := X.other (same_new (o := .lst [.str t]) n3)
        refine ⟨_, rfl, z3, fun tp np => ⟨tp, _, rfl, .inr (SqT.of upd_same), rfl, rfl, _, rfl, iteT ?_⟩⟩
        have X2 := X1.other (same_new (o := .tup [.str "take", .str "number", .str "kept"]) np)
        have n3p : p3 ≠ tp := fun e => by
          rw [← e, upd_same] at np
          cases np
        have e3 : (upd (upd H p3 (.lst [.str t])) tp (.tup [.str "take", .str "number", .str "kept"])) p3 = some (.lst [.str t]) := by
          rw [upd_ne n3p, upd_same]
        refine ⟨_, rfl, p, C, dx, _, _, rfl, X2.ob, T.cl, T.n1, flds_pile, .inl ⟨rfl, _, SqL.of X2.hp⟩, ?_⟩
        refine ⟨_, rfl, p, dx, _, rfl, X2.ob, flds_no1, _, rfl, _, rfl, p3, _, 0, .str t, rfl, rfl, SqL.of e3, rfl, ?_⟩
        refine ⟨H0, p, dx, pl, kp, tk, gv, tks, gvs, ta, ga, s, "take", .str t, x, stE s.taken t r, rfl, X2, .inl ⟨rfl, t, r, rfl, hl, rfl⟩, fun H5 X5 => ?_⟩
        refine ⟨pl, x, s.pile, rfl, rfl, X5.hp, by omega, ?_⟩
        exact q _ ⟨dx, pl, kp, tk, gv, tks, gvs, ta, ga, X5.pile (x :: s.pile)⟩
      · cases hst
    | num n =>
      cases hst
      refine ⟨_, rfl, qa, _, _, rfl, ha, fun p3 n3 => ?_⟩
      have X1 := X.other (same_new (o := .lst [.int n]) n3)
      refine ⟨_, rfl, z3, fun tp np => ⟨tp, _, rfl, .inr (SqT.of upd_same), rfl, rfl, _, rfl, iteT ?_⟩⟩
      have X2 := X1.other (same_new (o := .tup [.str "take", .str "number", .str "kept"]) np)
      have n3p : p3 ≠ tp := fun e => by
        rw [← e, upd_same] at np
        cases np
      have e3 : (upd (upd H p3 (.lst [.int n])) tp (.tup [.str "take", .str "number", .str "kept"])) p3 = some (.lst [.int n]) := by
        rw [upd_ne n3p, upd_same]
      refine ⟨_, rfl, p, C, dx, _, _, rfl, X2.ob, T.cl, T.n1, flds_pile, .inl ⟨rfl, _, SqL.of X2.hp⟩, ?_⟩
      refine ⟨_, rfl, p, dx, _, rfl, X2.ob, flds_no1, _, rfl, _, rfl, p3, _, 0, .int n, rfl, rfl, SqL.of e3, rfl, ?_⟩
      refine ⟨H0, p, dx, pl, kp, tk, gv, tks, gvs, ta, ga, s, "number", .int n, n, s.taken, rfl, X2, .inr (.inl ⟨rfl, rfl, rfl⟩), fun H5 X5 => ?_⟩
      refine ⟨pl, n, s.pile, rfl, rfl, X5.hp, by omega, ?_⟩
      exact q _ ⟨dx, pl, kp, tk, gv, tks, gvs, ta, ga, X5.pile (n :: s.pile)⟩
    | kept j =>
      unfold step at hst
      dsimp only at hst
      split at hst
      · rename_i x hl
        cases hst
        refine ⟨_, rfl, qa, _, _, rfl, ha, fun p3 n3 => ?_⟩
        have X1 := X.other (same_new (o := .lst [.int (j : Int)]) n3)
        refine ⟨_, rfl, z3, fun tp np => ⟨tp, _, rfl, .inr (SqT.of upd_same), rfl, rfl, _, rfl, iteT ?_⟩⟩
        have X2 := X1.other (same_new (o := .tup [.str "take", .str "number", .str "kept"]) np)
        have n3p : p3 ≠ tp := fun e => by
          rw [← e, upd_same] at np
          cases np
        have e3 : (upd (upd H p3 (.lst [.int (j : Int)])) tp (.tup [.str "take", .str "number", .str "kept"])) p3 = some (.lst [.int (j : Int)]) := by
          rw [upd_ne n3p, upd_same]
        refine ⟨_, rfl, p, C, dx, _, _, rfl, X2.ob, T.cl, T.n1, flds_pile, .inl ⟨rfl, _, SqL.of X2.hp⟩, ?_⟩
        refine ⟨_, rfl, p, dx, _, rfl, X2.ob, flds_no1, _, rfl, _, rfl, p3, _, 0, .int (j : Int), rfl, rfl, SqL.of e3, rfl, ?_⟩
        refine ⟨H0, p, dx, pl, kp, tk, gv, tks, gvs, ta, ga, s, "kept", .int (j : Int), x, s.taken, rfl, X2, .inr (.inr ⟨rfl, j, rfl, hl, rfl⟩), fun H5 X5 => ?_⟩
        refine ⟨pl, x, s.pile, rfl, rfl, X5.hp, by omega, ?_⟩
        exact q _ ⟨dx, pl, kp, tk, gv, tks, gvs, ta, ga, X5.pile (x :: s.pile)⟩
      · cases hst
    | give t =>
      unfold step at hst
      dsimp only at hst
      split at hst
      · rename_i x r hl
        cases hst
        refine ⟨_, rfl, qa, _, _, rfl, ha, fun p3 n3 => ?_⟩
        have X1 := X.other (same_new (o := .lst [.str t]) n3)
        refine ⟨_, rfl, z3, fun tp np => ⟨tp, _, rfl, .inr (SqT.of upd_same), rfl, rfl, _, rfl, iteF ?_⟩⟩
        have X2 := X1.other (same_new (o := .tup [.str "take", .str "number", .str "kept"]) np)
        have n3p : p3 ≠ tp := fun e => by
          rw [← e, upd_same] at np
          cases np
        have e3 : (upd (upd H p3 (.lst [.str t])) tp (.tup [.str "take", .str "number", .str "kept"])) p3 = some (.lst [.str t]) := by
          rw [upd_ne n3p, upd_same]
        refine ⟨_, rfl, z2, fun tr nr => ⟨tr, _, rfl, .inr (SqT.of upd_same), rfl, rfl, _, rfl, iteT ?_⟩⟩
        have X3 := X2.other (same_new (o := .tup [.str "give", .str "keep"]) nr)
        have e4 := same_new (o := .tup [.str "give", .str "keep"]) nr _ _ e3
        refine ⟨_, rfl, p, dx, _, rfl, X3.ob, flds_no2, _, rfl, _, rfl, p3, _, 0, .str t, rfl, rfl, SqL.of e4, rfl, ?_⟩
        exact ⟨H0, p, s, "give", .str t, x, r, rfl, ⟨dx, pl, kp, tk, gv, tks, gvs, ta, ga, X3⟩, hb, hl, .inl ⟨rfl, t, rfl, q⟩⟩
      · cases hst
    | keep j =>
      unfold step at hst
      dsimp only at hst
      split at hst
      · rename_i x r hl
        split at hst
        · rename_i hj
          cases hst
          refine ⟨_, rfl, qa, _, _, rfl, ha, fun p3 n3 => ?_⟩
          have X1 := X.other (same_new (o := .lst [.int (j : Int)]) n3)
          refine ⟨_, rfl, z3, fun tp np => ⟨tp, _, rfl, .inr (SqT.of upd_same), rfl, rfl, _, rfl, iteF ?_⟩⟩
          have X2 := X1.other (same_new (o := .tup [.str "take", .str "number", .str "kept"]) np)
          have n3p : p3 ≠ tp := fun e => by
            rw [← e, upd_same] at np
            cases np
          have e3 : (upd (upd H p3 (.lst [.int (j : Int)])) tp (.tup [.str "take", .str "number", .str "kept"])) p3 = some (.lst [.int (j : Int)]) := by
            rw [upd_ne n3p, upd_same]
          refine ⟨_, rfl, z2, fun tr nr => ⟨tr, _, rfl, .inr (SqT.of upd_same), rfl, rfl, _, rfl, iteT ?_⟩⟩
          have X3 := X2.other (same_new (o := .tup [.str "give", .str "keep"]) nr)
          have e4 := same_new (o := .tup [.str "give", .str "keep"]) nr _ _ e3
          refine ⟨_, rfl, p, dx, _, rfl, X3.ob, flds_no2, _, rfl, _, rfl, p3, _, 0, .int (j : Int), rfl, rfl, SqL.of e4, rfl, ?_⟩
          exact ⟨H0, p, s, "keep", .int (j : Int), x, r, rfl, ⟨dx, pl, kp, tk, gv, tks, gvs, ta, ga, X3⟩, hb, hl, .inr ⟨rfl, j, rfl, hj, q⟩⟩
        · cases hst
      · cases hst
    | wrd wd =>
      unfold step at hst
      dsimp only at hst
      split at hst
      · rename_i pp hl
        cases hst
        refine ⟨_, rfl, qa, _, _, rfl, ha, fun p3 n3 => ?_⟩
        have X1 := X.other (same_new (o := .lst []) n3)
        have i1 : inV (.str wd) [.str "take", .str "number", .str "kept"] = false := by
          have hm : wd ∈ words8 := hok
          simp only [words8, List.mem_cons, List.not_mem_nil, or_false] at hm
          rcases hm with rfl | rfl | rfl | rfl | rfl | rfl | rfl | rfl <;> rfl
        have i2 : inV (.str wd) [.str "give", .str "keep"] = false := by
          have hm : wd ∈ words8 := hok
          simp only [words8, List.mem_cons, List.not_mem_nil, or_false] at hm
          rcases hm with rfl | rfl | rfl | rfl | rfl | rfl | rfl | rfl <;> rfl
        refine ⟨_, rfl, z3, fun tp np => ⟨tp, _, rfl, .inr (SqT.of upd_same), rfl, rfl, false, congrArg V.bl i1, iteF ?_⟩⟩
        have X2 := X1.other (same_new (o := .tup [.str "take", .str "number", .str "kept"]) np)
        refine ⟨_, rfl, z2, fun tr nr => ⟨tr, _, rfl, .inr (SqT.of upd_same), rfl, rfl, false, congrArg V.bl i2, iteF ?_⟩⟩
        have X3 := X2.other (same_new (o := .tup [.str "give", .str "keep"]) nr)
        refine ⟨_, rfl, p, dx, _, rfl, X3.ob, flds_no3, _, rfl, ?_⟩
        exact ⟨H0, p, dx, pl, kp, tk, gv, tks, gvs, ta, ga, s, wd, pp, rfl, X3, hgood.p, hbp, hl, fun H' X' => q _ ⟨dx, pl, kp, tk, gv, tks, gvs, ta, ga, X'⟩⟩
      · cases hst
end
end Tw

/-! Doing.__init__, told, done_by -/
namespace Tw
open PySem PySem.Spec PyProof.Rows L2
abbrev sDoneBy : Stmt := topS 8
theorem scDoneBy : FnScope ["code", "kept", "taken", "doing", "act"] ["code", "kept", "taken"] (defScope sDoneBy) := ⟨rfl, rfl, rfl, by decide +kernel, rfl, by decide +kernel, by decide +kernel⟩
def spDoneBy (K : PySem.W.Frag) : Sp := fun vs H Q _ => ∃ (c kt td : Addr) (xs : List V) (acts : List Act) (ks : List Int) (tds : List (Key × V)) (taken : List (Str × List Int)) (s' : DS), vs = [.ref c, .ref kt, .ref td] ∧ SqT K H c xs ∧ Paired (ActV K H) xs acts ∧ (∀ a ∈ acts, actOk a) ∧ acts.length ≤ 1000 ∧
  SqS K H kt (ks.map V.int) ∧ H td = some (.dK tds) ∧ EntsA K H tds taken ∧ (taken.map (·.1)).Nodup ∧ taken.length ≤ 1000 ∧ DS.Good ⟨[], ks, taken, []⟩ ∧ runA ⟨[], ks, taken, []⟩ acts = some s' ∧ ∀ r H', Same H H' → Pair2 H H' r s'.kept s'.given → Q (.ref r) H'
theorem actv_mono {K : PySem.W.Frag} {H H' : Hp} (k : Same H H') {v : V} {a : Act} (h : ActV K H v a) : ActV K H' v a := by
  obtain ⟨q, e, h⟩ := h
  exact ⟨q, e, same_sqt k h⟩
theorem paired_get {α β : Type} {F : α → β → Prop} : ∀ {xs : List α} {ys : List β} {i : Nat} {x : α}, Paired F xs ys → xs[i]? = some x → ∃ y, ys[i]? = some y ∧ F x y
  | _, _, _, _, .nil, e => by simp at e
  | _, _, 0, _, .cons h _, e => by
    simp at e
    subst e
    exact ⟨_, rfl, h⟩
  | _, _, i + 1, x, .cons _ r, e => by
    obtain ⟨y, h1, h2⟩ := paired_get (i := i) (x := x) r (by simpa using e)
    exact ⟨y, by simpa using h1, h2⟩
theorem runA_app : ∀ (as bs : List Act) (s t : DS), runA s (as ++ bs) = some t → ∃ s', runA s as = some s' ∧ runA s' bs = some t
  | [], _, s, _, h => ⟨s, rfl, h⟩
  | a :: r, bs, s, t, h => by
    have h' : (match step s a with | some s' => runA s' (r ++ bs) | none => none) = some t := h
    cases e : step s a with
    | none =>
      rw [e] at h'
      cases h'
    | some s1 =>
      rw [e] at h'
      obtain ⟨s', h1, h2⟩ := runA_app r bs s1 t h'
      refine ⟨s', ?_, h2⟩
      show (match step s a with | some s' => runA s' r | none => none) = some s'
      rw [e]
      exact h1
/-- what holds behind so many acts -/
theorem run_inv : ∀ (as : List Act) (s t : DS), runA s as = some t → s.Good → (∀ a ∈ as, actOk a) → ∀ n, s.Bnd n → t.Good ∧ t.Bnd (n + as.length)
  | [], s, t, h, g, _, n, b => by
    cases h
    exact ⟨g, b⟩
  | a :: r, s, t, h, g, ho, n, b => by
    have h' : (match step s a with | some s' => runA s' r | none => none) = some t := h
    cases e : step s a with
    | none =>
      rw [e] at h'
      cases h'
    | some s1 =>
      rw [e] at h'
      have := run_inv r s1 t h' (step_good e g (ho a List.mem_cons_self).good) (fun x hx => ho x (List.mem_cons_of_mem _ hx)) (n + 1) (step_bnd e b)
      rw [List.length_cons, show n + (r.length + 1) = n + 1 + r.length by omega]
      exact this
section
variable {P : Program} {w : World} {K : PySem.W.Frag} {mg : Str → Option Value} {base : Heap}
theorem ok_init {f C : Addr} {fd : FuncData} {k : Nat} (g : Bl mg) (T : TD K mg C) (F : Fun K "__init__" "Doing.__init__" sDoInit f fd) : FnOk P w K mg base CX0 (k + 1) f fd ["self", "kept", "taken"] (spInit K C) := by
  refine F.ok scDoInit (fun vs H Q E h => ?_) (fun cdv A outer s H vs Q E hr h => ?_)
  · obtain ⟨H0, p, dx, kt, td, ks, tds, taken, rfl, _⟩ := h
    rfl
  · obtain ⟨H0, p, dx, kt, td, ks, tds, taken, rfl, hp, h0p, sm, hk, htd, he, nk, hlen, q⟩ := h
    refine ⟨_, (pss_cons (ps_fld (pv 0) (pe_lst pa_nil) rfl)
  (pss_cons (ps_fld (pv 0) (pe_callTy call_list_of (by rfl) g.list PyProof.Rows.boot_list (pa_cons (pv 1) pa_nil)) rfl)
  (pss_cons (ps_fld (pv 0) (pe_lock (pe_dc (own := [("tray", 3), ("numbers", 4)]) (g := gTup K 2 (gCons (gName 3) (gCons (gName 4) gNil))) (tt := tYes) (tv := tCB (Evl.rListS K) (tCons (tVar 4) tNil)) rfl scDoInit.nd (pi_items (pv 2)) (blkOk_by (own := [("tray", 3), ("numbers", 4)]) (N := ["self", "kept", "taken", "tray", "numbers"]) (sc := defScope sDoInit) (by decide +kernel)) (fun _ _ _ _ _ => (pg_tup rfl (pgs_cons (pg_name (i := 3) scDoInit.nd rfl (Or.inl rfl)) (pgs_cons (pg_name (i := 4) scDoInit.nd rfl (Or.inl rfl)) pgs_nil)))) (fun _ _ _ _ _ => pts_nil) (fun _ _ _ _ _ => pv 3) (fun _ _ _ _ _ => (pe_callTy call_list_of (by rfl) g.list PyProof.Rows.boot_list (pa_cons (pv 4) pa_nil))))) rfl)
  (pss_one (ps_fld (pv 0) pe_dnewK rfl))))), ?_⟩
    -- self.own_pile = []
    refine ⟨Nat.zero_le _, fun pl npl => ?_⟩
    have ppl : p ≠ pl := ne_of_none hp npl
    have s1 : Same H (upd H pl (.lst [])) := same_new npl
    refine ⟨_, rfl, p, C, dx, [], rfl, s1 _ _ hp, T.cl, T.n1, (by show 0 < 1000; decide), ?_⟩
    -- self.own_kept = list(kept)
    have npl0 : H0 pl = none := sm.free npl
    have sA : Same H0 (upd (upd H pl (.lst [])) p (.ins C dx (putF "own_pile" (.ref pl) []))) := same_mut (sm.trans s1) h0p
    refine ⟨_, rfl, kt, ks.map V.int, rfl, sqs_mono sA hk, fun kp nkp => ?_⟩
    have pkp : p ≠ kp := fun e => by
      rw [← e, upd_same] at nkp
      cases nkp
    have nkp1 : (upd H pl (.lst [])) kp = none := by
      rw [upd_ne pkp.symm] at nkp
      exact nkp
    have plkp : pl ≠ kp := fun e => by
      rw [← e, upd_same] at nkp1
      cases nkp1
    have nkp0 : H0 kp = none := sA.free nkp
    have sB : Same H0 (upd (upd (upd H pl (.lst [])) p (.ins C dx (putF "own_pile" (.ref pl) []))) kp (.lst (ks.map V.int))) := sA.trans (same_new nkp)
    refine ⟨_, rfl, p, C, dx, _, rfl, by rw [upd_ne pkp, upd_same], T.cl, T.n2, (by show 1 < 1000; decide), ?_⟩
    -- self.own_taken = {..}
    have sC : Same H0 (upd (upd (upd (upd H pl (.lst [])) p (.ins C dx (putF "own_pile" (.ref pl) []))) kp (.lst (ks.map V.int))) p (.ins C dx (putF "own_kept" (.ref kp) (putF "own_pile" (.ref pl) [])))) := same_mut sB h0p
    dsimp only [tSeq, sFld]
    refine copyD (K := K) (sC _ _ htd) (entsA_mono sC he) nk (by omega) (fun _ _ => rfl) (fun _ _ => rfl) (fun _ _ => rfl) (fun od Q' q' => ⟨_, rfl, q'⟩) (fun D kvs as H3 nD s3 hD hE nd hf => ?_)
    generalize hH2 : (upd (upd (upd (upd H pl (.lst [])) p (.ins C dx (putF "own_pile" (.ref pl) []))) kp (.lst (ks.map V.int))) p (.ins C dx (putF "own_kept" (.ref kp) (putF "own_pile" (.ref pl) [])))) = H2 at nD s3 hf sC
    have h2p : H2 p = some (.ins C dx (putF "own_kept" (.ref kp) (putF "own_pile" (.ref pl) []))) := by
      rw [← hH2, upd_same]
    have h2l : H2 pl = some (.lst []) := by
      rw [← hH2, upd_ne ppl.symm, upd_ne plkp, upd_ne ppl.symm, upd_same]
    have h2k : H2 kp = some (.lst (ks.map V.int)) := by
      rw [← hH2, upd_ne pkp.symm, upd_same]
    refine ⟨_, rfl, p, C, dx, _, rfl, s3 _ _ h2p, T.cl, T.n3, (by show 2 < 1000; decide), ?_⟩
    -- self.own_given = {}
    intro gv ngv
    have pgv : p ≠ gv := fun e => by
      rw [← e, upd_same] at ngv
      cases ngv
    have ngv3 : H3 gv = none := by
      rw [upd_ne pgv.symm] at ngv
      exact ngv
    refine ⟨_, rfl, p, C, dx, _, rfl, by rw [upd_ne pgv, upd_same], T.cl, T.n4, (by show 3 < 1000; decide), ?_⟩
    refine q _ ⟨dx, pl, kp, D, gv, kvs, [], as, [], ?_⟩
    have keep : ∀ b o, b ≠ p → H3 b = some o → (upd (upd (upd H3 p (.ins C dx (putF "own_taken" (.ref D) (putF "own_kept" (.ref kp) (putF "own_pile" (.ref pl) []))))) gv (.dK [])) p (.ins C dx (flds pl kp D gv))) b = some o := fun b o h1 h2 => by
      rw [upd_ne h1, upd_ne (ne_of_none h2 ngv3), upd_ne h1]
      exact h2
    have nDp : D ≠ p := fun e => by
      rw [e, h2p] at nD
      cases nD
    have s0 : Same H0 H3 := sC.trans s3
    have las : ∀ a ∈ as, ∃ ns, H3 a = some (.lst ns) := fun a ha => ents_lst hE ha
    show DX C H0 (upd (upd (upd H3 p (.ins C dx (putF "own_taken" (.ref D) (putF "own_kept" (.ref kp) (putF "own_pile" (.ref pl) []))))) gv (.dK [])) p (.ins C dx (flds pl kp D gv))) p dx pl kp D gv kvs [] as [] ⟨[], ks, taken, []⟩
    refine ⟨upd_same, keep _ _ ppl.symm (s3 _ _ h2l), keep _ _ pkp.symm (s3 _ _ h2k), keep _ _ nDp hD, ?_, ents_mono hE fun a ha o ho => keep a o (fun e => ?_) ho, .nil, ?_, ?_, nk, List.nodup_nil, ⟨h0p, npl0, nkp0, sC.free nD, s0.free ngv3, fun a ha => ?_⟩, ?_⟩
    · rw [upd_ne pgv.symm, upd_same]
    · have := hf a ha
      rw [e, h2p] at this
      cases this
    · rw [List.append_nil, List.nodup_cons, List.nodup_cons]
      refine ⟨fun hm => ?_, fun hm => ?_, nd⟩
      · rcases List.mem_cons.mp hm with e | hm
        · exact plkp e
        · have := hf _ hm
          rw [h2l] at this
          cases this
      · have := hf _ hm
        rw [h2k] at this
        cases this
    · exact ne_of_none hD ngv3
    · rw [List.append_nil] at ha
      exact sC.free (hf a ha)
    · intro b o h
      exact keep b o (ne_of_none h h0p) (s0 b o h)
theorem ok_told {f C : Addr} {fd : FuncData} {k : Nat} (g : Bl mg) (T : TD K mg C) (F : Fun K "told" "Doing.told" sTold f fd) : FnOk P w K mg base CX0 (k + 1) f fd ["self"] (spTold C) := by
  refine F.ok scTold (fun vs H Q E h => ?_) (fun cdv A outer s H vs Q E hr h => ?_)
  · obtain ⟨H0, p, s, rfl, _⟩ := h
    rfl
  · obtain ⟨H0, p, s, rfl, ⟨dx, pl, kp, tk, gv, tks, gvs, ta, ga, X⟩, hb, q⟩ := h
    refine ⟨_, (pss_one (ps_ret (pe_tup (pa_cons (pe_callTy call_tuple_of (by rfl) g.tuple PyProof.Rows.boot_tuple (pa_cons (pe_fld (pv 0) rfl) pa_nil)) (pa_cons (pe_lock (pe_dc (own := [("tray", 1), ("numbers", 2)]) (g := gTup K 2 (gCons (gName 1) (gCons (gName 2) gNil))) (tt := tYes) (tv := tCB (Evl.rListS K) (tCons (tVar 2) tNil)) rfl scTold.nd (pi_items (pe_fld (pv 0) rfl)) (blkOk_by (own := [("tray", 1), ("numbers", 2)]) (N := ["self", "tray", "numbers"]) (sc := defScope sTold) (by decide +kernel)) (fun _ _ _ _ _ => (pg_tup rfl (pgs_cons (pg_name (i := 1) scTold.nd rfl (Or.inl rfl)) (pgs_cons (pg_name (i := 2) scTold.nd rfl (Or.inl rfl)) pgs_nil)))) (fun _ _ _ _ _ => pts_nil) (fun _ _ _ _ _ => pv 1) (fun _ _ _ _ _ => (pe_callTy call_list_of (by rfl) g.list PyProof.Rows.boot_list (pa_cons (pv 2) pa_nil))))) pa_nil))))), ?_⟩
    refine ⟨_, rfl, p, C, dx, _, _, rfl, X.ob, T.cl, T.n2, flds_kept, kp, _, rfl, .inl ⟨SqL.of X.hk, fun kt nkt => ?_⟩⟩
    have X1 := X.other (same_new (o := .tup (s.kept.map V.int)) nkt)
    refine copyD (K := K) X1.hg (ents_A X1.eg) X.kg hb.g (fun _ _ => rfl) (fun _ _ => rfl) (fun _ _ => rfl) (fun od Q' q' => ⟨_, rfl, p, C, dx, flds pl kp tk gv, .ref gv, rfl, ?_, T.cl, T.n4, flds_given, q'⟩) (fun D kvs as H3 nD s3 hD hE nd hf => ?_)
    · rw [upd_ne (ins_ne_dk X1.hg X1.ob)]
      exact X1.ob
    · refine ⟨by show 2 ≤ sizeLine; decide, fun r nr => ?_⟩
      have s4 := s3.trans (same_new (o := .tup [.ref kt, .ref D]) nr)
      refine q r _ (X1.sm.trans s4) ⟨kt, D, kvs, as, (X1.sm.trans s3).free nr, X.sm.free nkt, X1.sm.free nD, fun a ha => X1.sm.free (hf a ha), upd_same, ?_, ?_, ?_, nd⟩
      · exact s4 _ _ upd_same
      · exact same_new nr _ _ hD
      · exact ents_mono hE fun a _ o ho => same_new nr _ _ ho
theorem ok_done_by {f fI C : Addr} {fd fdI : FuncData} {k k1 k2 k3 : Nat} (g : Bl mg) (T : TD K mg C) (M : Mk K C fI) (GI : FnOk P w K mg base CX0 k1 fI fdI ["self", "kept", "taken"] (spInit K C)) (bI : Binds K fdI ["self", "kept", "taken"] [])
    (M2 : MCal P w K mg base C "do_act" k2 ["self", "act"] (spDoAct K C)) (M3 : MCal P w K mg base C "told" k3 ["self"] (spTold C)) (h1 : k1 + 1 ≤ k) (h2 : k2 ≤ k) (h3 : k3 ≤ k)
    (F : Fun K "done_by" "done_by" sDoneBy f fd) : FnOk P w K mg base CX0 (k + 1) f fd ["code", "kept", "taken"] (spDoneBy K) := by
  refine F.ok scDoneBy (fun vs H Q E h => ?_) (fun cdv A outer s H vs Q E hr h => ?_)
  · obtain ⟨c, kt, td, xs, acts, ks, tds, taken, s', rfl, _⟩ := h
    rfl
  · obtain ⟨c, kt, td, xs, acts, ks, tds, taken, s', rfl, hc, hp, hok, hal, hk, htd, he, nk, htl, hgood, hrun, q⟩ := h
    refine ⟨_, (pss_cons (ps_set (i := 3) scDoneBy.nd rfl (Or.inl rfl) (pe_make M GI (hr.mono h1) rfl T.mgC bI .nil pass0 (pa_cons (pv 1) (pa_cons (pv 2) pa_nil))))
  (pss_cons (ps_for PassesOwn.never rfl (pi_tup (pv 0)) (pg_name (i := 4) scDoneBy.nd rfl (Or.inl rfl))
    (pss_one (ps_expr (pe_m (pv 3) T.cl M2 hr h2 (ha := pa_cons (pv 4) pa_nil)))))
  (pss_one (ps_ret (pe_m0 (pv 3) T.cl M3 hr h3))))), ?_⟩
    refine ⟨_, rfl, _, rfl, fun x dx nx ndx ne => ?_⟩
    have nex : x ≠ dx := fun e => ne e.symm
    refine ⟨H, x, dx, kt, td, ks, tds, taken, rfl, upd_same, nx, ?_, hk, htd, he, nk, htl, fun H1 D1 => ⟨rfl, ?_⟩⟩
    · intro b o e
      rw [upd_ne (ne_of_none e nx), upd_ne (ne_of_none e ndx)]
      exact e
    have smD : ∀ {H2 : Hp} {t : DS}, DAt C H H2 x t → Same H H2 := fun ⟨_, _, _, _, _, _, _, _, _, X⟩ => X.sm
    have hlx : xs.length = acts.length := Paired.length hp
    refine ⟨_, rfl, c, rfl, ⟨xs, same_sqt (smD D1) hc⟩, for_tup (K := K) (xs := xs) (fun i σ H2 => ∃ (t : DS) (y : Option V), σ = [some (.ref c), some (.ref kt), some (.ref td), some (.ref x), y] ∧ DAt C H H2 x t ∧ runA ⟨[], ks, taken, []⟩ (acts.take i) = some t)
      ⟨_, none, rfl, D1, rfl⟩ (fun i σ H2 _ ⟨_, _, _, D, _⟩ => same_sqt (smD D) hc) ?_ ?_⟩
    · rintro i v σ H2 hi ⟨t, y, rfl, D, ht⟩
      obtain ⟨a, ha, hv⟩ := paired_get hp hi
      have hai : i < acts.length := (List.getElem?_eq_some_iff.mp ha).1
      obtain ⟨g1, b1⟩ := run_inv _ _ _ ht hgood (fun z hz => hok z (List.mem_of_mem_take hz)) 0 ⟨Nat.le_refl _, Nat.le_refl _, fun e he => nomatch he⟩
      have e1 : acts = acts.take i ++ a :: acts.drop (i + 1) := by
        have := List.take_append_drop i acts
        rw [List.drop_eq_getElem_cons hai] at this
        rw [List.getElem?_eq_getElem hai] at ha
        rw [Option.some.inj ha] at this
        exact this.symm
      rw [e1] at hrun
      obtain ⟨s1, r1, r2⟩ := runA_app _ _ _ _ hrun
      rw [ht] at r1
      cases r1
      have r2' : (match step t a with | some s' => runA s' (acts.drop (i + 1)) | none => none) = some s' := r2
      cases es : step t a with
      | none =>
        rw [es] at r2'
        cases r2'
      | some t1 =>
      have D0 := D
      obtain ⟨dx', pl, kp, tk, gv, tks, gvs, ta, ga, X⟩ := D
      refine ⟨_, rfl, x, dx', _, rfl, X.ob, flds_no4, _, rfl, ?_⟩
      refine ⟨H, x, v, t, t1, a, rfl, D0, actv_mono X.sm hv, hok a (List.mem_of_getElem? ha), g1, ?_, es, fun H3 D3 => ⟨t1, some v, rfl, D3, ?_⟩⟩
      · have hl := List.length_take_le i acts
        exact ⟨by have := b1.p; omega, by have := b1.g; omega, fun e he => by have := b1.e e he; omega⟩
      · rw [List.take_add_one, ha]
        exact (runA_snoc _ _ _ _ ht).trans es
    · rintro σ H2 ⟨t, y, rfl, D, ht⟩
      rw [hlx, List.take_length, hrun] at ht
      cases ht
      obtain ⟨g1, b1⟩ := run_inv _ _ _ hrun hgood hok 0 ⟨Nat.le_refl _, Nat.le_refl _, fun e he => nomatch he⟩
      have D0 := D
      obtain ⟨dx', pl, kp, tk, gv, tks, gvs, ta, ga, X⟩ := D
      refine ⟨_, rfl, x, dx', _, rfl, X.ob, flds_no5, ?_⟩
      exact ⟨H, x, s', rfl, D0, ⟨by have := b1.p; omega, by have := b1.g; omega, fun e he => by have := b1.e e he; omega⟩, fun r H3 s3 p3 => q r H3 s3 p3⟩
end
end Tw

/-! the law's own doing: its state in the heap -/
namespace Tw
open PySem PySem.Spec PyProof.Rows L2
/-- pairs put together by their first -/
def grp (out : List (Str × Int)) : List (Str × List Int) := out.foldl (fun es p => pushE es p.1 p.2) []
theorem grp_snoc (out : List (Str × Int)) (p : Str × Int) : grp (out ++ [p]) = pushE (grp out) p.1 p.2 := by
  unfold grp
  rw [List.foldl_append]
  rfl
def OutP (H : Hp) (v : V) (p : Str × Int) : Prop := ∃ q, v = .ref q ∧ H q = some (.tup [.str p.1, .int p.2])
theorem outP_mono {H H' : Hp} (k : KpT H H') {v : V} {p : Str × Int} (h : OutP H v p) : OutP H' v p := by
  obtain ⟨q, e, h⟩ := h
  exact ⟨q, e, kpT_tup k h⟩
structure LX (H0 H : Hp) (pl kp tk gl : Addr) (tks : List (Key × V)) (ta : List Addr) (s : DS) (out : List (Str × Int)) : Prop where
  hp : H pl = some (.lst (s.pile.reverse.map V.int))
  hk : H kp = some (.lst (s.kept.map V.int))
  ht : H tk = some (.dK tks)
  et : Ents H tks s.taken ta
  hg : ∃ gvs, H gl = some (.lst gvs) ∧ Paired (OutP H) gvs out
  nd : (pl :: kp :: gl :: ta).Nodup
  kt : (s.taken.map (·.1)).Nodup
  fr : H0 pl = none ∧ H0 kp = none ∧ H0 gl = none ∧ ∀ a ∈ ta, H0 a = none
  sm : Same H0 H
  gr : s.given = grp out
section
variable {H0 H : Hp} {pl kp tk gl : Addr} {tks : List (Key × V)} {ta : List Addr} {s : DS} {out : List (Str × Int)}
theorem LX.ne (X : LX H0 H pl kp tk gl tks ta s out) : kp ≠ pl ∧ gl ≠ pl ∧ (∀ a ∈ ta, a ≠ pl) ∧ gl ≠ kp ∧ (∀ a ∈ ta, a ≠ kp) ∧ (∀ a ∈ ta, a ≠ gl) ∧ ta.Nodup := by
  have n := List.nodup_cons.mp X.nd
  have m := List.nodup_cons.mp n.2
  have o := List.nodup_cons.mp m.2
  refine ⟨fun z => n.1 (by rw [← z]; exact List.mem_cons_self), fun z => n.1 (by rw [← z]; exact List.mem_cons_of_mem _ List.mem_cons_self), fun a ha z => n.1 (by rw [← z]; exact List.mem_cons_of_mem _ (List.mem_cons_of_mem _ ha)), fun z => m.1 (by rw [← z]; exact List.mem_cons_self), fun a ha z => m.1 (by rw [← z]; exact List.mem_cons_of_mem _ ha), fun a ha z => o.1 (by rw [← z]; exact ha), o.2⟩
theorem LX.other {H' : Hp} (X : LX H0 H pl kp tk gl tks ta s out) (k : Same H H') : LX H0 H' pl kp tk gl tks ta s out := by
  obtain ⟨gvs, h1, h2⟩ := X.hg
  exact ⟨k _ _ X.hp, k _ _ X.hk, k _ _ X.ht, ents_mono X.et fun a _ o h => k a o h, ⟨gvs, k _ _ h1, h2.mono fun _ _ => outP_mono (kpT_same k)⟩, X.nd, X.kt, X.fr, X.sm.trans k, X.gr⟩
theorem LX.pile (X : LX H0 H pl kp tk gl tks ta s out) (xs : List Int) : LX H0 (upd H pl (.lst (xs.reverse.map V.int))) pl kp tk gl tks ta { s with pile := xs } out := by
  obtain ⟨gvs, h1, h2⟩ := X.hg
  obtain ⟨n1, n2, n3, n4, n5, n6, n7⟩ := X.ne
  refine ⟨upd_same, ?_, ?_, ents_mono X.et fun a ha o h => ?_, ⟨gvs, ?_, h2.mono fun _ _ => outP_mono (kpT_lst X.hp)⟩, X.nd, X.kt, X.fr, same_mut X.sm X.fr.1, X.gr⟩
  · rw [upd_ne n1]; exact X.hk
  · rw [upd_ne (lst_ne_dk X.hp X.ht)]; exact X.ht
  · rw [upd_ne (n3 a ha)]; exact h
  · rw [upd_ne n2]; exact h1
theorem LX.keep (X : LX H0 H pl kp tk gl tks ta s out) (xs : List Int) : LX H0 (upd H kp (.lst (xs.map V.int))) pl kp tk gl tks ta { s with kept := xs } out := by
  obtain ⟨gvs, h1, h2⟩ := X.hg
  obtain ⟨n1, n2, n3, n4, n5, n6, n7⟩ := X.ne
  refine ⟨?_, upd_same, ?_, ents_mono X.et fun a ha o h => ?_, ⟨gvs, ?_, h2.mono fun _ _ => outP_mono (kpT_lst X.hk)⟩, X.nd, X.kt, X.fr, same_mut X.sm X.fr.2.1, X.gr⟩
  · rw [upd_ne n1.symm]; exact X.hp
  · rw [upd_ne (lst_ne_dk X.hk X.ht)]; exact X.ht
  · rw [upd_ne (n5 a ha)]; exact h
  · rw [upd_ne n4]; exact h1
theorem LX.took (X : LX H0 H pl kp tk gl tks ta s out) {t : Str} {b : Addr} (ns : List Int) (hv : valV tks (Sum.inr t : Key) = some (.ref b)) (hb : b ∈ ta) : LX H0 (upd H b (.lst (ns.map V.int))) pl kp tk gl tks ta { s with taken := stE s.taken t ns } out := by
  obtain ⟨gvs, h1, h2⟩ := X.hg
  obtain ⟨n1, n2, n3, n4, n5, n6, n7⟩ := X.ne
  obtain ⟨l, hl⟩ := ents_lst X.et hb
  refine ⟨?_, ?_, ?_, ents_set X.et n7 X.kt hv, ⟨gvs, ?_, h2.mono fun _ _ => outP_mono (kpT_lst hl)⟩, X.nd, ?_, X.fr, same_mut X.sm (X.fr.2.2.2 b hb), X.gr⟩
  · rw [upd_ne (n3 b hb).symm]; exact X.hp
  · rw [upd_ne (n5 b hb).symm]; exact X.hk
  · rw [upd_ne (lst_ne_dk hl X.ht)]; exact X.ht
  · rw [upd_ne (n6 b hb).symm]; exact h1
  · show ((stE s.taken t ns).map (·.1)).Nodup
    rw [stE_keys]; exact X.kt
theorem LX.gave (X : LX H0 H pl kp tk gl tks ta s out) {gvs : List V} {q : Addr} {t : Str} {x : Int} (h1 : H gl = some (.lst gvs)) (hq : H q = some (.tup [.str t, .int x])) : LX H0 (upd H gl (.lst (gvs ++ [.ref q]))) pl kp tk gl tks ta { s with given := pushE s.given t x } (out ++ [(t, x)]) := by
  obtain ⟨gvs', h1', h2⟩ := X.hg
  rw [h1] at h1'
  cases h1'
  obtain ⟨n1, n2, n3, n4, n5, n6, n7⟩ := X.ne
  have kk : KpT H (upd H gl (.lst (gvs ++ [.ref q]))) := kpT_lst h1
  refine ⟨?_, ?_, ?_, ents_mono X.et fun a ha o h => ?_, ⟨_, upd_same, (h2.mono fun _ _ => outP_mono kk).snoc ⟨q, rfl, kpT_tup kk hq⟩⟩, X.nd, X.kt, X.fr, same_mut X.sm X.fr.2.2.1, ?_⟩
  · rw [upd_ne n2.symm]; exact X.hp
  · rw [upd_ne n4.symm]; exact X.hk
  · rw [upd_ne (lst_ne_dk h1 X.ht)]; exact X.ht
  · rw [upd_ne (n6 a ha)]; exact h
  · show pushE s.given t x = _
    rw [grp_snoc, X.gr]
end
end Tw

/-! _law_one_act -/
namespace Tw
open PySem PySem.Spec PyProof.Rows L2
theorem scOneAct : FnScope ["_law_act", "_law_pile", "_law_a_kept", "_law_a_taken", "_law_given", "_law_word", "_law_b", "_law_a", "_law_c", "_law_some"] ["_law_act", "_law_pile", "_law_a_kept", "_law_a_taken", "_law_given"] (defScope (topS 18)) := ⟨rfl, rfl, rfl, by decide +kernel, rfl, by decide +kernel, by decide +kernel⟩
def spOneAct (K : PySem.W.Frag) : Sp := fun vs H Q _ => ∃ (H0 : Hp) (v : V) (pl kp tk gl : Addr) (tks : List (Key × V)) (ta : List Addr) (s s' : DS) (out : List (Str × Int)) (a : Act), vs = [v, .ref pl, .ref kp, .ref tk, .ref gl] ∧ LX H0 H pl kp tk gl tks ta s out ∧ ActV K H v a ∧ actOk a ∧ s.Good ∧ s.Bnd 5000 ∧ out.length ≤ 5000 ∧ step s a = some s' ∧
  ∀ H' out', LX H0 H' pl kp tk gl tks ta s' out' → out'.length ≤ out.length + 1 → Q .non H'
section
variable {P : Program} {w : World} {K : PySem.W.Frag} {mg : Str → Option Value} {base : Heap}
theorem ok_one_act {f : Addr} {fd : FuncData} {k : Nat} (g : Bl mg) (F : Fun K "_law_one_act" "_law_one_act" (topS 18) f fd) : FnOk P w K mg base CX0 (k + 1) f fd ["_law_act", "_law_pile", "_law_a_kept", "_law_a_taken", "_law_given"] (spOneAct K) := by
  refine F.ok scOneAct (fun vs H Q E h => ?_) (fun cdv A outer s H vs Q E hr h => ?_)
  · obtain ⟨H0, v, pl, kp, tk, gl, tks, ta, s, s', out, a, rfl, _⟩ := h
    rfl
  · obtain ⟨H0, v, pl, kp, tk, gl, tks, ta, s, s', out, a, rfl, X, ⟨qa, rfl, ha⟩, hok, hg, hb, ho, hst, q⟩ := h
    refine ⟨_, (pss_cons (ps_set (i := 5) scOneAct.nd rfl (Or.inl rfl) (pe_ix (ix_tup' K) (pv 0) pe_int (fun _ _ => rfl)))
      (pss_one (ps_if (pt_cmpR op_eq (pv 5) pe_str (nomark _))
        (pss_one (ps_expr (pe_bm PySem.F.plainAttrs_list PySem.F.slot_list_append PySem.F.type_list_append mt_appR (pv 1) (pa_cons (pe_bm PySem.F.plainAttrs_list PySem.F.slot_list_pop PySem.F.type_list_pop mt_popAt (pe_dget (hu_of hr) (pv 3) (pe_ix (ix_tup' K) (pv 0) pe_int (fun _ _ => rfl)) (fun _ _ => rfl)) (pa_cons pe_int pa_nil)) pa_nil))))
        (pss_one (ps_if (pt_cmpR op_eq (pv 5) pe_str (nomark _))
          (pss_one (ps_expr (pe_bm PySem.F.plainAttrs_list PySem.F.slot_list_append PySem.F.type_list_append mt_append (pv 4) (pa_cons (pe_tupU (pa_cons (pe_ix (ix_tup' K) (pv 0) pe_int (fun _ _ => rfl)) (pa_cons (pe_bm0 PySem.F.plainAttrs_list PySem.F.slot_list_pop PySem.F.type_list_pop mt_popR (pv 1)) pa_nil))) pa_nil))))
          (pss_one (ps_if (pt_cmpR op_eq (pv 5) pe_str (nomark _))
            (pss_one (ps_expr (pe_bm PySem.F.plainAttrs_list PySem.F.slot_list_append PySem.F.type_list_append mt_appR (pv 1) (pa_cons (pe_ix (ix_tup' K) (pv 0) pe_int (fun _ _ => rfl)) pa_nil))))
            (pss_one (ps_if (pt_cmpR op_eq (pv 5) pe_str (nomark _))
              (pss_one (ps_expr (pe_bm PySem.F.plainAttrs_list PySem.F.slot_list_append PySem.F.type_list_append mt_appR (pv 1) (pa_cons (pe_ix (ix_list' K) (pv 2) (pe_ix (ix_tup' K) (pv 0) pe_int (fun _ _ => rfl)) (fun _ _ => rfl)) pa_nil))))
              (pss_one (ps_if (pt_cmpR op_eq (pv 5) pe_str (nomark _))
                (pss_one (ps_asg (pe_bm0 PySem.F.plainAttrs_list PySem.F.slot_list_pop PySem.F.type_list_pop mt_popR (pv 1)) (pg_sub (pv 2) (pe_ix (ix_tup' K) (pv 0) pe_int (fun _ _ => rfl)) set_list)))
                (pss_one (ps_if (pt_cmpR op_eq (pv 5) pe_str (nomark _))
                  (pss_one (ps_expr (pe_bm PySem.F.plainAttrs_list PySem.F.slot_list_append PySem.F.type_list_append mt_appR (pv 1) (pa_cons (pe_ix (ix_list' K) (pv 1) (pe_un un_neg pe_int) (fun _ _ => rfl)) pa_nil))))
                  (pss_one (ps_if (pt_cmpR op_eq (pv 5) pe_str (nomark _))
                    (pss_one (ps_expr (pe_bm0 PySem.F.plainAttrs_list PySem.F.slot_list_pop PySem.F.type_list_pop mt_popR (pv 1))))
                    (pss_one (ps_if (pt_cmpR op_eq (pv 5) pe_str (nomark _))
                      (pss_cons (ps_par3 (i := 6) (j := 7) (l := 8) rfl scOneAct.nd rfl rfl rfl (by decide) (by decide) (by decide) rfl rfl rfl (pa_cons (pe_bm0 PySem.F.plainAttrs_list PySem.F.slot_list_pop PySem.F.type_list_pop mt_popR (pv 1)) (pa_cons (pe_bm0 PySem.F.plainAttrs_list PySem.F.slot_list_pop PySem.F.type_list_pop mt_popR (pv 1)) (pa_cons (pe_bm0 PySem.F.plainAttrs_list PySem.F.slot_list_pop PySem.F.type_list_pop mt_popR (pv 1)) pa_nil))) rfl)
                      (pss_one (ps_expr (pe_bm PySem.F.plainAttrs_list PySem.F.slot_list_append PySem.F.type_list_append mt_appR (pv 1) (pa_cons (pe_ifExp (pt_cmpR op_ne (pv 8) pe_int (nomark _)) (pv 7) (pv 6)) pa_nil)))))
                      (pss_cons (ps_par (i := 6) (j := 7) rfl scOneAct.nd rfl rfl (by decide) rfl rfl (pa_cons (pe_bm0 PySem.F.plainAttrs_list PySem.F.slot_list_pop PySem.F.type_list_pop mt_popR (pv 1)) (pa_cons (pe_bm0 PySem.F.plainAttrs_list PySem.F.slot_list_pop PySem.F.type_list_pop mt_popR (pv 1)) pa_nil)) rfl)
                      (pss_cons (ps_set (i := 9) scOneAct.nd rfl (Or.inl rfl) (pe_disp (pps_cons pe_str (pe_op op_add (pv 7) (pv 6)) (pps_cons pe_str (pe_op op_sub (pv 7) (pv 6)) (pps_cons pe_str (pe_op op_mul (pv 7) (pv 6)) (pps_cons pe_str (pe_callTy call_int1 (by rfl) g.int PyProof.Rows.boot_int (pa_cons (pe_cmpR op_lt (pv 7) (pv 6) (nomark _)) pa_nil)) (pps_cons pe_str (pv 6) pps_nil))))) (by rfl) (by rfl) (fun z => by cases z) (by decide)))
                      (pss_cons (ps_expr (pe_bm PySem.F.plainAttrs_list PySem.F.slot_list_append PySem.F.type_list_append mt_appR (pv 1) (pa_cons (pe_op op_mod (pe_dget (hu_of hr) (pv 9) (pv 5) (fun _ _ => rfl)) (pe_op op_pow pe_int pe_int)) pa_nil)))
                      (pss_one (ps_if (pt_cmpR op_eq (pv 5) pe_str (nomark _))
                        (pss_one (ps_expr (pe_bm PySem.F.plainAttrs_list PySem.F.slot_list_append PySem.F.type_list_append mt_appR (pv 1) (pa_cons (pv 7) pa_nil))))
                        pss_nil)))))))))))))))))))))), ?_⟩
    have z2 : 2 ≤ 100000 := by decide
    have hbp := hb.p
    have q1 : ∀ H' , LX H0 H' pl kp tk gl tks ta s' out → Q .non H' := fun H' h => q H' out h (Nat.le_succ _)
    cases a with
    | take t =>
      unfold step at hst
      dsimp only at hst
      split at hst
      · rename_i x r hl
        cases hst
        refine ⟨_, rfl, qa, _, 0, .str "take", rfl, rfl, ha, rfl, ?_⟩
        refine ⟨_, rfl, rfl, _, rfl, iteT ?_⟩
        obtain ⟨b, h1, h2, h3⟩ := ents_get X.et hl
        refine ⟨_, rfl, .inl ⟨rfl, _, SqL.of X.hp⟩, _, rfl, _, rfl, qa, _, 1, .str t, rfl, rfl, ha, rfl, tk, .ref b, rfl, ?_, .inl ⟨rfl, _, SqL.of h3⟩, b, _, 0, 0, .int x, rfl, rfl, h3, by decide, by decide, (ixN_seq (Evl.ixN_nat (n := (List.map V.int (x :: r)).length) (j := 0) (Nat.succ_pos _))).1, rfl, ?_⟩
        · have := DGet.k (k := Sum.inr t) X.ht
          rw [h1] at this
          exact this
        · have X1 := X.took r h1 h2
          exact ⟨pl, x, s.pile, rfl, rfl, X1.hp, by omega, q1 _ (X1.pile (x :: s.pile))⟩
      · cases hst
    | give t =>
      unfold step at hst
      dsimp only at hst
      split at hst
      · rename_i x r hl
        cases hst
        refine ⟨_, rfl, qa, _, 0, .str "give", rfl, rfl, ha, rfl, ?_⟩
        refine ⟨_, rfl, rfl, _, rfl, iteF ?_⟩
        refine ⟨_, rfl, rfl, _, rfl, iteT ?_⟩
        obtain ⟨gvs, g1, g2⟩ := X.hg
        have hp := X.hp
        rw [hl] at hp
        have X1 := X.pile r
        refine ⟨_, rfl, .inl ⟨rfl, _, SqL.of g1⟩, _, rfl, qa, _, 1, .str t, rfl, rfl, ha, rfl, _, rfl, .inl ⟨rfl, _, SqL.of hp⟩, pl, x, r, rfl, rfl, hp, z2, fun qq Hq nq sq cq => ?_⟩
        have X2 := X1.other sq
        have n2 := X.ne.2.1
        have g3 := sq _ _ (show (upd H pl (.lst (r.reverse.map V.int))) gl = some (.lst gvs) by rw [upd_ne n2]; exact g1)
        refine ⟨gl, gvs, _, rfl, rfl, g3, ?_, q _ _ (X2.gave g3 cq) (by rw [List.length_append]; exact Nat.le_refl _)⟩
        rw [g2.length]
        exact Nat.lt_of_le_of_lt ho (by decide)
      · cases hst
    | num n =>
      cases hst
      refine ⟨_, rfl, qa, _, 0, .str "number", rfl, rfl, ha, rfl, ?_⟩
      refine ⟨_, rfl, rfl, _, rfl, iteF ?_⟩
      refine ⟨_, rfl, rfl, _, rfl, iteF ?_⟩
      refine ⟨_, rfl, rfl, _, rfl, iteT ?_⟩
      exact ⟨_, rfl, .inl ⟨rfl, _, SqL.of X.hp⟩, _, rfl, qa, _, 1, .int n, rfl, rfl, ha, rfl, pl, n, s.pile, rfl, rfl, X.hp, by omega, q1 _ (X.pile (n :: s.pile))⟩
    | kept j =>
      unfold step at hst
      dsimp only at hst
      split at hst
      · rename_i x hl
        cases hst
        refine ⟨_, rfl, qa, _, 0, .str "kept", rfl, rfl, ha, rfl, ?_⟩
        refine ⟨_, rfl, rfl, _, rfl, iteF ?_⟩
        refine ⟨_, rfl, rfl, _, rfl, iteF ?_⟩
        refine ⟨_, rfl, rfl, _, rfl, iteF ?_⟩
        refine ⟨_, rfl, rfl, _, rfl, iteT ?_⟩
        refine ⟨_, rfl, .inl ⟨rfl, _, SqL.of X.hp⟩, _, rfl, _, rfl, qa, _, 1, .int (j : Int), rfl, rfl, ha, rfl, kp, _, (j : Int), .int x, rfl, rfl, SqL.of X.hk, atI_nat (j := j) ?_, pl, x, s.pile, rfl, rfl, X.hp, by omega, q1 _ (X.pile (x :: s.pile))⟩
        rw [List.getElem?_map, hl]
        rfl
      · cases hst
    | keep j =>
      unfold step at hst
      dsimp only at hst
      split at hst
      · rename_i x r hl
        split at hst
        · rename_i hj
          cases hst
          refine ⟨_, rfl, qa, _, 0, .str "keep", rfl, rfl, ha, rfl, ?_⟩
          refine ⟨_, rfl, rfl, _, rfl, iteF ?_⟩
          refine ⟨_, rfl, rfl, _, rfl, iteF ?_⟩
          refine ⟨_, rfl, rfl, _, rfl, iteF ?_⟩
          refine ⟨_, rfl, rfl, _, rfl, iteF ?_⟩
          refine ⟨_, rfl, rfl, _, rfl, iteT ?_⟩
          have hp := X.hp
          rw [hl] at hp
          have X1 := X.pile r
          refine ⟨_, rfl, .inl ⟨rfl, _, SqL.of hp⟩, pl, x, r, rfl, rfl, hp, _, rfl, _, rfl, qa, _, 1, .int (j : Int), rfl, rfl, kpT_sqt (kpT_lst X.hp) ha, rfl, kp, _, (j : Int), j, rfl, rfl, X1.hk, ?_, ?_⟩
          · rw [List.length_map]
            exact Evl.ixN_nat hj
          · have X2 := X1.keep (s.kept.set j x)
            rw [List.map_set] at X2
            exact q1 _ X2
        · cases hst
      · cases hst
    | wrd wd =>
      unfold step at hst
      dsimp only at hst
      split at hst
      · rename_i p' hw
        cases hst
        refine ⟨_, rfl, qa, _, 0, .str wd, rfl, rfl, ha, rfl, ?_⟩
        have hm : wd ∈ words8 := hok
        have ne : wd ≠ "take" ∧ wd ≠ "give" ∧ wd ≠ "number" ∧ wd ≠ "kept" ∧ wd ≠ "keep" := by
          simp only [words8, List.mem_cons, List.not_mem_nil, or_false] at hm
          rcases hm with rfl | rfl | rfl | rfl | rfl | rfl | rfl | rfl <;> decide
        have F5 : ∀ u : Str, wd ≠ u → (decide (V.str wd = V.str u)) = false := fun u h => decide_eq_false fun z => h (V.str.inj z)
        refine ⟨_, rfl, rfl, false, congrArg V.bl (F5 _ ne.1), iteF ?_⟩
        refine ⟨_, rfl, rfl, false, congrArg V.bl (F5 _ ne.2.1), iteF ?_⟩
        refine ⟨_, rfl, rfl, false, congrArg V.bl (F5 _ ne.2.2.1), iteF ?_⟩
        refine ⟨_, rfl, rfl, false, congrArg V.bl (F5 _ ne.2.2.2.1), iteF ?_⟩
        refine ⟨_, rfl, rfl, false, congrArg V.bl (F5 _ ne.2.2.2.2), iteF ?_⟩
        obtain ⟨pile, kept, taken, given⟩ := s
        dsimp only at hw hbp
        have hp := X.hp
        have hgp := hg.p
        dsimp only at hp hgp
        unfold wstep at hw
        refine ⟨_, rfl, rfl, _, rfl, ite2 (fun e => ?_) (fun e => ?_)⟩
        · have e1 : wd = "twice" := V.str.inj (of_decide_eq_true e)
          subst e1
          rw [if_neg (by decide), if_pos rfl] at hw
          cases pile with
          | nil => cases hw
          | cons b r =>
          cases hw
          refine ⟨_, rfl, .inl ⟨rfl, _, SqL.of hp⟩, _, rfl, _, rfl, pl, _, -1, .int b, rfl, rfl, SqL.of hp, ?_, pl, b, b :: r, rfl, rfl, hp, by omega, q1 _ (X.pile (b :: b :: r))⟩
          rw [← rev_app]
          exact atI_last _ _
        · have e1 : ¬ wd = "twice" := fun z => e (decide_eq_true (congrArg V.str z))
          refine ⟨_, rfl, rfl, _, rfl, ite2 (fun e => ?_) (fun e => ?_)⟩
          · have e2 : wd = "drop" := V.str.inj (of_decide_eq_true e)
            rw [if_pos e2] at hw
            cases pile with
            | nil => cases hw
            | cons b r =>
            cases hw
            exact ⟨_, rfl, .inl ⟨rfl, _, SqL.of hp⟩, pl, b, _, rfl, rfl, hp, q1 _ (X.pile _)⟩
          · have e2 : ¬ wd = "drop" := fun z => e (decide_eq_true (congrArg V.str z))
            rw [if_neg e2, if_neg e1] at hw
            refine ⟨_, rfl, rfl, _, rfl, ite2 (fun e => ?_) (fun e => ?_)⟩
            · have e3 : wd = "pick" := V.str.inj (of_decide_eq_true e)
              subst e3
              rw [if_neg (by decide), if_pos rfl] at hw
              match pile, hw with
              | b :: a :: c :: r, hw =>
              cases hw
              have X1 := X.pile (a :: c :: r)
              have X2 := X1.pile (c :: r)
              have X3 := X2.pile r
              refine ⟨_, rfl, .inl ⟨rfl, _, SqL.of hp⟩, pl, b, a :: c :: r, rfl, rfl, hp, ?_⟩
              refine ⟨_, rfl, .inl ⟨rfl, _, SqL.of X1.hp⟩, pl, a, c :: r, rfl, rfl, X1.hp, ?_⟩
              refine ⟨_, rfl, .inl ⟨rfl, _, SqL.of X2.hp⟩, pl, c, r, rfl, rfl, X2.hp, _, _, _, rfl, ?_⟩
              refine ⟨_, rfl, .inl ⟨rfl, _, SqL.of X3.hp⟩, _, rfl, rfl, _, rfl, ite2 (fun h0 => ?_) (fun h0 => ?_)⟩
              · have hc : c ≠ 0 := fun z => by
                  rw [z] at h0
                  exact absurd h0 (by decide)
                rw [if_pos hc] at q1
                exact ⟨_, rfl, pl, a, r, rfl, rfl, X3.hp, by simp only [List.length_cons] at hbp; omega, q1 _ (X3.pile (a :: r))⟩
              · have hc : ¬ c ≠ 0 := fun z => h0 (by rw [decide_eq_false (fun y => z (V.int.inj y))]; rfl)
                rw [if_neg hc] at q1
                exact ⟨_, rfl, pl, b, r, rfl, rfl, X3.hp, by simp only [List.length_cons] at hbp; omega, q1 _ (X3.pile (b :: r))⟩
            · have e3 : ¬ wd = "pick" := fun z => e (decide_eq_true (congrArg V.str z))
              rw [if_neg e3] at hw
              have hm5 : wd = "plus" ∨ wd = "less" ∨ wd = "times" ∨ wd = "below" ∨ wd = "swap" := by
                simp only [words8, List.mem_cons, List.not_mem_nil, or_false] at hm
                rcases hm with h | h | h | h | h | h | h | h
                · exact .inl h
                · exact .inr (.inl h)
                · exact .inr (.inr (.inl h))
                · exact .inr (.inr (.inr (.inl h)))
                · exact absurd h e1
                · exact .inr (.inr (.inr (.inr h)))
                · exact absurd h e2
                · exact absurd h e3
              obtain ⟨b, a, r, rfl⟩ : ∃ b a r, pile = b :: a :: r := by
                rcases hm5 with rfl | rfl | rfl | rfl | rfl
                all_goals
                  match pile, hw with
                  | b :: a :: r, _ => exact ⟨b, a, r, rfl⟩
              have ib : it b := hgp b List.mem_cons_self
              have ia : it a := hgp a (List.mem_cons_of_mem _ List.mem_cons_self)
              have cm : CMul a b := .inl ⟨by have := ia.1; omega, by have := ia.2; omega⟩
              have X1 := X.pile (a :: r)
              have X2 := X1.pile r
              simp only [List.length_cons] at hbp
              generalize hkvs : [((Sum.inr "plus" : Key), V.int (a + b)), (Sum.inr "less", .int (a - b)), (Sum.inr "times", .int (a * b)), (Sum.inr "below", .int (if decide (a < b) = true then 1 else 0)), (Sum.inr "swap", .int b)] = kvs
              have key : ∃ vw : Int, valV kvs (Sum.inr wd : Key) = some (.int vw) ∧ ((wd = "swap" ∧ vw = b ∧ p' = a :: b :: r) ∨ (wd ≠ "swap" ∧ p' = vw % 1000000 :: r)) := by
                subst hkvs
                rcases hm5 with rfl | rfl | rfl | rfl | rfl
                · exact ⟨_, rfl, .inr ⟨by decide, by cases hw; rfl⟩⟩
                · exact ⟨_, rfl, .inr ⟨by decide, by cases hw; rfl⟩⟩
                · exact ⟨_, rfl, .inr ⟨by decide, by cases hw; rfl⟩⟩
                · refine ⟨_, rfl, .inr ⟨by decide, ?_⟩⟩
                  cases hw
                  by_cases hab : a < b
                  · rw [if_pos hab, if_pos (decide_eq_true hab)]
                    rfl
                  · rw [if_neg hab, if_neg (fun z => hab (of_decide_eq_true z))]
                    rfl
                · exact ⟨_, rfl, .inl ⟨rfl, rfl, by cases hw; rfl⟩⟩
              obtain ⟨vw, hv, hres⟩ := key
              refine ⟨_, rfl, .inl ⟨rfl, _, SqL.of hp⟩, pl, b, a :: r, rfl, rfl, hp, ?_⟩
              refine ⟨_, rfl, .inl ⟨rfl, _, SqL.of X1.hp⟩, pl, a, r, rfl, rfl, X1.hp, _, _, rfl, fun d nd => ?_⟩
              refine ⟨_, rfl, _, rfl, _, _, rfl, rfl, _, rfl, _, rfl, _, _, rfl, rfl, _, rfl, _, rfl, _, _, rfl, rfl, cm, _, rfl, _, rfl, _, _, rfl, rfl, .inr ⟨_, rfl, _, rfl, upd_same, kvs, ?_, ?_, ?_⟩⟩
              · rw [← hkvs]
                rfl
              · rw [← hkvs]
                show 5 ≤ 15
                decide
              have X3 := X2.other (same_new (o := .dK []) nd)
              have X4 := X2.other (same_mut (o := .dK (mergeK [] kvs)) (same_new (o := .dK []) nd) nd)
              have hmk : mergeK [] kvs = kvs := by
                rw [← hkvs]
                rfl
              have hd4 := DGet.k (H := upd (upd (upd (upd H pl (.lst ((a :: r).reverse.map V.int))) pl (.lst (r.reverse.map V.int))) d (.dK [])) d (.dK (mergeK [] kvs))) (k := Sum.inr wd) upd_same
              rw [hmk, hv] at hd4
              rw [hmk] at X4 ⊢
              refine ⟨_, rfl, .inl ⟨rfl, _, SqL.of X4.hp⟩, _, rfl, _, rfl, d, .int vw, rfl, hd4, 10, 6, rfl, rfl, ⟨by decide, by decide, by decide⟩, vw, 1000000, rfl, rfl, (show (0 : Int) < 1000000 by decide), ?_⟩
              refine ⟨pl, vw % 1000000, r, rfl, rfl, X4.hp, by omega, ?_⟩
              have X5 := X4.pile (vw % 1000000 :: r)
              rcases hres with ⟨rfl, rfl, rfl⟩ | ⟨hns, rfl⟩
              · refine ⟨_, rfl, rfl, _, rfl, iteT ?_⟩
                have eb : vw % 1000000 = vw := Int.emod_eq_of_lt ib.1 ib.2
                refine ⟨_, rfl, .inl ⟨rfl, _, SqL.of X5.hp⟩, _, rfl, pl, a, vw % 1000000 :: r, rfl, rfl, X5.hp, by simp only [List.length_cons]; omega, ?_⟩
                have X6 := X5.pile (a :: vw % 1000000 :: r)
                rw [eb] at X6
                rw [eb]
                exact q1 _ X6
              · refine ⟨_, rfl, rfl, false, congrArg V.bl (F5 _ hns), iteF ?_⟩
                exact q1 _ X5
      · cases hst
end
end Tw

/-! _law_done_by -/
namespace Tw
open PySem PySem.Spec PyProof.Rows L2
theorem scODone : FnScope ["_law_a_code", "_law_a_kept", "_law_a_taken", "_law_pile", "_law_places", "_law_given", "_law_act"] ["_law_a_code", "_law_a_kept", "_law_a_taken"] (defScope (topS 19)) := ⟨rfl, rfl, rfl, by decide +kernel, rfl, by decide +kernel, by decide +kernel⟩
/-- what it tells: places, and pairs of what was given -/
structure OwnPair (K : PySem.W.Frag) (H0 H : Hp) (r : Addr) (kept : List Int) (out : List (Str × Int)) : Prop where
  ex : ∃ kt gl gvs, H0 r = none ∧ H r = some (.tup [.ref kt, .ref gl]) ∧ SqT K H kt (kept.map V.int) ∧ H gl = some (.lst gvs) ∧ Paired (OutP H) gvs out
def spOwnDone (K : PySem.W.Frag) : Sp := fun vs H Q _ => ∃ (H0 : Hp) (c kt td : Addr) (xs : List V) (acts : List Act) (ks : List Int) (tds : List (Key × V)) (ta : List Addr) (taken : List (Str × List Int)) (s' : DS), vs = [.ref c, .ref kt, .ref td] ∧ Same H0 H ∧ SqT K H0 c xs ∧ Paired (ActV K H0) xs acts ∧ (∀ a ∈ acts, actOk a) ∧ acts.length ≤ 1000 ∧
  SqS K H0 kt (ks.map V.int) ∧ H td = some (.dK tds) ∧ Ents H tds taken ta ∧ ta.Nodup ∧ (∀ a ∈ ta, H0 a = none) ∧ (taken.map (·.1)).Nodup ∧ DS.Good ⟨[], ks, taken, []⟩ ∧ runA ⟨[], ks, taken, []⟩ acts = some s' ∧
  ∀ r H' out, Same H0 H' → OwnPair K H0 H' r s'.kept out → s'.given = grp out → out.length ≤ 1000 → Q (.ref r) H'
section
variable {P : Program} {w : World} {K : PySem.W.Frag} {mg : Str → Option Value} {base : Heap}
theorem ok_own_done {f : Addr} {fd : FuncData} {k k1 : Nat} (g : Bl mg) (C_law_one_act : Cal P w K mg base "_law_one_act" k1 ["_law_act", "_law_pile", "_law_a_kept", "_law_a_taken", "_law_given"] (spOneAct K)) (hk : k1 ≤ k) (F : Fun K "_law_done_by" "_law_done_by" (topS 19) f fd) : FnOk P w K mg base CX0 (k + 1) f fd ["_law_a_code", "_law_a_kept", "_law_a_taken"] (spOwnDone K) := by
  refine F.ok scODone (fun vs H Q E h => ?_) (fun cdv A outer s H vs Q E hr h => ?_)
  · obtain ⟨H0, c, kt, td, xs, acts, ks, tds, ta, taken, s', rfl, _⟩ := h
    rfl
  · obtain ⟨H0, c, kt, td, xs, acts, ks, tds, ta, taken, s', rfl, s0, hc, hp, hok, hal, hkt, htd, he, nd, fr, nk, hgood, hrun, q⟩ := h
    refine ⟨_, (pss_cons (ps_par3 (i := 3) (j := 4) (l := 5) rfl scODone.nd rfl rfl rfl (by decide) (by decide) (by decide) rfl rfl rfl (pa_cons (pe_lstU pa_nil) (pa_cons (pe_callTy (call_lstU' K) (by rfl) g.list PyProof.Rows.boot_list (pa_cons (pv 1) pa_nil)) (pa_cons (pe_lstU pa_nil) pa_nil))) rfl)
      (pss_cons (ps_for PassesOwn.never rfl (pi_tup' K (pv 0)) (pg_name (i := 6) scODone.nd rfl (Or.inl rfl))
        (pss_one (ps_expr (pe_c C_law_one_act hr hk (ha := (pa_cons (pv 6) (pa_cons (pv 3) (pa_cons (pv 4) (pa_cons (pv 2) (pa_cons (pv 5) pa_nil))))))))))
      (pss_one (ps_ret (pe_tupU (pa_cons (pe_callTy (call_tupU' K) (by rfl) g.tuple PyProof.Rows.boot_tuple (pa_cons (pv 4) pa_nil)) (pa_cons (pv 5) pa_nil))))))), ?_⟩
    refine ⟨Nat.zero_le _, fun pl H1 n1 s1 c1 => ⟨_, rfl, kt, _, rfl, sqs_mono (s0.trans s1) hkt, fun kp H2 n2 s2 c2 => ⟨Nat.zero_le _, fun gl H3 n3 s3 c3 => ⟨_, _, _, rfl, ?_⟩⟩⟩⟩
    have s13 : Same H1 H3 := s2.trans s3
    have s03 : Same H H3 := s1.trans s13
    have hlx : xs.length = acts.length := Paired.length hp
    have hne : ∀ a ∈ ta, ∃ l, H a = some (.lst l) := fun a ha => ents_lst he ha
    have X0 : LX H0 H3 pl kp td gl tds ta ⟨[], ks, taken, []⟩ [] := by
      refine ⟨s13 _ _ c1, s3 _ _ c2, s03 _ _ htd, ents_mono he fun a _ o h => s03 a o h, ⟨[], c3, .nil⟩, ?_, nk, ⟨s0.free n1, (s0.trans s1).free n2, (s0.trans (s1.trans s2)).free n3, fr⟩, s0.trans s03, rfl⟩
      rw [List.nodup_cons, List.nodup_cons, List.nodup_cons]
      refine ⟨fun hm => ?_, fun hm => ?_, fun hm => ?_, nd⟩
      · rcases List.mem_cons.mp hm with e | hm
        · rw [← e, c1] at n2
          cases n2
        · rcases List.mem_cons.mp hm with e | hm
          · rw [← e, s2 _ _ c1] at n3
            cases n3
          · obtain ⟨l, hl⟩ := hne _ hm
            rw [hl] at n1
            cases n1
      · rcases List.mem_cons.mp hm with e | hm
        · rw [← e, c2] at n3
          cases n3
        · obtain ⟨l, hl⟩ := hne _ hm
          rw [s1 _ _ hl] at n2
          cases n2
      · obtain ⟨l, hl⟩ := hne _ hm
        rw [(s1.trans s2) _ _ hl] at n3
        cases n3
    refine ⟨_, rfl, c, rfl, ⟨xs, same_sqt (s0.trans s03) hc⟩, for_tup (K := K) (xs := xs) (fun i σ H2 => ∃ (t : DS) (out : List (Str × Int)) (y : Option V), σ = [some (.ref c), some (.ref kt), some (.ref td), some (.ref pl), some (.ref kp), some (.ref gl), y] ∧ LX H0 H2 pl kp td gl tds ta t out ∧ out.length ≤ i ∧ runA ⟨[], ks, taken, []⟩ (acts.take i) = some t)
      ⟨_, [], none, rfl, X0, Nat.le_refl _, rfl⟩ (fun i σ H2 _ ⟨_, _, _, _, D, _⟩ => same_sqt D.sm hc) ?_ ?_⟩
    · rintro i v σ H2 hi ⟨t, out, y, rfl, X, hol, ht⟩
      obtain ⟨a, ha, hv⟩ := paired_get hp hi
      have hai : i < acts.length := (List.getElem?_eq_some_iff.mp ha).1
      obtain ⟨g1, b1⟩ := run_inv _ _ _ ht hgood (fun z hz => hok z (List.mem_of_mem_take hz)) 0 ⟨Nat.le_refl _, Nat.le_refl _, fun e he => nomatch he⟩
      have e1 : acts = acts.take i ++ a :: acts.drop (i + 1) := by
        have := List.take_append_drop i acts
        rw [List.drop_eq_getElem_cons hai] at this
        rw [List.getElem?_eq_getElem hai] at ha
        rw [Option.some.inj ha] at this
        exact this.symm
      rw [e1] at hrun
      obtain ⟨s1, r1, r2⟩ := runA_app _ _ _ _ hrun
      rw [ht] at r1
      cases r1
      have r2' : (match step t a with | some s' => runA s' (acts.drop (i + 1)) | none => none) = some s' := r2
      cases es : step t a with
      | none =>
        rw [es] at r2'
        cases r2'
      | some t1 =>
      refine ⟨_, rfl, _, rfl, _, rfl, _, rfl, _, rfl, ?_⟩
      refine ⟨H0, v, pl, kp, td, gl, tds, ta, t, t1, out, a, rfl, X, actv_mono X.sm hv, hok a (List.mem_of_getElem? ha), g1, ?_, by omega, es, fun H3 out' X3 ho' => ⟨t1, out', some v, rfl, X3, by omega, ?_⟩⟩
      · have hl := List.length_take_le i acts
        exact ⟨by have := b1.p; omega, by have := b1.g; omega, fun e he => by have := b1.e e he; omega⟩
      · rw [List.take_add_one, ha]
        exact (runA_snoc _ _ _ _ ht).trans es
    · rintro σ H2 ⟨t, out, y, rfl, X, hol, ht⟩
      rw [hlx, List.take_length, hrun] at ht
      cases ht
      obtain ⟨gvs, g1, g2⟩ := X.hg
      refine ⟨_, rfl, kp, _, rfl, .inl (SqL.of X.hk), fun k2 H4 s4 c4 => ⟨_, rfl, (by decide : 2 ≤ 100000), fun r H5 nr s5 c5 => q r H5 out (X.sm.trans (s4.trans s5)) ⟨k2, gl, gvs, (X.sm.trans s4).free nr, c5, same_sqt s5 c4, s5 _ _ (s4 _ _ g1), g2.mono fun _ _ => outP_mono ((kpT_same s4).trans (kpT_same s5))⟩ X.gr (by omega)⟩⟩
end
end Tw

/-! dicts of lists of numbers, once more: put, merged pairs, [(k, list(d[k])) for k in d] -/
namespace Tw
open PySem PySem.Spec PyProof.Rows L2
theorem entsA_none {K : PySem.W.Frag} {H : Hp} {t : Str} : ∀ {kvs : List (Key × V)} {es : List (Str × List Int)}, EntsA K H kvs es → (valV kvs (Sum.inr t : Key) = none ↔ lk es t = none)
  | _, _, .nil => ⟨fun _ => rfl, fun _ => rfl⟩
  | _, _, .cons (s := s) h r => by
    by_cases c : s = t
    · rw [valV_pos (by rw [c]), lk_pos c]
      exact ⟨fun z => (Option.some_ne_none _ z).elim, fun z => (Option.some_ne_none _ z).elim⟩
    · rw [valV_neg (inr_ne c), lk_neg c]
      exact entsA_none r
theorem entsA_val {K : PySem.W.Frag} {H : Hp} {t : Str} {ns : List Int} : ∀ {kvs : List (Key × V)} {es : List (Str × List Int)}, EntsA K H kvs es → lk es t = some ns → ∃ a, valV kvs (Sum.inr t : Key) = some (.ref a) ∧ SqS K H a (ns.map V.int)
  | _, _, .nil, h => nomatch h
  | _, _, .cons (s := s) (a := a) h r, e => by
    by_cases c : s = t
    · rw [lk_pos c] at e
      cases e
      exact ⟨a, valV_pos (by rw [c]), h⟩
    · rw [lk_neg c] at e
      obtain ⟨b, h1, h3⟩ := entsA_val r e
      exact ⟨b, (valV_neg (inr_ne c)).trans h1, h3⟩
theorem entsA_snoc {K : PySem.W.Frag} {H : Hp} {t : Str} {ns : List Int} {b : Addr} (hb : SqS K H b (ns.map V.int)) : ∀ {kvs : List (Key × V)} {es : List (Str × List Int)}, EntsA K H kvs es → EntsA K H (kvs ++ [(Sum.inr t, .ref b)]) (es ++ [(t, ns)])
  | _, _, .nil => .cons hb .nil
  | _, _, .cons h r => .cons h (entsA_snoc hb r)
theorem entsA_map {K : PySem.W.Frag} {H : Hp} {t : Str} {ns : List Int} {b : Addr} (hb : SqS K H b (ns.map V.int)) : ∀ {kvs : List (Key × V)} {es : List (Str × List Int)}, EntsA K H kvs es → EntsA K H (kvs.map fun kv => if kv.1 = (Sum.inr t : Key) then (kv.1, .ref b) else kv) (stE es t ns)
  | _, _, .nil => .nil
  | _, _, .cons (s := s) (a := a) (ns := ms) (kvs := kvs) (es := es) h r => by
    show EntsA K H ((if (Sum.inr s : Key) = Sum.inr t then (Sum.inr s, .ref b) else (Sum.inr s, .ref a)) :: _) ((if s = t then (s, ns) else (s, ms)) :: stE es t ns)
    by_cases c : s = t
    · rw [if_pos c, if_pos (by rw [c])]
      exact .cons hb (entsA_map hb r)
    · rw [if_neg c, if_neg (inr_ne c)]
      exact .cons h (entsA_map hb r)
/-- found[t] = found.get(t, []) + [x] -/
theorem entsA_put {K : PySem.W.Frag} {H : Hp} {t : Str} {x : Int} {b : Addr} {kvs : List (Key × V)} {es : List (Str × List Int)} (h : EntsA K H kvs es) (hb : SqS K H b (((lk es t).getD [] ++ [x]).map V.int)) : EntsA K H (putK kvs (Sum.inr t) (.ref b)) (pushE es t x) := by
  unfold pushE
  cases hl : lk es t with
  | none =>
    rw [hl] at hb
    rw [putK_new _ ((entsA_none h).mpr hl)]
    exact entsA_snoc hb h
  | some ns =>
    rw [hl] at hb
    obtain ⟨a, h1, _⟩ := entsA_val h hl
    unfold putK
    rw [if_pos (by rw [valV_any, h1]; rfl)]
    exact entsA_map hb h
theorem sqs_dk {K : PySem.W.Frag} {H : Hp} {a d : Addr} {xs : List V} {ks : List (Key × V)} {o : HO} (hd : H d = some (.dK ks)) (h : SqS K H a xs) : SqS K (upd H d o) a xs := by
  have ne : ∀ u, u ≠ HO.dK ks → H a = some u → a ≠ d := fun u hu h e => by
    rw [e, hd] at h
    exact hu (Option.some.inj h).symm
  rcases h with ((h | ⟨o', h⟩) | h) | ((h | ⟨o', h⟩) | h)
  · exact .inl (.inl (.inl (by rw [upd_ne (ne _ (by intro z; cases z) h)]; exact h)))
  · exact .inl (.inl (.inr ⟨o', by rw [upd_ne (ne _ (by intro z; cases z) h)]; exact h⟩))
  · exact .inl (.inr h)
  · exact .inr (.inl (.inl (by rw [upd_ne (ne _ (by intro z; cases z) h)]; exact h)))
  · exact .inr (.inl (.inr ⟨o', by rw [upd_ne (ne _ (by intro z; cases z) h)]; exact h⟩))
  · exact .inr (.inr h)
theorem entsA_dk {K : PySem.W.Frag} {H : Hp} {d : Addr} {ks : List (Key × V)} {o : HO} (hd : H d = some (.dK ks)) : ∀ {kvs : List (Key × V)} {es : List (Str × List Int)}, EntsA K H kvs es → EntsA K (upd H d o) kvs es
  | _, _, .nil => .nil
  | _, _, .cons h r => .cons (sqs_dk hd h) (entsA_dk hd r)
theorem merge_nd : ∀ (more acc : List (Key × V)), ((acc ++ more).map (·.1)).Nodup → mergeK acc more = acc ++ more
  | [], acc, _ => by
    rw [List.append_nil]
    rfl
  | kv :: r, acc, h => by
    have hn : valV acc kv.1 = none := by
      cases e : valV acc kv.1 with
      | none => rfl
      | some v =>
        have h1 := valV_any kv.1 acc
        rw [e] at h1
        obtain ⟨p, hp, hp2⟩ := List.any_eq_true.mp h1
        have hp2 := of_decide_eq_true hp2
        rw [List.map_append, List.nodup_append] at h
        exact absurd hp2 (h.2.2 p.1 (List.mem_map.mpr ⟨p, hp, rfl⟩) kv.1 (List.mem_map.mpr ⟨kv, List.mem_cons_self, rfl⟩))
    show mergeK (putK acc kv.1 kv.2) r = _
    rw [putK_new _ hn]
    have e : acc ++ kv :: r = (acc ++ [(kv.1, kv.2)]) ++ r := by simp
    rw [e] at h ⊢
    exact merge_nd r _ h
theorem ents_keys {H : Hp} : ∀ {kvs : List (Key × V)} {es : List (Str × List Int)} {as : List Addr}, Ents H kvs es as → kvs.map (·.1) = es.map fun e => (Sum.inr e.1 : Key)
  | _, _, _, .nil => rfl
  | _, _, _, .cons h r => by
    rw [List.map_cons, List.map_cons, ents_keys r]
theorem entsA_keys {K : PySem.W.Frag} {H : Hp} : ∀ {kvs : List (Key × V)} {es : List (Str × List Int)}, EntsA K H kvs es → kvs.map (·.1) = es.map fun e => (Sum.inr e.1 : Key)
  | _, _, .nil => rfl
  | _, _, .cons h r => by
    rw [List.map_cons, List.map_cons, entsA_keys r]
theorem inr_nd {es : List (Str × List Int)} (h : (es.map (·.1)).Nodup) : (es.map fun e => (Sum.inr e.1 : Key)).Nodup := by
  have e : (es.map fun e => (Sum.inr e.1 : Key)) = (es.map (·.1)).map (Sum.inr : Str → Key) := by
    rw [List.map_map]
    rfl
  rw [e]
  unfold List.Nodup at h ⊢
  rw [List.pairwise_map]
  exact h.imp fun hab z => hab (Sum.inr.inj z)
theorem lk_at {es : List (Str × List Int)} {i : Nat} {s : Str} {ns : List Int} (h : es[i]? = some (s, ns)) (nd : (es.map (·.1)).Nodup) : lk es s = some ns := by
  cases e : lk es s with
  | none =>
    unfold lk at e
    cases q : es.find? (fun e => decide (e.1 = s)) with
    | none =>
      have := List.find?_eq_none.mp q (s, ns) (List.mem_of_getElem? h)
      simp at this
    | some p =>
      rw [q] at e
      cases e
  | some ms =>
    have h1 := lk_mem e
    obtain ⟨j, hj⟩ := List.mem_iff_getElem?.mp h1
    have h2 : (es.map (·.1))[j]? = some s := by rw [List.getElem?_map, hj]; rfl
    have h3 : (es.map (·.1))[i]? = some s := by rw [List.getElem?_map, h]; rfl
    have hl : j < (es.map (·.1)).length := (List.getElem?_eq_some_iff.mp h2).1
    have := (List.getElem?_inj hl nd).mp (h2.trans h3.symm)
    subst this
    rw [hj] at h
    cases h
    rfl
/-- [(k, list(d[k])) for k in d] -/
theorem copyL {K : PySem.W.Frag} {σ : L2.St} {i : Nat} {vs : List Nat} {H2 : Hp} {td : Addr} {tds : List (Key × V)} {es : List (Str × List Int)} {Q : VK} {te te' : TE} (hd : H2 td = some (.dK tds)) (he : EntsA K H2 tds es) (nk : (es.map (·.1)).Nodup) (hlen : es.length ≤ 5000)
    (hx : ∀ x, ((wipe σ vs).set i (some x))[i]? = some (some x)) (hw : ∀ x, wipe ((wipe σ vs).set i (some x)) vs = wipe σ vs)
    (hte : ∀ od (Q' : VK), Q' (.ref td) (upd H2 td (.frz od (.dK tds))) → te σ (upd H2 td (.frz od (.dK tds))) Q') (hte' : ∀ x (H : Hp) (Q' : VK), Q' (.ref td) H → te' ((wipe σ vs).set i (some x)) H Q')
    (q : ∀ D ps kvs as H', H2 D = none → Same H2 H' → H' D = some (.lst (ps.map V.ref)) → Paired (fun p kv => H' p = some (.tup [kV kv.1, kv.2])) ps kvs → Ents H' kvs es as → as.Nodup → (∀ a ∈ as, H2 a = none) → Q (.ref D) H') :
    tLockE (tLc (iKeys te) (gName i) tYes (tTupU (tCons (tVar i) (tCons (tCB (rLstU K) (tCons (tDGet te' (tVar i)) tNil)) tNil))) vs) σ H2 Q := by
  refine ⟨td, .dK tds, hd, trivial, fun od => hte od _ ⟨td, od, rfl, .inl ⟨tds, upd_same, fun D nD => ?_⟩⟩⟩
  have nDt : D ≠ td := fun e => by
    rw [e, upd_same] at nD
    cases nD
  have nD2 : H2 D = none := by
    rw [upd_ne nDt] at nD
    exact nD
  have lk2 : ∀ b o, b ≠ td → H2 b = some o → (upd H2 td (.frz od (.dK tds))) b = some o := fun b o h1 h2 => by
    rw [upd_ne h1]
    exact h2
  have sqk : ∀ {H3 : Hp} {a : Addr} {xs : List V}, (∀ b o, b ≠ td → H2 b = some o → H3 b = some o) → SqS K H2 a xs → SqS K H3 a xs := fun {H3 a xs} k h => by
    rcases h with h | h
    · refine .inl ?_
      rcases h with (h | ⟨o, h⟩) | h
      · exact .inl (.inl (k _ _ (fun e => by rw [e, hd] at h; cases h) h))
      · exact .inl (.inr ⟨o, k _ _ (fun e => by rw [e, hd] at h; cases h) h⟩)
      · exact .inr h
    · refine .inr ?_
      rcases h with (h | ⟨o, h⟩) | h
      · exact .inl (.inl (k _ _ (fun e => by rw [e, hd] at h; cases h) h))
      · exact .inl (.inr ⟨o, k _ _ (fun e => by rw [e, hd] at h; cases h) h⟩)
      · exact .inr h
  refine lc_it walk_keys (fun n H3 => (∀ b o, b ≠ td → H2 b = some o → H3 b = some o) ∧ H3 td = some (.frz od (.dK tds)) ∧ ∃ ps kvs as, H3 D = some (.lst (ps.map V.ref)) ∧ Paired (fun p kv => H3 p = some (.tup [kV kv.1, kv.2])) ps kvs ∧ Ents H3 kvs (es.take n) as ∧ as.Nodup ∧ (∀ a ∈ as, H2 a = none ∧ a ≠ D ∧ a ≠ td))
    ⟨fun b o h1 h2 => ?_, ?_, [], [], [], upd_same, .nil, .nil, List.nodup_nil, fun a ha => nomatch ha⟩ (fun n H3 _ p => p.2.1) ?_ ?_
  · rw [upd_ne (ne_of_none h2 nD2)]
    exact lk2 b o h1 h2
  · rw [upd_ne nDt.symm, upd_same]
  · rintro n x H3 H4 hn ⟨k3, l3, ps, kvs, as, d3, p3, e3, n3, f3⟩ ⟨rfl, k, v, hkv, rfl⟩
    obtain ⟨s, a, ns, e0, hes, hsq⟩ := entsA_get he hkv
    cases e0
    refine ⟨hw _, ?_⟩
    have hval : valV tds (Sum.inr s : Key) = some (.ref a) := by
      obtain ⟨a', h1, _⟩ := entsA_val he (lk_at hes nk)
      have hk := entsA_keys he
      rw [h1]
      have nd2 : (tds.map (·.1)).Nodup := by rw [hk]; exact inr_nd nk
      have h2 : (Sum.inr s, V.ref a') ∈ tds := by
        unfold valV at h1
        cases q : tds.find? (fun kv => decide (kv.1 = (Sum.inr s : Key))) with
        | none =>
          rw [q] at h1
          cases h1
        | some p =>
          rw [q] at h1
          have hm := List.mem_of_find?_eq_some q
          have hp : decide (p.1 = (Sum.inr s : Key)) = true := List.find?_some (p := fun kv : Key × V => decide (kv.1 = (Sum.inr s : Key))) q
          have hp := of_decide_eq_true hp
          have h1' : p.2 = V.ref a' := Option.some.inj h1
          have e9 : p = (Sum.inr s, V.ref a') := Prod.ext hp h1'
          rw [e9] at hm
          exact hm
      obtain ⟨j, hj⟩ := List.mem_iff_getElem?.mp h2
      have g2 : (tds.map (·.1))[j]? = some (Sum.inr s) := by rw [List.getElem?_map, hj]; rfl
      have g3 : (tds.map (·.1))[n]? = some (Sum.inr s) := by rw [List.getElem?_map, hkv]; rfl
      have hl : j < (tds.map (·.1)).length := (List.getElem?_eq_some_iff.mp g2).1
      have := (List.getElem?_inj hl nd2).mp (g2.trans g3.symm)
      subst this
      rw [hj] at hkv
      cases hkv
      rfl
    refine ⟨_, hx _, hte' _ _ _ ⟨_, hx _, td, .ref a, rfl, .inl ⟨tds, Sum.inr s, .inr ⟨od, l3⟩, rfl, hval.symm⟩, a, ns.map V.int, rfl, sqk k3 hsq, fun l H5 nl s5 c5 => ⟨by show 2 ≤ 100000; decide, fun T H6 nT s6 c6 => ?_⟩⟩⟩
    have h4D : H4 D = some (.lst (ps.map V.ref)) := d3
    have s46 : Same H4 H6 := s5.trans s6
    have hD6 := s46 _ _ d3
    have t6 := s46 _ _ l3
    have nDl : l ≠ D := fun e => by rw [e, d3] at nl; cases nl
    have nlt : l ≠ td := fun e => by rw [e, l3] at nl; cases nl
    have nTD : T ≠ D := fun e => by rw [e, s5 _ _ d3] at nT; cases nT
    have nl2 : H2 l = none := by
      cases e : H2 l with
      | none => rfl
      | some o =>
        rw [k3 l o nlt e] at nl
        cases nl
    refine ⟨_, hD6, ?_, ?_⟩
    · rw [List.length_map, p3.length, (ents_len e3).1, List.length_take]
      have : sizeLine = 16777216 := rfl
      omega
    · have kk : ∀ b o, b ≠ D → H6 b = some o → (upd H6 D (.lst (ps.map V.ref ++ [.ref T]))) b = some o := fun b o hb h => by rw [upd_ne hb]; exact h
      refine ⟨fun b o h1 h2 => kk b o (ne_of_none h2 nD2) (s46 _ _ (k3 b o h1 h2)), kk _ _ nDt.symm t6, ps ++ [T], kvs ++ [(Sum.inr s, .ref l)], as ++ [l], ?_, ?_, ?_, ?_, ?_⟩
      · rw [upd_same, List.map_append]
        rfl
      · refine Paired.snoc (p3.mono fun p kv h => kpT_tup ((kpT_same s46).trans (kpT_lst hD6)) h) (kk _ _ nTD c6)
      · rw [List.take_add_one, hes]
        refine ents_snoc (kk _ _ nDl (s6 _ _ c5)) (ents_mono e3 fun b hb o ho => kk _ _ (f3 b hb).2.1 (s46 _ _ ho))
      · rw [List.nodup_append]
        refine ⟨n3, by simp, fun b hb c hc => ?_⟩
        rw [List.mem_singleton.mp hc]
        obtain ⟨ms, hm⟩ := ents_lst e3 hb
        exact ne_of_none hm nl
      · intro b hb
        rcases List.mem_append.mp hb with hb | hb
        · exact f3 b hb
        · rw [List.mem_singleton.mp hb]
          exact ⟨nl2, nDl, nlt⟩
  · rintro H3 ⟨k3, l3, ps, kvs, as, d3, p3, e3, n3, f3⟩
    refine ⟨l3, q D ps kvs as _ nD2 (fun b o h => ?_) ?_ ?_ ?_ n3 fun a ha => (f3 a ha).1⟩
    · by_cases hb : b = td
      · subst hb
        rw [upd_same]
        rw [hd] at h
        exact h
      · rw [upd_ne hb]
        exact k3 b o hb h
    · rw [upd_ne nDt]
      exact d3
    · refine p3.mono fun p kv h => ?_
      rw [upd_ne (fun e => by rw [e, l3] at h; cases h)]
      exact h
    · have et : es.take tds.length = es := List.take_of_length_le (by rw [entsA_len he]; exact Nat.le_refl _)
      rw [et] at e3
      exact ents_mono e3 fun b hb o ho => by
        rw [upd_ne (f3 b hb).2.2]
        exact ho
end Tw

/-! _law_due -/
namespace Tw
open PySem PySem.Spec PyProof.Rows L2
/-- more built-in names that the top leaves alone -/
structure Bm (mg : Str → Option Value) : Prop where
  dict : mg "dict" = none
  sorted : mg "sorted" = none
  max : mg "max" = none
  repr : mg "repr" = none
def rDictP (K : PySem.W.Frag) : List V → Hp → VK → Prop := fun xs H Q => ∃ (a : Addr) (ps : List Addr) (kvs : List (Key × V)), xs = [.ref a] ∧ SqL K H a (ps.map V.ref) ∧ Paired (fun p kv => SqT K H p [kV kv.1, kv.2]) ps kvs ∧ ∀ p, H p = none → Q (.ref p) (upd H p (.dK (mergeK [] kvs)))
theorem call_dictP' {X : Cx} (K : PySem.W.Frag) (hc : X.calm = true) (h : X.K = K := by rfl) : CallR X (.type "dict") (rDictP K) := by subst h; exact call_dictP hc
theorem scDue : FnScope ["_law_a_code", "_law_places", "_law_a_taken", "_law_a_kept", "_law_given", "_law_tray", "_law_found", "_law_number"] ["_law_a_code", "_law_places", "_law_a_taken"] (defScope (topS 20)) := ⟨rfl, rfl, rfl, by decide +kernel, rfl, by decide +kernel, by decide +kernel⟩
/-- what is due: places, and a dict of what was given -/
structure DueP (K : PySem.W.Frag) (H : Hp) (r : Addr) (kept : List Int) (given : List (Str × List Int)) : Prop where
  ex : ∃ kt gd gvs, H r = some (.tup [.ref kt, .ref gd]) ∧ SqT K H kt (kept.map V.int) ∧ H gd = some (.dK gvs) ∧ ∃ as, Ents H gvs given as
def spDue (K : PySem.W.Frag) : Sp := fun vs H Q _ => ∃ (c kt td : Addr) (xs : List V) (acts : List Act) (ks : List Int) (tds : List (Key × V)) (taken : List (Str × List Int)) (s' : DS), vs = [.ref c, .ref kt, .ref td] ∧ SqT K H c xs ∧ Paired (ActV K H) xs acts ∧ (∀ a ∈ acts, actOk a) ∧ acts.length ≤ 1000 ∧
  SqS K H kt (ks.map V.int) ∧ H td = some (.dK tds) ∧ EntsA K H tds taken ∧ (taken.map (·.1)).Nodup ∧ taken.length ≤ 1000 ∧ DS.Good ⟨[], ks, taken, []⟩ ∧ runA ⟨[], ks, taken, []⟩ acts = some s' ∧
  ∀ r H', Same H H' → DueP K H' r s'.kept s'.given → Q (.ref r) H'
theorem entsL_map {H : Hp} {t : Str} {ns : List Int} {b : Addr} (hb : H b = some (.lst (ns.map V.int))) : ∀ {kvs : List (Key × V)} {es : List (Str × List Int)} {as : List Addr}, Ents H kvs es as → ∃ as', Ents H (kvs.map fun kv => if kv.1 = (Sum.inr t : Key) then (kv.1, .ref b) else kv) (stE es t ns) as'
  | _, _, _, .nil => ⟨[], .nil⟩
  | _, _, _, .cons (s := s) (a := a) (ns := ms) (kvs := kvs) (es := es) h r => by
    obtain ⟨as', ih⟩ := entsL_map hb r
    by_cases c : s = t
    · refine ⟨b :: as', ?_⟩
      show Ents H ((if (Sum.inr s : Key) = Sum.inr t then (Sum.inr s, .ref b) else (Sum.inr s, .ref a)) :: _) ((if s = t then (s, ns) else (s, ms)) :: stE es t ns) _
      rw [if_pos c, if_pos (by rw [c])]
      exact .cons hb ih
    · refine ⟨a :: as', ?_⟩
      show Ents H ((if (Sum.inr s : Key) = Sum.inr t then (Sum.inr s, .ref b) else (Sum.inr s, .ref a)) :: _) ((if s = t then (s, ns) else (s, ms)) :: stE es t ns) _
      rw [if_neg c, if_neg (inr_ne c)]
      exact .cons h ih
theorem entsL_put {H : Hp} {t : Str} {x : Int} {b : Addr} {kvs : List (Key × V)} {es : List (Str × List Int)} {as : List Addr} (h : Ents H kvs es as) (hb : H b = some (.lst (((lk es t).getD [] ++ [x]).map V.int))) : ∃ as', Ents H (putK kvs (Sum.inr t) (.ref b)) (pushE es t x) as' := by
  unfold pushE
  cases hl : lk es t with
  | none =>
    rw [hl] at hb
    rw [putK_new _ ((ents_none h).mpr hl)]
    exact ⟨_, ents_snoc hb h⟩
  | some ns =>
    rw [hl] at hb
    obtain ⟨a, h1, _, _⟩ := ents_get h hl
    unfold putK
    rw [if_pos (by rw [valV_any, h1]; rfl)]
    exact entsL_map hb h
theorem ents_dk {H : Hp} {d : Addr} {ks : List (Key × V)} {o : HO} (hd : H d = some (.dK ks)) {kvs : List (Key × V)} {es : List (Str × List Int)} {as : List Addr} (h : Ents H kvs es as) : Ents (upd H d o) kvs es as :=
  ents_mono h fun a ha o' ho => by
    obtain ⟨l, hl⟩ := ents_lst h ha
    rw [upd_ne (lst_ne_dk hl hd).symm]
    exact ho
theorem length_pushE (es : List (Str × List Int)) (t : Str) (x : Int) : (pushE es t x).length ≤ es.length + 1 := by
  unfold pushE
  split
  · unfold stE
    rw [List.length_map]
    exact Nat.le_succ _
  · rw [List.length_append]
    exact Nat.le_refl _
theorem pushE_len {es : List (Str × List Int)} {t : Str} {x : Int} {n : Nat} {e : Str × List Int} (h : ∀ e ∈ es, e.2.length ≤ n) (he : e ∈ pushE es t x) : e.2.length ≤ n + 1 := by
  unfold pushE at he
  split at he
  · rename_i ns hl
    unfold stE at he
    obtain ⟨e0, h0, rfl⟩ := List.mem_map.mp he
    by_cases c : e0.1 = t
    · rw [if_pos c]
      show (ns ++ [x]).length ≤ n + 1
      rw [List.length_append]
      exact Nat.succ_le_succ (h _ (lk_mem hl))
    · rw [if_neg c]
      exact Nat.le_succ_of_le (h e0 h0)
  · rcases List.mem_append.mp he with he | he
    · exact Nat.le_succ_of_le (h e he)
    · rw [List.mem_singleton.mp he]
      exact Nat.succ_le_succ (Nat.zero_le _)
section
variable {P : Program} {w : World} {K : PySem.W.Frag} {mg : Str → Option Value} {base : Heap}
theorem ok_due {f : Addr} {fd : FuncData} {k k1 : Nat} (g : Bl mg) (gm : Bm mg) (C_law_done_by : Cal P w K mg base "_law_done_by" k1 ["_law_a_code", "_law_a_kept", "_law_a_taken"] (spOwnDone K)) (hk : k1 ≤ k) (F : Fun K "_law_due" "_law_due" (topS 20) f fd) : FnOk P w K mg base CX0 (k + 1) f fd ["_law_a_code", "_law_places", "_law_a_taken"] (spDue K) := by
  refine F.ok scDue (fun vs H Q E h => ?_) (fun cdv A outer s H vs Q E hr h => ?_)
  · obtain ⟨c, kt, td, xs, acts, ks, tds, taken, s', rfl, _⟩ := h
    rfl
  · obtain ⟨c, kt, td, xs, acts, ks, tds, taken, s', rfl, hc, hp, hok, hal, hkt, htd, he, nk, htl, hgood, hrun, q⟩ := h
    refine ⟨_, (pss_cons (ps_asg (pe_c C_law_done_by hr hk (ha := (pa_cons (pv 0) (pa_cons (pv 1) (pa_cons
      (pe_callTy (call_dictP' K rfl) (by rfl) gm.dict PyProof.Rows.boot_dict (pa_cons (pe_lock (pe_lc (own := [("_law_tray", 5)]) (g := gName 5) (tt := tYes) rfl scDue.nd (pi_keys (pv 2)) (blkOk_by (own := [("_law_tray", 5)]) (N := ["_law_a_code", "_law_places", "_law_a_taken", "_law_a_kept", "_law_given", "_law_tray", "_law_found", "_law_number"]) (sc := defScope (topS 20)) (by decide +kernel)) (fun _ _ _ _ _ => pg_name (i := 5) scDue.nd rfl (Or.inl rfl)) (fun _ _ _ _ _ => pts_nil)
        (fun _ _ _ _ _ => pe_tupU (pa_cons (pv 5) (pa_cons (pe_callTy (call_lstU' K) (by rfl) g.list PyProof.Rows.boot_list (pa_cons (pe_dget (hu_of hr) (pv 2) (pv 5) (fun _ _ => rfl)) pa_nil)) pa_nil))))) pa_nil)) pa_nil))))) (pg_tup rfl (pgs_cons (pg_name (i := 3) scDue.nd rfl (Or.inl rfl)) (pgs_cons (pg_name (i := 4) scDue.nd rfl (Or.inl rfl)) pgs_nil))))
  (pss_cons (ps_set (i := 6) scDue.nd rfl (Or.inl rfl) pe_dnewK)
  (pss_cons (ps_for PassesOwn.never rfl (pi_list' K (pv 4)) (pg_tup rfl (pgs_cons (pg_name (i := 5) scDue.nd rfl (Or.inl rfl)) (pgs_cons (pg_name (i := 7) scDue.nd rfl (Or.inl rfl)) pgs_nil)))
    (pss_one (ps_asg (pe_op op_catL (pe_dget2 (hu_of hr) (pv 6) (pv 5) (pe_lstU pa_nil) ⟨rfl, rfl, rfl, rfl⟩) (pe_lstU (pa_cons (pv 7) pa_nil))) (pg_sub (pv 6) (pv 5) (set_dict (hu_of hr))))))
  (pss_one (ps_ret (pe_tupU (pa_cons (pv 3) (pa_cons (pv 6) pa_nil)))))))), ?_⟩
    refine ⟨_, rfl, _, rfl, ?_⟩
    refine copyL (K := K) (σ := _) htd he nk (by omega) (fun _ => rfl) (fun _ => rfl) (fun od Q' h => ⟨_, rfl, h⟩) (fun x H' Q' h => ⟨_, rfl, h⟩) (fun D ps kvs as H1 nD s1 c1 p1 e1 nd1 f1 => ?_)
    refine ⟨D, ps, kvs, rfl, SqL.of c1, p1.mono fun _ _ h => SqT.of h, fun dd ndd => ?_⟩
    have hmg : mergeK [] kvs = kvs := by
      have := merge_nd kvs [] (by rw [List.nil_append, ents_keys e1]; exact inr_nd nk)
      rw [this, List.nil_append]
    rw [hmg]
    have s2 : Same H1 (upd H1 dd (.dK kvs)) := same_new ndd
    refine ⟨H, c, kt, dd, xs, acts, ks, kvs, as, taken, s', rfl, s1.trans s2, hc, hp, hok, hal, hkt, upd_same, ents_mono e1 fun a _ o h => s2 a o h, nd1, f1, nk, hgood, hrun, fun r H3 out s3 op hgr hol => ?_⟩
    obtain ⟨kt2, gl, gvs, nr, cr, ck, cg, pg⟩ := op.ex
    refine ⟨r, _, rfl, SqT.of cr, rfl, _, _, rfl, _, _, rfl, rfl, fun fnd nf => ?_⟩
    have sf : Same H3 (upd H3 fnd (.dK [])) := same_new nf
    refine ⟨_, rfl, gl, rfl, ⟨gvs, SqL.of (sf _ _ cg)⟩, for_list (K := K) (xs := gvs) (fun i σ H4 => ∃ y5 y7 kvs4, σ = [some (.ref c), some (.ref kt), some (.ref td), some (.ref kt2), some (.ref gl), y5, some (.ref fnd), y7] ∧ Same H3 H4 ∧ H4 fnd = some (.dK kvs4) ∧ (∃ as4, Ents H4 kvs4 (grp (out.take i)) as4) ∧ (grp (out.take i)).length ≤ i ∧ ∀ e ∈ grp (out.take i), e.2.length ≤ i)
      ⟨_, _, [], rfl, sf, upd_same, ⟨[], .nil⟩, Nat.le_refl _, fun e he => nomatch he⟩ (fun i σ H4 _ ⟨_, _, _, _, s4, _⟩ => SqL.of (s4 _ _ cg)) ?_ ?_⟩
    · rintro i v σ H4 hi ⟨y5, y7, kvs4, rfl, s4, c4, ⟨as4, e4⟩, l4, m4⟩
      obtain ⟨⟨tr, nb⟩, ho, qq, rfl, cq⟩ := paired_get pg hi
      have hil : i < out.length := (List.getElem?_eq_some_iff.mp ho).1
      refine ⟨qq, _, rfl, SqT.of (s4 _ _ cq), rfl, _, _, rfl, _, _, rfl, rfl, ?_⟩
      refine ⟨_, rfl, fnd, rfl, .inl ⟨kvs4, .inl c4⟩, _, rfl, Nat.zero_le _, fun z Hz nz sz cz => ⟨_, DGet.k (k := Sum.inr tr) (sz _ _ c4), _, rfl, (by decide : 1 ≤ 100000), fun b5 H5 n5 s5 c5 => ?_⟩⟩
      have s45 : Same H4 H5 := sz.trans s5
      -- the list so far
      have hsq : ∃ (l : Addr) (ys : List Int), (valV kvs4 (Sum.inr tr : Key)).getD (.ref z) = .ref l ∧ H5 l = some (.lst (ys.map V.int)) ∧ (lk (grp (out.take i)) tr).getD [] = ys ∧ ys.length ≤ i := by
        cases hl : lk (grp (out.take i)) tr with
        | none =>
          rw [(ents_none e4).mpr hl]
          exact ⟨z, [], rfl, s5 _ _ cz, rfl, Nat.zero_le _⟩
        | some ns =>
          obtain ⟨a, h1, _, h2⟩ := ents_get e4 hl
          rw [h1]
          exact ⟨a, ns, rfl, s45 _ _ h2, rfl, m4 _ (lk_mem hl)⟩
      obtain ⟨l, ys, ev, hl5, eys, hyl⟩ := hsq
      rw [ev]
      have c45 := s45 _ _ c4
      refine ⟨l, b5, _, _, rfl, rfl, hl5, c5, by rw [List.length_map]; show ys.length + 1 ≤ 100000; omega, fun b6 H6 n6 s6 c6 => ?_⟩
      have c46 := s6 _ _ c45
      have etk : out.take (i + 1) = out.take i ++ [(tr, nb)] := by
        rw [List.take_add_one, ho]
        rfl
      have egr : grp (out.take (i + 1)) = pushE (grp (out.take i)) tr nb := by
        rw [etk, grp_snoc]
      have e6 : Ents H6 kvs4 (grp (out.take i)) as4 := ents_mono e4 fun a _ o h => s6 _ _ (s45 a o h)
      obtain ⟨as7, e7⟩ := entsL_put (t := tr) (x := nb) (b := b6) e6 (by rw [eys, List.map_append]; exact c6)
      have hfr : H3 fnd = none := nf
      refine ⟨_, rfl, _, rfl, fnd, _, rfl, DPut.k (k := Sum.inr tr) c46 ?_, _, _, _, rfl, same_mut (s4.trans (s45.trans s6)) hfr, upd_same, ⟨as7, ?_⟩, ?_, ?_⟩
      · rw [(ents_len e4).1]
        have : sizeLine = 16777216 := rfl
        omega
      · rw [egr]
        exact ents_dk c46 e7
      · rw [egr]
        have := length_pushE (grp (out.take i)) tr nb
        omega
      · rw [egr]
        intro e he'
        have := pushE_len (n := i) m4 he'
        exact this
    · rintro σ H4 ⟨y5, y7, kvs4, rfl, s4, c4, ⟨as4, e4⟩, l4, m4⟩
      have hlx : gvs.length = out.length := pg.length
      rw [hlx, List.take_length, ← hgr] at e4
      refine ⟨_, rfl, _, rfl, (by decide : 2 ≤ 100000), fun rr H5 nrr s5 c5 => q rr H5 (s3.trans (s4.trans s5)) ⟨kt2, fnd, kvs4, c5, same_sqt (s4.trans s5) ck, s5 _ _ c4, as4, ents_mono e4 fun a _ o h => s5 a o h⟩⟩
end
end Tw

/-! a sorted list of texts is told by its texts -/
namespace Tw
open PySem PySem.Spec PyProof.Rows L2
def leS (a b : Str) : Prop := a.cps.toList ≤ b.cps.toList
theorem leS_of {a b : Str} (h : (!ltCps b.cps.toList a.cps.toList) = true) : leS a b := by
  rw [ltCps_eq] at h
  have : ¬ b.cps.toList < a.cps.toList := by
    intro z
    rw [decide_eq_true z] at h
    cases h
  exact this
theorem leS_trans {a b c : Str} (h : leS a b) (k : leS b c) : leS a c := List.le_trans h k
theorem str_ext {a b : Str} (h : a.cps.toList = b.cps.toList) : a = b := by
  obtain ⟨a⟩ := a
  obtain ⟨b⟩ := b
  dsimp only at h
  congr 1
  exact Array.toList_inj.mp h
theorem leS_anti {a b : Str} (h : leS a b) (k : leS b a) : a = b := str_ext (List.le_antisymm h k)
theorem rising_pw : ∀ (l : List Str) (p : Str), risingS p l = true → (p :: l).Pairwise leS
  | [], p, _ => by simp
  | x :: r, p, h => by
    have h' : (!ltCps x.cps.toList p.cps.toList && risingS x r) = true := h
    obtain ⟨h1, h2⟩ := Bool.and_eq_true_iff.mp h'
    have ih := rising_pw r x h2
    have px := leS_of h1
    refine List.pairwise_cons.mpr ⟨fun y hy => ?_, ih⟩
    rcases List.mem_cons.mp hy with rfl | hy
    · exact px
    · exact leS_trans px ((List.pairwise_cons.mp ih).1 y hy)
theorem sorted_pw {l : List Str} (h : sortedS l = true) : l.Pairwise leS := by
  cases l with
  | nil => exact .nil
  | cons x r => exact rising_pw r x h
theorem sorted_one : ∀ {l m : List Str}, l.Pairwise leS → m.Pairwise leS → l.Perm m → l = m
  | [], m, _, _, p => (List.perm_nil.mp p.symm).symm
  | x :: r, [], _, _, p => List.perm_nil.mp p
  | x :: r, y :: t, hl, hm, p => by
    have hx : x ∈ y :: t := p.mem_iff.mp List.mem_cons_self
    have hy : y ∈ x :: r := p.mem_iff.mpr List.mem_cons_self
    have e : x = y := by
      rcases List.mem_cons.mp hx with h | h
      · exact h
      · rcases List.mem_cons.mp hy with h' | h'
        · exact h'.symm
        · exact leS_anti ((List.pairwise_cons.mp hl).1 y h') ((List.pairwise_cons.mp hm).1 x h)
    subst e
    rw [sorted_one (List.pairwise_cons.mp hl).2 (List.pairwise_cons.mp hm).2 (List.Perm.cons_inv p)]
theorem srt_unique {l m k : List Str} (hl : sortedS l = true) (hm : sortedS m = true) (p : l.Perm k) (p' : m.Perm k) : l = m := sorted_one (sorted_pw hl) (sorted_pw hm) (p.trans p'.symm)
theorem eqv_strs : ∀ zs : List Str, PyData.eqvAll (zs.map PyData.str) (zs.map PyData.str) = true
  | [] => rfl
  | z :: r => by
    show (PyData.eqv (.str z) (.str z) && PyData.eqvAll (r.map PyData.str) (r.map PyData.str)) = true
    rw [eqv_strs r]
    show ((z == z) && true) = true
    simp
end Tw

/-! _law_alike -/
namespace Tw
open PySem PySem.Spec PyProof.Rows L2
theorem scAlike : FnScope ["_law_found", "_law_due_here", "_law_tray"] ["_law_found", "_law_due_here"] (defScope (topS 21)) := ⟨rfl, rfl, rfl, by decide +kernel, rfl, by decide +kernel, by decide +kernel⟩
def rAll' (K : PySem.W.Frag) : List V → Hp → VK → Prop := rAll K
theorem cr_all' {X : Cx} (K : PySem.W.Frag) (hc : X.calm = true) (h : X.K = K := by rfl) : CallR X (.builtin "all") (rAll K) := by subst h; exact cr_all hc
theorem DueP.mono {K : PySem.W.Frag} {H H' : Hp} {r : Addr} {kept : List Int} {given : List (Str × List Int)} (h : DueP K H r kept given) (s : Same H H') : DueP K H' r kept given := by
  obtain ⟨kt, gd, gvs, h1, h2, h3, as, h4⟩ := h.ex
  exact ⟨kt, gd, gvs, s _ _ h1, same_sqt s h2, s _ _ h3, as, ents_mono h4 fun a _ o h => s a o h⟩
theorem okD_ints {n : Nat} {ns : List Int} (h : ns.length ≤ 100000) : okD (n + 1) (.list (ns.map PyData.int)) ∧ okD (n + 1) (.tuple (ns.map PyData.int)) := by
  have : ∀ d ∈ ns.map PyData.int, okD n d := fun d hd => by
    obtain ⟨i, _, rfl⟩ := List.mem_map.mp hd
    cases n <;> trivial
  exact ⟨⟨by rw [List.length_map]; exact h, this⟩, ⟨by rw [List.length_map]; exact h, this⟩⟩
theorem dpa_ints {K : PySem.W.Frag} {H : Hp} : ∀ ns : List Int, DpAll K H (ns.map V.int) (ns.map PyData.int)
  | [] => .nil
  | n :: r => .cons (.int n) (dpa_ints r)
def spAlike (K : PySem.W.Frag) : Sp := fun vs H Q _ => ∃ (r1 r2 : Addr) (kept : List Int) (es : List (Str × List Int)), vs = [.ref r1, .ref r2] ∧ DueP K H r1 kept es ∧ DueP K H r2 kept es ∧ (es.map (·.1)).Nodup ∧ (∀ e ∈ es, IsNm e.1 ∧ e.2.length ≤ 100000) ∧ es.length < 64 ∧ kept.length ≤ 100000 ∧ ∀ H', Same H H' → Q (.bl true) H'
section
variable {P : Program} {w : World} {K : PySem.W.Frag} {mg : Str → Option Value} {base : Heap}
theorem ok_alike {f : Addr} {fd : FuncData} {k k1 : Nat} (g : Bl mg) (gm : Bm mg) (C_law_same : Cal P w K mg base "_law_same" k1 ["_law_found", "_law_due_here"] (spSame K 1)) (hk : k1 ≤ k) (F : Fun K "_law_alike" "_law_alike" (topS 21) f fd) : FnOk P w K mg base CX0 (k + 1) f fd ["_law_found", "_law_due_here"] (spAlike K) := by
  refine F.ok scAlike (fun vs H Q E h => ?_) (fun cdv A outer s H vs Q E hr h => ?_)
  · obtain ⟨r1, r2, kept, es, rfl, _⟩ := h
    rfl
  · obtain ⟨r1, r2, kept, es, rfl, d1, d2, nk, hes, hel, hkl, q⟩ := h
    refine ⟨_, (pss_cons (ps_if (PW.pt (pw_or (pt_not (pt_val (pe_callB call_isi (by rfl) g.isinstance boot_isinstance (pa_cons (pv 0) (pa_cons (pe_bltn (v := .ty "tuple") rfl g.tuple PyProof.Rows.boot_tuple rfl) pa_nil))))) (pw_or (pt_cmpR op_ne (pe_callB (call_len' K) (by rfl) g.len PySem.boot_len (pa_cons (pv 0) pa_nil)) pe_int (nomark _)) (pw_or1 (pt_not (pt_val (pe_callB call_isi (by rfl) g.isinstance boot_isinstance (pa_cons (pe_ix (ix_tup' K) (pv 0) pe_int (fun _ _ => rfl)) (pa_cons (pe_bltn (v := .ty "dict") rfl gm.dict PyProof.Rows.boot_dict rfl) pa_nil)))))))))
    (pss_one (ps_ret pe_bl))
    pss_nil)
  (pss_cons (ps_if (PW.pt (pw_or (pt_cmpR (op_neD hr.units) (pe_callB (call_sortedD rfl) (by rfl) gm.sorted PyProof.Rows.boot_sorted (pa_cons (pe_ix (ix_tup' K) (pv 0) pe_int (fun _ _ => rfl)) pa_nil)) (pe_callB (call_sortedD rfl) (by rfl) gm.sorted PyProof.Rows.boot_sorted (pa_cons (pe_ix (ix_tup' K) (pv 1) pe_int (fun _ _ => rfl)) pa_nil)) (nomark _)) (pw_or1 (pt_not (pt_val (pe_c C_law_same hr hk (ha := (pa_cons (pe_ix (ix_tup' K) (pv 0) pe_int (fun _ _ => rfl)) (pa_cons (pe_ix (ix_tup' K) (pv 1) pe_int (fun _ _ => rfl)) pa_nil)))))))))
    (pss_one (ps_ret pe_bl))
    pss_nil)
  (pss_one (ps_ret (pe_callB (cr_all' K rfl) (by rfl) g.all boot_all (pa_cons (pe_lock (pe_lc (own := [("_law_tray", 2)]) (g := (gName 2)) (tt := tYes) rfl scAlike.nd (pi_keys (pe_ix (ix_tup' K) (pv 1) pe_int (fun _ _ => rfl))) (blkOk_by (own := [("_law_tray", 2)]) (N := ["_law_found", "_law_due_here", "_law_tray"]) (sc := defScope (topS 21)) (by decide +kernel)) (fun _ _ _ _ _ => (pg_name (i := 2) scAlike.nd rfl (Or.inl rfl))) (fun _ _ _ _ _ => pts_nil) (fun _ _ _ _ _ => (pe_c C_law_same hr hk (ha := (pa_cons (pe_dget (hu_of hr) (pe_ix (ix_tup' K) (pv 0) pe_int (fun _ _ => rfl)) (pv 2) (fun _ _ => rfl)) (pa_cons (pe_dget (hu_of hr) (pe_ix (ix_tup' K) (pv 1) pe_int (fun _ _ => rfl)) (pv 2) (fun _ _ => rfl)) pa_nil))))))) pa_nil)))))), ?_⟩
    obtain ⟨kt1, gd1, gvs1, a1, a2, a3, as1, a4⟩ := d1.ex
    obtain ⟨kt2, gd2, gvs2, b1, b2, b3, as2, b4⟩ := d2.ex
    refine ⟨_, rfl, _, _, _, _, true, rfl, .ty _, sqT_ty (SqT.of a1), kit_ty (by decide +kernel), _, rfl, iteF ?_⟩
    refine ⟨_, rfl, r1, _, rfl, .inr (SqT.of a1), rfl, _, rfl, iteF ?_⟩
    refine ⟨_, rfl, r1, _, 1, .ref gd1, rfl, rfl, SqT.of a1, rfl, _, _, _, _, true, rfl, .ty _, .base (.dK a3), kit_ty (by decide +kernel), _, rfl, iteF ?_⟩
    have hkeys : ∀ {gvs : List (Key × V)} {as : List Addr}, Ents H gvs es as → gvs.map (·.1) = (es.map (·.1)).map Sum.inr := fun h => by
      rw [ents_keys h, List.map_map]
      rfl
    have hl64 : (es.map (·.1)).length < 64 := by rw [List.length_map]; exact hel
    refine ⟨_, rfl, r1, _, 1, .ref gd1, rfl, rfl, SqT.of a1, rfl, gd1, gvs1, es.map (·.1), rfl, .inl a3, hkeys a4, hl64, fun ys1 p1 perm1 srt1 np1 => ?_⟩
    have s1 : Same H (upd H p1 (.lst (ys1.map V.str))) := same_new np1
    refine ⟨_, rfl, r2, _, 1, .ref gd2, rfl, rfl, SqT.of (s1 _ _ b1), rfl, gd2, gvs2, es.map (·.1), rfl, .inl (s1 _ _ b3), hkeys b4, hl64, fun ys2 p2 perm2 srt2 np2 => ?_⟩
    obtain rfl := srt_unique srt1 srt2 perm1 perm2
    have nm : ∀ z ∈ ys1, IsNm z := fun z hz => by
      have := perm1.mem_iff.mp hz
      obtain ⟨e, he, rfl⟩ := List.mem_map.mp this
      exact (hes e he).1
    have s2 : Same (upd H p1 (.lst (ys1.map V.str))) (upd (upd H p1 (.lst (ys1.map V.str))) p2 (.lst (ys1.map V.str))) := same_new np2
    have s12 := s1.trans s2
    have ee : (!PyData.eqv (.list (ys1.map PyData.str)) (.list (ys1.map PyData.str))) = false := by
      show (!PyData.eqvAll (ys1.map PyData.str) (ys1.map PyData.str)) = false
      rw [eqv_strs]
      rfl
    refine ⟨.list (ys1.map PyData.str), .list (ys1.map PyData.str), .lst (SqL.of (s2 _ _ upd_same)) (dpa_strs ys1), .lst (SqL.of upd_same) (dpa_strs ys1), shaped_strs nm, shaped_strs nm, false, congrArg V.bl ee, iteF ?_⟩
    refine ⟨_, rfl, r1, _, 0, .ref kt1, rfl, rfl, SqT.of (s12 _ _ a1), rfl, _, rfl, r2, _, 0, .ref kt2, rfl, rfl, SqT.of (s12 _ _ b1), rfl, .ref kt1, .ref kt2, .tuple (kept.map PyData.int), rfl, .tup (same_sqt s12 a2) (dpa_ints kept), .tup (same_sqt s12 b2) (dpa_ints kept), (okD_ints hkl).2, fun H3 s3 => ⟨_, rfl, iteF ?_⟩⟩
    have s03 := s12.trans s3
    clear np1 np2 s1 s2 s12
    -- tray by tray
    refine ⟨gd2, .dK gvs2, s03 _ _ b3, trivial, fun od => ?_⟩
    have a1' := s03 _ _ a1
    have b1' := s03 _ _ b1
    have a3' := s03 _ _ a3
    have b3' := s03 _ _ b3
    have a4' : Ents H3 gvs1 es as1 := ents_mono a4 fun a _ o h => s03 a o h
    have b4' : Ents H3 gvs2 es as2 := ents_mono b4 fun a _ o h => s03 a o h
    have n1 : r1 ≠ gd2 := fun e => by rw [e, b3'] at a1'; cases a1'
    have n2 : r2 ≠ gd2 := fun e => by rw [e, b3'] at b1'; cases b1'
    have c1 : (upd H3 gd2 (.frz od (.dK gvs2))) r1 = some (.tup [.ref kt1, .ref gd1]) := by rw [upd_ne n1]; exact a1'
    have c2 : (upd H3 gd2 (.frz od (.dK gvs2))) r2 = some (.tup [.ref kt2, .ref gd2]) := by rw [upd_ne n2]; exact b1'
    have c3 : Rd (upd H3 gd2 (.frz od (.dK gvs2))) gd1 (.dK gvs1) := by
      by_cases e : gd1 = gd2
      · subst e
        rw [a3'] at b3'
        cases b3'
        exact .inr ⟨od, upd_same⟩
      · exact .inl (by rw [upd_ne e]; exact a3')
    have c4 : Ents (upd H3 gd2 (.frz od (.dK gvs2))) gvs1 es as1 := ents_dk b3' a4'
    have c5 : Ents (upd H3 gd2 (.frz od (.dK gvs2))) gvs2 es as2 := ents_dk b3' b4'
    have c6 : (upd H3 gd2 (.frz od (.dK gvs2))) gd2 = some (.frz od (.dK gvs2)) := upd_same
    generalize hHl : upd H3 gd2 (.frz od (.dK gvs2)) = Hl at c1 c2 c3 c4 c5 c6 ⊢
    refine ⟨_, rfl, r2, _, 1, .ref gd2, rfl, rfl, SqT.of c2, rfl, gd2, od, rfl, .inl ⟨gvs2, c6, fun D nD => ?_⟩⟩
    refine lc_it walk_keys (fun i H4 => Same Hl H4 ∧ H4 D = some (.lst (List.replicate i (.bl true)))) ⟨same_new nD, upd_same⟩ (fun i H4 _ p => p.1 _ _ c6) ?_ ?_
    · rintro i x H4 H5 hi ⟨p1, p2⟩ ⟨rfl, ky, v, hkv, rfl⟩
      obtain ⟨sy, a, ns, e0, hes', hsq⟩ := entsA_get (K := K) (ents_A c5) hkv
      cases e0
      have hlk := lk_at hes' nk
      obtain ⟨l1, g1, _, g3⟩ := ents_get c4 hlk
      obtain ⟨l2, g4, _, g6⟩ := ents_get c5 hlk
      have hem := List.mem_of_getElem? hes'
      have hns := (hes _ hem).2
      have r3 : DGet H5 gd1 (.str sy) (some (.ref l1)) := .inl ⟨gvs1, Sum.inr sy, by
        rcases c3 with h | ⟨o, h⟩
        · exact .inl (p1 _ _ h)
        · exact .inr ⟨o, p1 _ _ h⟩, rfl, g1.symm⟩
      have r4 : DGet H5 gd2 (.str sy) (some (.ref l2)) := .inl ⟨gvs2, Sum.inr sy, .inr ⟨od, p1 _ _ c6⟩, rfl, g4.symm⟩
      refine ⟨rfl, ?_⟩
      refine ⟨_, rfl, r1, _, 1, .ref gd1, rfl, rfl, SqT.of (p1 _ _ c1), rfl, _, rfl, gd1, .ref l1, rfl, r3, _, rfl, r2, _, 1, .ref gd2, rfl, rfl, SqT.of (p1 _ _ c2), rfl, _, rfl, gd2, .ref l2, rfl, r4, ?_⟩
      refine ⟨.ref l1, .ref l2, .list (ns.map PyData.int), rfl, .lst (SqL.of (p1 _ _ g3)) (dpa_ints ns), .lst (SqL.of (p1 _ _ g6)) (dpa_ints ns), (okD_ints hns).1, fun H6 s6 => ?_⟩
      refine ⟨_, s6 _ _ p2, ?_, same_mut (p1.trans s6) nD, ?_⟩
      · rw [List.length_replicate]
        have := (ents_len c5).1
        have : sizeLine = 16777216 := rfl
        omega
      · rw [upd_same, List.replicate_succ']
    · rintro H4 ⟨p1, p2⟩
      refine ⟨p1 _ _ c6, ?_⟩
      have nDg : D ≠ gd2 := fun e => by rw [e, c6] at nD; cases nD
      refine ⟨D, List.replicate gvs2.length true, rfl, ?_, ?_⟩
      · refine .inl (.inl ?_)
        rw [upd_ne nDg, p2, List.map_replicate]
      · have e : (List.replicate gvs2.length true).all id = true := by
          rw [List.all_eq_true]
          intro b hb
          exact (List.mem_replicate.mp hb).2
        rw [e]
        refine q _ fun b o h => ?_
        by_cases hb : b = gd2
        · subst hb
          rw [upd_same]
          rw [b3] at h
          exact h
        · rw [upd_ne hb]
          refine p1 _ _ ?_
          rw [← hHl, upd_ne hb]
          exact s03 _ _ h
end
end Tw

/-! defs that run where no repr is under way; repr(x) of data, dicts within -/
namespace Tw
open PySem PySem.Spec PyProof.Rows L2
/-- a def's promise, kept wherever no repr is under way -/
structure FnOkG (P : Program) (w : World) (K : PySem.W.Frag) (mg : Str → Option Value) (base : Heap) (k : Nat) (f : Addr) (fd : FuncData) (ps : List Str) (sp : Sp) : Prop where
  len : ∀ vs H Q E, sp vs H Q E → vs.length = ps.length
  run : ∀ (A : Around) (outer : List Env) (s : Shared) (H : Hp) (args : Args) (us : List Value) (vs : List V) (Q : VK) (E : XK), Room k A → A.guards = some [] → Env0 P w K mg base A outer s H → BindsTo s fd args (ps.zip us) → Vals vs us → sp vs H Q E →
    codeAny (model P w) A (.call (.ref f) args) (CR CX0 outer P w H s Q E) s
section
variable {P : Program} {w : World} {K : PySem.W.Frag} {mg : Str → Option Value} {base : Heap}
theorem okG {x qual : Str} {st : Stmt} {f : Addr} {fd : FuncData} {N ps : List Str} {k : Nat} {sp : Sp} (F : Fun K x qual st f fd) (S : FnScope N ps (defScope st)) (len : ∀ vs H Q E, sp vs H Q E → vs.length = ps.length)
    (hbody : ∀ (cdv : Value) (A : Around) (outer : List Env) (s : Shared) (H : Hp) (vs : List V) (Q : VK) (E : XK), Room k (A.deeper (envOfC qual (defScope st) s.heap.objs.size f cdv)) → A.guards = some [] → sp vs H Q E →
      ∃ t, PSs (cxOf CX0 P w K mg base N qual (defScope st) f cdv A outer s H E).nox (defBody st) t ∧ t { nx := fun _ H' => Q .non H', rt := Q } (start N vs) H) : FnOkG P w K mg base (k + 1) f fd ps sp := by
  obtain ⟨oc, od, kV, doc, pm, an, cdv, ct, osl, rfl, lk, hcd⟩ := F.ex
  refine ⟨len, fun A outer s H args us vs Q E hr hg e0 hb r hsp => ?_⟩
  have hl := len _ _ _ _ hsp
  have up : ∀ b o, base.get? b = some o → s.heap.get? b = some o := fun b o e => (e0.bs b o e).1
  have KX : K.In s.heap := e0.mod.kin.keeps up
  have lim : s.heap.NoLimit := e0.mod.nolimit.keeps up
  refine codeAny_call_function hr.depth (KX _ _ lk) rfl S.co S.gen rfl (PySem.W.codeRec_of KX hcd) (hb _ _ _ _ ?_)
  refine wpAny_newFunctionEnv_cells S.kind (fun y hy => ?_) fun env he s1 hin => ?_
  · rcases S.par y.1 (List.of_mem_zip (show (y.1, y.2) ∈ _ from hy)).1 with q | q
    · exact .inl q
    · exact .inr ⟨q, PySem.W.cellsFrom_some _ _ _ (.inl q)⟩
  subst he
  refine ⟨lim.keeps hin.toInCall.keep, codeAny_func ?_⟩
  obtain ⟨t, ht, hq⟩ := hbody cdv A outer s H vs Q E (hr.deeper _) hg hsp
  have I := inv_start (CX := CX0) (E := E) S hr.hd e0 hl r hin
  refine wpAny_mono (ht.nox.run [] s1 (start N vs) H _ I hq) (fun fl s' hs => ?_) fun e s' hs => hs
  cases fl with
  | ret u =>
    obtain ⟨v, σ', H', J, rv, q⟩ := hs
    exact ⟨v, H', J.os, J.bare, J.base, J.hok, rv, q⟩
  | next =>
    obtain ⟨σ', H', J, q⟩ := hs
    exact ⟨.non, H', J.os, J.bare, J.base, J.hok, rfl, q⟩
  | brk => exact hs.elim fun _ h => h.elim fun _ h => h.2.elim
  | cont => exact hs.elim fun _ h => h.elim fun _ h => h.2.elim
end
/-- such a def of the top, by its name -/
structure CalG (P : Program) (w : World) (K : PySem.W.Frag) (mg : Str → Option Value) (base : Heap) (x : Str) (k : Nat) (ps : List Str) (sp : Sp) : Prop where
  ex : ∃ (f : Addr) (fd : FuncData), FnOkG P w K mg base k f fd ps sp ∧ mg x = some (.ref f) ∧ PySem.W.keepIn K (.ref f) = true ∧ Binds K fd ps []
section
variable {X : Cx} {x : Str} {j k : Nat} {ps : List Str} {sp : Sp} {e : Expr} {es : List Expr} {t : TA} {p pos : Pos}
theorem pe_cg (C : CalG X.prog X.w X.K X.mg X.base x k ps sp) (hr : Room j X.A) (gd : X.A.guards = some []) (hk : k ≤ j := by decide) (hg : Gl X x := by rfl) (ha : PA X (e :: es) t)
    (hdb : (x == ("__debug__" : Str)) = false := by decide) (he : starEach (e :: es) X.env = (false, eval e X.env) :: starEach es X.env := by rfl) (hpl : (backTo pos (starEach es X.env)).any (·.1) = false := by rfl) :
    PE X (.Call (.Name x p) (e :: es) [] pos) (tCall sp [] E0 t) := by
  obtain ⟨f, fd, F, hm, hkp, hb⟩ := C.ex
  refine ⟨fun pins s σ H Q I h => wpAny_Call_Name_kw (ld_glob I hg hm ?_ hdb)⟩
  refine PySem.W.callWith_K (h₀ := X.base) I.ok.mod.kin hkp (thn (ha.run pos pins s σ H _ I h) fun us s1 ⟨vs, H1, I1, r, q⟩ => ⟨I1.kIn, ?_⟩) he hpl
  have q' : sp (vs ++ []) H1 Q E0 := q
  rw [List.append_nil] at q'
  have hl : us.length = ps.length := by rw [← r.length]; exact F.len _ _ _ _ q'
  have hbd := hb s1 us I1.kIn (by rw [List.append_nil]; exact hl)
  rw [List.append_nil] at hbd
  refine wpAny_call (codeAny_mono (F.run X.A X.stack s1 H1 ⟨us, []⟩ us vs Q E0 (hr.mono hk) gd I1.env0 hbd r q') fun r s' hq => ?_)
  cases r with
  | error e => exact hq.elim
  | ok fl =>
    cases fl with
    | ret u => exact I1.after hq
    | next => exact False.elim hq
    | brk => exact False.elim hq
    | cont => exact False.elim hq
end
end Tw

/-! repr(x) of data, dicts within -/
namespace Tw
open PySem PySem.Spec PyProof.Rows L2
def kD : Key → PyData
  | .inl i => .int i
  | .inr x => .str x
mutual
inductive DR (K : PySem.W.Frag) (H : Hp) : V → PyData → Prop
  | non : DR K H .non .none
  | bl (b : Bool) : DR K H (.bl b) (.bool b)
  | int (i : Int) : DR K H (.int i) (.int i)
  | str (x : Str) : DR K H (.str x) (.str x)
  | lst {a : Addr} {xs : List V} {ds : List PyData} : SqL K H a xs → DRs K H xs ds → DR K H (.ref a) (.list ds)
  | tup {a : Addr} {xs : List V} {ds : List PyData} : SqT K H a xs → DRs K H xs ds → DR K H (.ref a) (.tuple ds)
  | dct {a : Addr} {kvs : List (Key × V)} {ds : List PyData} : Rd H a (.dK kvs) → DRs K H (kvs.map (·.2)) ds → DR K H (.ref a) (.dict ((kvs.map fun kv => kD kv.1).zip ds))
inductive DRs (K : PySem.W.Frag) (H : Hp) : List V → List PyData → Prop
  | nil : DRs K H [] []
  | cons {v : V} {vs : List V} {d : PyData} {ds : List PyData} : DR K H v d → DRs K H vs ds → DRs K H (v :: vs) (d :: ds)
end
mutual
theorem dr_mono {K : PySem.W.Frag} {H H' : Hp} (e : Same H H') : ∀ {v : V} {d : PyData}, DR K H v d → DR K H' v d
  | _, _, .non => .non
  | _, _, .bl b => .bl b
  | _, _, .int i => .int i
  | _, _, .str x => .str x
  | _, _, .lst h a => .lst (e.seq h) (drs_mono e a)
  | _, _, .tup h a => .tup (same_sqt e h) (drs_mono e a)
  | _, _, .dct h a => .dct (h.elim (fun z => .inl (e _ _ z)) fun ⟨o, z⟩ => .inr ⟨o, e _ _ z⟩) (drs_mono e a)
theorem drs_mono {K : PySem.W.Frag} {H H' : Hp} (e : Same H H') : ∀ {vs : List V} {ds : List PyData}, DRs K H vs ds → DRs K H' vs ds
  | _, _, .nil => .nil
  | _, _, .cons h a => .cons (dr_mono e h) (drs_mono e a)
end
theorem drs_len {K : PySem.W.Frag} {H : Hp} : ∀ {vs : List V} {ds : List PyData}, DRs K H vs ds → vs.length = ds.length
  | _, _, .nil => rfl
  | _, _, .cons _ a => congrArg Nat.succ (drs_len a)
mutual
theorem dp_dr {K : PySem.W.Frag} {H : Hp} : ∀ {v : V} {d : PyData}, Dp K H v d → DR K H v d
  | _, _, .non => .non
  | _, _, .bl b => .bl b
  | _, _, .int i => .int i
  | _, _, .str x => .str x
  | _, _, .lst h a => .lst h (dpa_drs a)
  | _, _, .tup h a => .tup h (dpa_drs a)
theorem dpa_drs {K : PySem.W.Frag} {H : Hp} : ∀ {vs : List V} {ds : List PyData}, DpAll K H vs ds → DRs K H vs ds
  | _, _, .nil => .nil
  | _, _, .cons h a => .cons (dp_dr h) (dpa_drs a)
end
/-- the heap behind the top has the dict of the modules -/
def SysB (base : Heap) : Prop := ∃ mm, base.Ns sysModules mm
theorem pairs_reads {P : Program} {w : World} {h : Heap} : ∀ {es : List DictEntry} {vs : List (Key × Value)} {kvs : List (Key × V)}, Pairs (mixKind P w) es vs → KV kvs vs →
    (∃ as, ReadsAll h (es.map (·.key)) (kvs.map fun kv => kD kv.1) as ∧ sysModules ∉ as) ∧ Vals (kvs.map (·.2)) (es.map (·.val))
  | _, _, _, .nil, .nil => ⟨⟨[], .nil, by simp⟩, .nil⟩
  | e :: es, kv :: vs, k' :: kvs, .cons h1 h2 r, .cons h3 h4 => by
    obtain ⟨⟨as, h5, h6⟩, h7⟩ := pairs_reads r h4
    obtain ⟨h31, h32⟩ := h3
    refine ⟨⟨[] ++ as, .cons ?_ h5, h6⟩, .cons (by show L2.RelV k'.2 e.val; rw [h2]; exact h32) h7⟩
    show Reads h e.key (kD k'.1) []
    rw [h31]
    rcases keyIs_shape h1 with ⟨i, t, ek, ev⟩ | ⟨x, t, ek, ev⟩
    · rw [ek, ev]
      exact .int i t
    · rw [ek, ev]
      exact .str x t
section
variable {X : Cx} {pins : List (Addr × Obj)} {σ : L2.St} {H : Hp} {s : Shared}
mutual
theorem DR.reads (I : Inv X pins σ H s) (hb : SysB X.base) : ∀ {v : V} {d : PyData} {u : Value}, DR X.K H v d → RelV v u → ∃ as, Reads s.heap u d as ∧ sysModules ∉ as
  | _, _, _, .non, r => by
    cases r
    exact ⟨_, Reads.none, by simp⟩
  | _, _, _, .bl b, r => by
    cases r
    exact ⟨_, Reads.bool b, by simp⟩
  | _, _, _, .int i, r => by
    obtain ⟨t, rfl⟩ := r
    exact ⟨_, Reads.int i t, by simp⟩
  | _, _, _, .str x, r => by
    obtain ⟨t, rfl⟩ := r
    exact ⟨_, Reads.str x t, by simp⟩
  | _, _, _, .lst (a := a) hs ha, r => by
    cases r
    obtain ⟨its, rv, ⟨o, n, ho, hc, _, hd⟩, _⟩ := I.list hs
    obtain ⟨as, hr, hn⟩ := DRs.reads I hb ha rv
    refine ⟨_, Reads.list ho hc hd hr, ?_⟩
    intro hm
    rcases List.mem_cons.mp hm with e | hm
    · obtain ⟨mm, o', es, ep, e1, e2, _⟩ := hb
      have := I.bk _ _ e1
      rw [e, ho] at this
      cases this
      rw [hd] at e2
      cases e2
    · exact hn hm
  | _, _, _, .tup hs ha, r => by
    cases r
    obtain ⟨its, rv, ⟨o, ho, hc, n, hd⟩, _⟩ := I.tuple hs
    obtain ⟨as, hr, hn⟩ := DRs.reads I hb ha rv
    exact ⟨_, Reads.tuple ho hc hd hr, hn⟩
  | _, _, _, .dct (kvs := kvs) (ds := ds) hs ha, r => by
    cases r
    obtain ⟨hz, hsm, vs, kv, o, es, ep, h1, hx, hdt, _, hp, _⟩ := dk_rd I.hok hs
    obtain ⟨⟨as, hk, hn1⟩, hv⟩ := pairs_reads (h := s.heap) hp kv
    obtain ⟨bs, hr, hn2⟩ := DRs.reads I hb ha hv
    have hl : (kvs.map fun kv => kD kv.1).length = ds.length := by
      have := drs_len ha
      rw [List.length_map] at this ⊢
      exact this
    refine ⟨_, Reads.dict (as := as) (bs := bs) h1 hx.1 hdt ?_ ?_, ?_⟩
    · rw [List.map_fst_zip (Nat.le_of_eq hl)]
      exact hk
    · rw [List.map_snd_zip (Nat.le_of_eq hl.symm)]
      exact hr
    · intro hm
      rcases List.mem_append.mp hm with hm | hm
      · rcases List.mem_cons.mp hm with e | hm
        · rw [← e] at hsm
          exact absurd hsm (by decide)
        · exact hn1 hm
      · exact hn2 hm
theorem DRs.reads (I : Inv X pins σ H s) (hb : SysB X.base) : ∀ {vs : List V} {ds : List PyData} {us : List Value}, DRs X.K H vs ds → Vals vs us → ∃ as, ReadsAll s.heap us ds as ∧ sysModules ∉ as
  | _, _, _, .nil, r => by
    cases r
    exact ⟨_, ReadsAll.nil, by simp⟩
  | _, _, _, .cons h1 h2, r => by
    cases r with
    | cons r1 r2 =>
      obtain ⟨as, q1, n1⟩ := DR.reads I hb h1 r1
      obtain ⟨bs, q2, n2⟩ := DRs.reads I hb h2 r2
      refine ⟨_, ReadsAll.cons q1 q2, fun hm => ?_⟩
      rcases List.mem_append.mp hm with hm | hm
      · exact n1 hm
      · exact n2 hm
end
end
def rRepr (K : PySem.W.Frag) : List V → Hp → VK → Prop := fun xs H Q => ∃ (a : Addr) (d : PyData), xs = [.ref a] ∧ DR K H (.ref a) d ∧ d.showable = true ∧ d.depth ≤ 60 ∧ d.shown.length ≤ sizeLine ∧ Q (.str d.shown) H
theorem call_repr' {X : Cx} (K : PySem.W.Frag) (hg : X.A.guards = some []) (hb : SysB X.base) (hu : X.A.units + 64 < cLine) (h : X.K = K := by rfl) : CallR X (.builtin "repr") (rRepr K) := by
  subst h
  intro pins s σ H xs us Q I r q
  obtain ⟨a, d, rfl, hd, hs, hdp, hz, q⟩ := q
  obtain rfl := Vals.ref1 r
  obtain ⟨as, hr, hn⟩ := DR.reads I hb hd (show RelV (.ref a) (.ref a) from rfl)
  exact repr_of_reads' hr hs (fun _ => hn) hg (by omega) (fun _ _ e => e) (fun h' u tk hk => ⟨.str d.shown, H, I.kept (t' := tk) hk, ⟨u, rfl⟩, q⟩) hz
end Tw

/-! the end, for a law whose def is kept where no repr is under way -/
namespace Tw
open PySem PySem.Spec PyProof.Rows L2
/-- the script alone is tracked, if the module does not hold it -/
def scriptH (K : PySem.W.Frag) (a : Addr) (vs : List Value) (ns : List Int) : Hp := fun b =>
  if b = a ∧ K.lookup a = none then some (.frz { cls := .type "list", data := .seq vs.toArray } (.lst (ns.map V.int))) else none
section
variable {P : Program} {w : World} {K : PySem.W.Frag} {mg mb : Str → Option Value} {a : Addr} {s₁ : Shared} {vs : List Value} {ns : List Int}
theorem scriptH_some {b : Addr} {u : HO} (h : scriptH K a vs ns b = some u) : b = a ∧ K.lookup a = none ∧ u = .frz { cls := .type "list", data := .seq vs.toArray } (.lst (ns.map V.int)) := by
  unfold scriptH at h
  by_cases c : b = a ∧ K.lookup a = none
  · rw [if_pos c] at h
    exact ⟨c.1, c.2, (Option.some.inj h).symm⟩
  · rw [if_neg c] at h
    cases h
theorem scriptH_only : Only (scriptH K a vs ns) := fun b => by
  cases e : scriptH K a vs ns b with
  | none => exact .inl rfl
  | some u =>
    obtain ⟨_, _, rfl⟩ := scriptH_some e
    exact .inr ⟨_, _, rfl⟩
theorem script_sq (KX : K.In s₁.heap) (ha : s₁.heap.get? a = some { cls := .type "list", data := .seq vs.toArray }) (hi : IntsAre vs ns) (hl : ns.length ≤ sizeLine) : SqL K (scriptH K a vs ns) a (ns.map V.int) := by
  cases hk : K.lookup a with
  | none => exact .inl (.inr ⟨_, if_pos ⟨rfl, hk⟩⟩)
  | some o =>
    have e := KX a o hk
    rw [ha] at e
    cases e
    exact .inr ⟨_, vs.toArray, _, hk, rfl, rfl, rfl, by rw [List.size_toArray, hi.length]; exact hl, by simpa using vals_ints hi⟩
theorem script_ok (ha : s₁.heap.get? a = some { cls := .type "list", data := .seq vs.toArray }) (hi : IntsAre vs ns) (hl : ns.length ≤ sizeLine) : HOk P w (scriptH K a vs ns) s₁.heap := fun b u z => by
  obtain ⟨rfl, _, rfl⟩ := scriptH_some z
  exact ⟨ha, by rw [List.length_map]; exact hl, vs, _, vals_ints hi, ha⟩
theorem lawG {k : Nat} {fa : Addr} {fd : FuncData} {x : Str} {sp : Sp} (KX : K.In s₁.heap) (hns : s₁.heap.Ns mainGlobals mg) (hb : s₁.heap.Ns builtinsNs mb) (hbb : ∀ x : Str, x ≠ "__name__" → mb x = bootBuiltins x) (hlim : s₁.heap.NoLimit) (hsy : SysB s₁.heap) (hg : s₁.gens = #[])
    (ha : s₁.heap.get? a = some { cls := .type "list", data := .seq vs.toArray }) (hi : IntsAre vs ns) (hl : ns.length ≤ sizeLine) (hr : Room k callerA)
    (F : ∀ base : Heap, K.In base → base.Ns mainGlobals mg → SysB base → FnOkG P w K mg base k fa fd [x] sp) (hbind : ∀ (s : Shared) (u : Value), BindsTo s fd ⟨[u], []⟩ [(x, u)])
    (hsp : ∀ H : Hp, Only H → SqL K H a (ns.map V.int) → sp [.ref a] H (fun v _ => v = .bl true) fun _ _ _ => False) :
    codeAny (model P w) callerA (.call (.ref fa) ⟨[.ref a], []⟩) (fun r s' => r = .ok (.ret (.bool true)) ∧ OldK s₁.heap s'.heap ∧ s'.os = s₁.os ∧ AllBare s'.gens) s₁ := by
  have up : ∀ {b : Addr} {o : Obj}, s₁.heap.get? b = some o → (scriptH K a vs ns) b = none → (hidT s₁.heap (scriptH K a vs ns)).get? b = some o := fun e n => hidT_get e n
  have nsK : ∀ {b : Addr} {m : Str → Option Value}, s₁.heap.Ns b m → (hidT s₁.heap (scriptH K a vs ns)).Ns b m := fun {b m} ⟨o, es, ep, e, d, r⟩ => by
    refine ⟨o, es, ep, up e ?_, d, r⟩
    cases q : scriptH K a vs ns b with
    | none => rfl
    | some u =>
      obtain ⟨rfl, _, _⟩ := scriptH_some q
      rw [ha] at e
      cases e
      cases d
  have kin : K.In (hidT s₁.heap (scriptH K a vs ns)) := fun b o e => up (KX b o e) (by
    cases q : scriptH K a vs ns b with
    | none => rfl
    | some u =>
      obtain ⟨rfl, hk, _⟩ := scriptH_some q
      rw [hk] at e
      cases e)
  have e0 : Env0 P w K mg (hidT s₁.heap (scriptH K a vs ns)) callerA [] s₁ (scriptH K a vs ns) :=
    ⟨rfl, ⟨kin, nsK hns, ⟨mb, nsK hb, hbb⟩, let ⟨mc, h1, h2⟩ := hlim; ⟨mc, nsK h1, h2⟩⟩, fun b o e => of_hidT e, Nat.le_of_eq (hidT_size _ _), trivial, fun b hm => absurd (show b ∈ ([] : List Addr) from hm) (by simp), script_ok ha hi hl, .of_eq hg⟩
  have sys : SysB (hidT s₁.heap (scriptH K a vs ns)) := let ⟨mm, h⟩ := hsy; ⟨mm, nsK h⟩
  refine codeAny_mono ((F _ kin (nsK hns) sys).run callerA [] s₁ (scriptH K a vs ns) ⟨[.ref a], []⟩ [.ref a] [.ref a] _ _ hr rfl e0 (hbind s₁ (.ref a)) (.cons rfl .nil) (hsp _ scriptH_only (script_sq KX ha hi hl))) fun r s' h => ?_
  cases r with
  | error e => exact h.elim
  | ok fl =>
    cases fl with
    | next => exact False.elim h
    | brk => exact False.elim h
    | cont => exact False.elim h
    | ret u =>
      obtain ⟨v, H', os, bare, un, hok', r', q⟩ := h
      obtain rfl : v = .bl true := q
      obtain rfl : u = Value.bool true := r'
      refine ⟨rfl, OldK.of_keep fun b o e => ?_, os, bare⟩
      cases q : scriptH K a vs ns b with
      | none => exact un.keep b o e q (by intro z; exact absurd (show b ∈ ([] : List Addr) from z) (by simp)) (by simp)
      | some u =>
        obtain ⟨rfl, _, rfl⟩ := scriptH_some q
        obtain ⟨e2, _⟩ := hok' _ _ (un.frzs _ _ _ q)
        rw [ha] at e
        cases e
        exact e2
end
theorem walk_ofG {l : PySem.W.OpenLaw} {n k : Nat} {q : Program} {loose : List Str} {XP : (Str → Option Value) → Heap → Prop} {YP : World → Heap → Prop} {d : DefRec} {K : Params → PySem.W.Frag} {sp : World → Sp} {x : Str}
    (hn : l.most = some n) (hn2 : n ≤ sizeLine) (hdf : d.params.defaults = []) (hr : Room k callerA) (him : importsNone q = true)
    (hY : ∀ (w : World) (h : Heap), YP w h → (K w.params).In h)
    (F : ∀ (w : World) (mg : Str → Option Value) (fa : Addr) (h : Heap), (K w.params).In h → h.Ns mainGlobals mg → mg d.name = some (.ref fa) →
      ∃ fd : FuncData, (∀ (s : Shared) (u : Value), BindsTo s fd ⟨[u], []⟩ [(x, u)]) ∧
        ∀ base : Heap, (K w.params).In base → base.Ns mainGlobals mg → SysB base → FnOkG l.prog w (K w.params) mg base k fa fd [x] (sp w))
    (hsp : ∀ (w : World) (H : Hp) (a : Addr) (ns : List Int), ns.length ≤ n → Only H → SqL (K w.params) H a (ns.map V.int) → sp w [.ref a] H (fun v _ => v = .bl true) fun _ _ _ => False) :
    PySem.W.WalkO q loose XP YP l.row.toRowW d [] (fun f vs => PySem.call f vs) := by
  refine Att.attach_call hn hdf fun w s₀ s₁ mg mb fa o pm cd doc a vs ns G Y ho hd hcd hmg hobj hints hlen hg => ?_
  have KX := hY w _ Y
  obtain ⟨fd, hb, hF⟩ := F w mg fa _ KX G.T.g hmg
  obtain ⟨mm, hm, _⟩ := (G.T.seer him).mods
  exact lawG KX G.T.g G.T.b G.T.builtins G.T.nolimit ⟨mm, hm⟩ hg hobj hints (Nat.le_trans hlen hn2) hr hF hb fun H hO hS => hsp w H a ns hlen hO hS
end Tw

/-! how long what repr tells can be -/
namespace Tw
open PySem PySem.Spec PyProof.Rows L2
structure Fit (n m : Nat) (d : PyData) : Prop where
  sh : d.showable = true
  lv : d.leavesShort 13 = true
  wt : d.weight ≤ n
  dp : d.depth ≤ m
theorem Fit.shown {n m : Nat} {d : PyData} (h : Fit n m d) (hn : n ≤ 1000000) : d.shown.length ≤ sizeLine := by
  have := PyData.shown_le 13 (by decide) d h.lv
  have h2 := h.wt
  have : sizeLine = 16777216 := rfl
  have h3 : (13 + 2) * d.weight ≤ 15 * 1000000 := Nat.mul_le_mul_left 15 (Nat.le_trans h2 hn)
  omega
theorem Fit.mono {n m n' m' : Nat} {d : PyData} (h : Fit n m d) (hn : n ≤ n') (hm : m ≤ m') : Fit n' m' d := ⟨h.sh, h.lv, Nat.le_trans h.wt hn, Nat.le_trans h.dp hm⟩
theorem fit_int {i : Int} (h1 : -999999999999 ≤ i) (h2 : i ≤ 999999999999) : Fit 41 1 (.int i) := by
  have hl : i.natAbs.log2 < 40 := by
    by_cases h0 : i.natAbs = 0
    · rw [h0]
      decide
    · rw [Nat.log2_lt h0]
      have : (2 : Nat) ^ 40 = 1099511627776 := by decide
      omega
  refine ⟨?_, ?_, ?_, ?_⟩
  · show decide (i.natAbs.log2 < 1920) = true
    exact decide_eq_true (by omega)
  · show decide ((PyData.shown (.int i)).length ≤ 13) = true
    exact decide_eq_true (PyData.shown_int_le2 h1 h2)
  · show (if i == 0 then 0 else i.natAbs.log2 + 1) ≤ 41
    split <;> omega
  · simp [PyData.depth]
theorem fit_str {x : Str} {n : Nat} (h : ∀ c ∈ x.cps.toList, c < 16 ^ 8) (hn : x.length ≤ n) : Fit n 1 (.str x) := by
  refine ⟨rfl, ?_, hn, ?_⟩
  · show (x.cps.toList.all fun c => decide (c < 16 ^ 8)) = true
    rw [List.all_eq_true]
    intro c hc
    exact decide_eq_true (h c hc)
  · simp [PyData.depth]
theorem fit_nm {x : Str} (h : IsNm x) : Fit 8 1 (.str x) := fit_str (fun c hc => by
  have := (h.2.2 c hc).2
  have : (16 : Nat) ^ 8 = 4294967296 := by decide
  omega) h.2.1
theorem fit_all {n m : Nat} : ∀ {ds : List PyData}, (∀ d ∈ ds, Fit n m d) → PyData.showableAll ds = true ∧ PyData.leavesShortAll 13 ds = true ∧ PyData.weightAll ds ≤ (n + 1) * ds.length ∧ PyData.depthAll ds ≤ m
  | [], _ => ⟨rfl, rfl, Nat.le_refl _, by simp [PyData.depthAll]⟩
  | d :: r, h => by
    obtain ⟨h1, h2, h3, h4⟩ := fit_all (ds := r) fun x hx => h x (List.mem_cons_of_mem _ hx)
    have hd := h d List.mem_cons_self
    refine ⟨?_, ?_, ?_, ?_⟩
    · show (d.showable && PyData.showableAll r) = true
      rw [hd.sh, h1]
      rfl
    · show (d.leavesShort 13 && PyData.leavesShortAll 13 r) = true
      rw [hd.lv, h2]
      rfl
    · show d.weight + 1 + PyData.weightAll r ≤ _
      have := hd.wt
      rw [List.length_cons, Nat.mul_add, Nat.mul_one]
      omega
    · have := hd.dp
      simp only [PyData.depthAll]
      omega
theorem fit_list {n m N : Nat} {ds : List PyData} (h : ∀ d ∈ ds, Fit n m d) (hN : (n + 1) * ds.length ≤ N) : Fit N (m + 1) (.list ds) := by
  obtain ⟨h1, h2, h3, h4⟩ := fit_all h
  refine ⟨h1, h2, Nat.le_trans h3 hN, ?_⟩
  simp only [PyData.depth]
  omega
theorem fit_tuple {n m N : Nat} {ds : List PyData} (h : ∀ d ∈ ds, Fit n m d) (hN : (n + 1) * ds.length ≤ N) : Fit N (m + 1) (.tuple ds) := by
  obtain ⟨h1, h2, h3, h4⟩ := fit_all h
  refine ⟨h1, h2, Nat.le_trans h3 hN, ?_⟩
  simp only [PyData.depth]
  omega
theorem fit_kv {n m : Nat} : ∀ {ps : List (PyData × PyData)}, (∀ p ∈ ps, Fit n m p.1 ∧ Fit n m p.2) → PyData.showableKv ps = true ∧ PyData.leavesShortKv 13 ps = true ∧ PyData.weightKv ps ≤ (2 * n + 2) * ps.length ∧ PyData.depthKv ps ≤ m
  | [], _ => ⟨rfl, rfl, Nat.le_refl _, by simp [PyData.depthKv]⟩
  | (a, b) :: r, h => by
    obtain ⟨h1, h2, h3, h4⟩ := fit_kv (ps := r) fun x hx => h x (List.mem_cons_of_mem _ hx)
    obtain ⟨ha, hb⟩ := h (a, b) List.mem_cons_self
    dsimp only at ha hb
    refine ⟨?_, ?_, ?_, ?_⟩
    · show (a.showable && b.showable && PyData.showableKv r) = true
      rw [ha.sh, hb.sh, h1]
      rfl
    · show (a.leavesShort 13 && b.leavesShort 13 && PyData.leavesShortKv 13 r) = true
      rw [ha.lv, hb.lv, h2]
      rfl
    · show a.weight + b.weight + 2 + PyData.weightKv r ≤ _
      have := ha.wt
      have := hb.wt
      rw [List.length_cons, Nat.mul_add, Nat.mul_one]
      omega
    · have := ha.dp
      have := hb.dp
      simp only [PyData.depthKv]
      omega
theorem fit_dict {n m N : Nat} {ps : List (PyData × PyData)} (h : ∀ p ∈ ps, Fit n m p.1 ∧ Fit n m p.2) (hN : (2 * n + 2) * ps.length ≤ N) : Fit N (m + 1) (.dict ps) := by
  obtain ⟨h1, h2, h3, h4⟩ := fit_kv h
  refine ⟨h1, h2, Nat.le_trans h3 hN, ?_⟩
  simp only [PyData.depth]
  omega
end Tw

/-! only the first numbers of a tray matter; what is given into; which acts take -/
namespace Tw
open PySem PySem.Spec PyProof.Rows L2
def ExtE (es ms : List (Str × List Int)) : Prop := ∀ t ns, lk es t = some ns → ∃ xs, lk ms t = some (ns ++ xs)
theorem extE_st {es ms : List (Str × List Int)} (h : ExtE es ms) {t : Str} {x : Int} {r xs : List Int} (h1 : lk es t = some (x :: r)) (h2 : lk ms t = some (x :: r ++ xs)) : ExtE (stE es t r) (stE ms t (r ++ xs)) := fun u ns hu => by
  rw [lk_stE] at hu ⊢
  by_cases e : u = t
  · subst e
    rw [if_pos rfl] at hu ⊢
    rw [h1] at hu
    rw [h2]
    cases hu
    exact ⟨xs, rfl⟩
  · rw [if_neg e] at hu ⊢
    exact h u ns hu
theorem step_ext {s s' : DS} {a : Act} {m : List (Str × List Int)} (hs : step s a = some s') (h : ExtE s.taken m) : ∃ m', step { s with taken := m } a = some { s' with taken := m' } ∧ ExtE s'.taken m' := by
  obtain ⟨p, k, tk, g⟩ := s
  cases a with
  | take t =>
    unfold step at hs ⊢
    dsimp only at hs h ⊢
    split at hs
    · rename_i x r hl
      cases hs
      obtain ⟨xs, hx⟩ := h t _ hl
      rw [hx]
      exact ⟨stE m t (r ++ xs), rfl, extE_st h hl hx⟩
    · cases hs
  | num n =>
    cases hs
    exact ⟨m, rfl, h⟩
  | kept j =>
    unfold step at hs ⊢
    dsimp only at hs h ⊢
    split at hs
    · rename_i x hl
      cases hs
      exact ⟨m, rfl, h⟩
    · cases hs
  | give t =>
    unfold step at hs ⊢
    dsimp only at hs h ⊢
    cases p with
    | nil => cases hs
    | cons x r =>
      cases hs
      exact ⟨m, rfl, h⟩
  | keep j =>
    unfold step at hs ⊢
    dsimp only at hs h ⊢
    cases p with
    | nil => cases hs
    | cons x r =>
      dsimp only at hs ⊢
      split at hs
      · rename_i hj
        cases hs
        rw [if_pos hj]
        exact ⟨m, rfl, h⟩
      · cases hs
  | wrd w =>
    unfold step at hs ⊢
    dsimp only at hs h ⊢
    split at hs
    · rename_i q hq
      cases hs
      exact ⟨m, rfl, h⟩
    · cases hs
theorem runA_ext : ∀ {as : List Act} {s s' : DS} {m : List (Str × List Int)}, runA s as = some s' → ExtE s.taken m → ∃ m', runA { s with taken := m } as = some { s' with taken := m' }
  | [], s, s', m, hs, h => by
    cases hs
    exact ⟨m, rfl⟩
  | a :: r, s, s', m, hs, h => by
    have hs' : (match step s a with | some s' => runA s' r | none => none) = some s' := hs
    cases e : step s a with
    | none =>
      rw [e] at hs'
      cases hs'
    | some s1 =>
      rw [e] at hs'
      obtain ⟨m1, e1, h1⟩ := step_ext e h
      obtain ⟨m2, e2⟩ := runA_ext hs' h1
      refine ⟨m2, ?_⟩
      show (match step { s with taken := m } a with | some s' => runA s' r | none => none) = _
      rw [e1]
      exact e2
/-- what is given into: each once, by some act -/
theorem stE_from {es : List (Str × List Int)} {t : Str} {ns : List Int} {e : Str × List Int} (h : e ∈ stE es t ns) : ∃ e' ∈ es, e'.1 = e.1 := by
  unfold stE at h
  obtain ⟨e0, h0, rfl⟩ := List.mem_map.mp h
  refine ⟨e0, h0, ?_⟩
  split <;> rfl
theorem pushE_from {es : List (Str × List Int)} {t : Str} {x : Int} {e : Str × List Int} (h : e ∈ pushE es t x) : e.1 = t ∨ ∃ e' ∈ es, e'.1 = e.1 := by
  unfold pushE at h
  split at h
  · exact .inr (stE_from h)
  · rcases List.mem_append.mp h with h | h
    · exact .inr ⟨e, h, rfl⟩
    · rw [List.mem_singleton.mp h]
      exact .inl rfl
theorem step_given {s s' : DS} {a : Act} (hs : step s a = some s') : (s'.given = s.given) ∨ ∃ t x, a = .give t ∧ s'.given = pushE s.given t x := by
  obtain ⟨p, k, tk, g⟩ := s
  cases a with
  | take t =>
    unfold step at hs
    dsimp only at hs
    split at hs
    · cases hs
      exact .inl rfl
    · cases hs
  | num n =>
    cases hs
    exact .inl rfl
  | kept j =>
    unfold step at hs
    dsimp only at hs
    split at hs
    · cases hs
      exact .inl rfl
    · cases hs
  | give t =>
    unfold step at hs
    dsimp only at hs
    cases p with
    | nil => cases hs
    | cons x r =>
      cases hs
      exact .inr ⟨t, x, rfl, rfl⟩
  | keep j =>
    unfold step at hs
    dsimp only at hs
    cases p with
    | nil => cases hs
    | cons x r =>
      dsimp only at hs
      split at hs
      · cases hs
        exact .inl rfl
      · cases hs
  | wrd w =>
    unfold step at hs
    dsimp only at hs
    split at hs
    · cases hs
      exact .inl rfl
    · cases hs
theorem run_given {M : Str → Prop} : ∀ {as : List Act} {s s' : DS}, runA s as = some s' → (∀ t, Act.give t ∈ as → M t) → (∀ e ∈ s.given, M e.1) → (s.given.map (·.1)).Nodup → (∀ e ∈ s'.given, M e.1) ∧ (s'.given.map (·.1)).Nodup
  | [], s, s', hs, _, h1, h2 => by
    cases hs
    exact ⟨h1, h2⟩
  | a :: r, s, s', hs, hm, h1, h2 => by
    have hs' : (match step s a with | some s' => runA s' r | none => none) = some s' := hs
    cases e : step s a with
    | none =>
      rw [e] at hs'
      cases hs'
    | some s1 =>
      rw [e] at hs'
      refine run_given hs' (fun t ht => hm t (List.mem_cons_of_mem _ ht)) ?_ ?_
      · intro x hx
        rcases step_given e with e1 | ⟨t, y, rfl, e1⟩
        · rw [e1] at hx
          exact h1 x hx
        · rw [e1] at hx
          rcases pushE_from hx with e2 | ⟨e', he', e2⟩
          · rw [e2]
            exact hm t List.mem_cons_self
          · rw [← e2]
            exact h1 e' he'
      · rcases step_given e with e1 | ⟨t, y, rfl, e1⟩
        · rw [e1]
          exact h2
        · rw [e1]
          exact pushE_nd h2
theorem takesN_pos {z : Str} : ∀ {as : List Act}, Act.take z ∈ as → 0 < takesN z as
  | a :: r, h => by
    rcases List.mem_cons.mp h with rfl | h
    · show 0 < (if z = z then 1 else 0) + takesN z r
      rw [if_pos rfl]
      omega
    · have := takesN_pos h
      cases a <;> simp only [takesN] <;> omega
theorem givesN_pos {z : Str} : ∀ {as : List Act}, Act.give z ∈ as → 0 < givesN z as
  | a :: r, h => by
    rcases List.mem_cons.mp h with rfl | h
    · show 0 < (if z = z then 1 else 0) + givesN z r
      rw [if_pos rfl]
      omega
    · have := givesN_pos h
      cases a <;> simp only [givesN] <;> omega
theorem CodeOf.takeIn {K : PySem.W.Frag} {H : Hp} {p : Addr} {takes gives : List Str} {places : Nat} {xs : List V} {acts : List Act} (h : CodeOf K H p takes gives places xs acts) {z : Str} (hz : Act.take z ∈ acts) : z ∈ takes := by
  have h1 := takesN_pos hz
  rw [h.ct z] at h1
  exact List.count_pos_iff.mp h1
theorem CodeOf.giveIn {K : PySem.W.Frag} {H : Hp} {p : Addr} {takes gives : List Str} {places : Nat} {xs : List V} {acts : List Act} (h : CodeOf K H p takes gives places xs acts) {z : Str} (hz : Act.give z ∈ acts) : z ∈ gives := by
  have h1 := givesN_pos hz
  rw [h.cg z] at h1
  exact List.count_pos_iff.mp h1
/-- act == ("take", tray) -/
def isTake (tr : Str) : Act → Bool
  | .take u => decide (u = tr)
  | _ => false
def actD : Act → PyData
  | .take t => .tuple [.str "take", .str t] | .give t => .tuple [.str "give", .str t] | .num n => .tuple [.str "number", .int n] | .keep k => .tuple [.str "keep", .int (k : Int)] | .kept k => .tuple [.str "kept", .int (k : Int)] | .wrd w => .tuple [.str w]
def nmAct : Act → Prop
  | .take t => IsNm t | .give t => IsNm t | _ => True
theorem act_dpa {K : PySem.W.Frag} {H : Hp} {q : Addr} {a : Act} (h : H q = some (.tup (actV a))) : Dp K H (.ref q) (actD a) := by
  cases a with
  | take t => exact .tup (SqT.of h) (.cons (.str _) (.cons (.str _) .nil))
  | give t => exact .tup (SqT.of h) (.cons (.str _) (.cons (.str _) .nil))
  | num t => exact .tup (SqT.of h) (.cons (.str _) (.cons (.int _) .nil))
  | keep t => exact .tup (SqT.of h) (.cons (.str _) (.cons (.int _) .nil))
  | kept t => exact .tup (SqT.of h) (.cons (.str _) (.cons (.int _) .nil))
  | wrd t => exact .tup (SqT.of h) (.cons (.str _) .nil)
theorem eqv_take (a : Act) (tr : Str) : PyData.eqv (actD a) (.tuple [.str "take", .str tr]) = isTake tr a := by
  cases a with
  | take t =>
    show (("take" : Str) == "take" && ((t == tr) && true)) = decide (t = tr)
    rw [show (("take" : Str) == "take") = true from by decide, Bool.true_and, Bool.and_true]
    rfl
  | give t =>
    show (("give" : Str) == "take" && PyData.eqvAll [.str t] [.str tr]) = false
    rw [show (("give" : Str) == "take") = false from by decide, Bool.false_and]
  | num t =>
    show (("number" : Str) == "take" && PyData.eqvAll [.int t] [.str tr]) = false
    rw [show (("number" : Str) == "take") = false from by decide, Bool.false_and]
  | keep t =>
    show (("keep" : Str) == "take" && PyData.eqvAll [.int (t : Int)] [.str tr]) = false
    rw [show (("keep" : Str) == "take") = false from by decide, Bool.false_and]
  | kept t =>
    show (("kept" : Str) == "take" && PyData.eqvAll [.int (t : Int)] [.str tr]) = false
    rw [show (("kept" : Str) == "take") = false from by decide, Bool.false_and]
  | wrd t =>
    show ((t == "take") && false) = false
    rw [Bool.and_false]
theorem shaped2 {x : Str} {d : PyData} (hx : PyData.strOk x = true) (hd : PyData.canLay0 d = true) (hp : d.depth ≤ 10) : SeqAt.shaped (.tuple [.str x, d]) = true := by
  unfold SeqAt.shaped
  rw [Bool.and_eq_true_iff]
  refine ⟨?_, decide_eq_true ?_⟩
  · show (PyData.strOk x && (PyData.canLay0 d && true)) = true
    rw [hx, hd]
    rfl
  · simp only [PyData.depth, PyData.depthAll]
    omega
theorem shaped_act {a : Act} (h1 : actOk a) (h2 : nmAct a) : SeqAt.shaped (actD a) = true := by
  cases a with
  | take t => exact shaped2 (by decide +kernel) (isnm_ok h2) (by simp [PyData.depth])
  | give t => exact shaped2 (by decide +kernel) (isnm_ok h2) (by simp [PyData.depth])
  | num t => exact shaped2 (by decide +kernel) rfl (by simp [PyData.depth])
  | keep t => exact shaped2 (by decide +kernel) rfl (by simp [PyData.depth])
  | kept t => exact shaped2 (by decide +kernel) rfl (by simp [PyData.depth])
  | wrd w =>
    have hm : w ∈ words8 := h1
    simp only [words8, List.mem_cons, List.not_mem_nil, or_false] at hm
    rcases hm with rfl | rfl | rfl | rfl | rfl | rfl | rfl | rfl <;> decide +kernel
section
variable {X : Cx}
def rEqAct : R2 := fun x y H Q => ∃ (q p : Addr) (act : Act) (tr : Str), x = .ref q ∧ y = .ref p ∧ H q = some (.tup (actV act)) ∧ H p = some (.tup [.str "take", .str tr]) ∧ actOk act ∧ nmAct act ∧ IsNm tr ∧ Q (.bl (isTake tr act)) H
theorem op_eqAct (hu : X.A.units + 64 < cLine) : OpR X (compareOp .Eq) rEqAct := fun pins s σ H x y v u Q I rx ry h => by
  obtain ⟨q, p, act, tr, rfl, rfl, hq, hp, h1, h2, h3, k⟩ := h
  refine op_eqD hu pins s σ H _ _ v u Q I rx ry ⟨actD act, .tuple [.str "take", .str tr], act_dpa hq, .tup (SqT.of hp) (.cons (.str _) (.cons (.str _) .nil)), shaped_act h1 h2, shaped2 (by decide +kernel) (isnm_ok h3) (by simp [PyData.depth]), ?_⟩
  rw [eqv_take]
  exact k
end
theorem takes_filter (tr : Str) : ∀ as : List Act, (as.filter (isTake tr)).length = takesN tr as
  | [] => rfl
  | a :: r => by
    have ih := takes_filter tr r
    cases a with
    | take u =>
      by_cases e : u = tr
      · rw [List.filter_cons_of_pos (by exact decide_eq_true e)]
        show _ + 1 = (if u = tr then 1 else 0) + takesN tr r
        rw [if_pos e, ih]
        omega
      · rw [List.filter_cons_of_neg (by show ¬ decide (u = tr) = true; rw [decide_eq_false e]; decide)]
        show _ = (if u = tr then 1 else 0) + takesN tr r
        rw [if_neg e, ih]
        omega
    | _ => exact ih
theorem plOk_mono {n m : Nat} {a : Act} (h : plOk n a) (l : n ≤ m) : plOk m a := by
  cases a with
  | keep k => exact Nat.lt_of_lt_of_le h l
  | kept k => exact Nat.lt_of_lt_of_le h l
  | _ => trivial
end Tw

/-! helpers: tuples stand; a call by keywords alone; dicts of tuples; drawn numbers -/
namespace Tw
open PySem PySem.Spec PyProof.Rows L2
/-- all tuples stand -/
def KpU (H H' : Hp) : Prop := ∀ b o, ((∃ xs, o = HO.tup xs) ∨ ∃ ob u, o = HO.frz ob u) → H b = some o → H' b = some o
theorem KpU.trans {H H1 H2 : Hp} (a : KpU H H1) (b : KpU H1 H2) : KpU H H2 := fun c o n h => b c o n (a c o n h)
theorem kpU_T {H H' : Hp} (h : KpT H H') : KpU H H' := fun b o no e => h b o (fun l z => by
  rcases no with ⟨xs, rfl⟩ | ⟨ob, u, rfl⟩ <;> cases z) e
theorem kpU_same {H H' : Hp} (h : Same H H') : KpU H H' := fun b o _ e => h b o e
theorem kpU_kp {t : Addr} {H H' : Hp} {n : Nat} (h : Kp t H H') (ht : Tape H t n) : KpU H H' := kpU_T (kpT_kp h ht)
theorem kpU_dk {H : Hp} {p : Addr} {ks : List (Key × V)} {o' : HO} (h : H p = some (.dK ks)) : KpU H (upd H p o') := fun b o no e => by
  rw [upd_ne (fun z => by
    rw [z, h] at e
    cases e
    rcases no with ⟨xs, z⟩ | ⟨ob, u, z⟩ <;> cases z)]
  exact e
theorem kpU_lst {H : Hp} {p : Addr} {l : List V} {o' : HO} (h : H p = some (.lst l)) : KpU H (upd H p o') := kpU_T (kpT_lst h)
theorem kpU_tup {H H' : Hp} {p : Addr} {xs : List V} (k : KpU H H') (h : H p = some (.tup xs)) : H' p = some (.tup xs) := k _ _ (.inl ⟨xs, rfl⟩) h
theorem kpU_sqt {K : PySem.W.Frag} {H H' : Hp} {a : Addr} {xs : List V} (e : KpU H H') (h : SqT K H a xs) : SqT K H' a xs := by
  rcases h with (h | ⟨o, h⟩) | h
  · exact .inl (.inl (e _ _ (.inl ⟨xs, rfl⟩) h))
  · exact .inl (.inr ⟨o, e _ _ (.inr ⟨o, _, rfl⟩) h⟩)
  · exact .inr h
theorem CodeOf.monoU {K : PySem.W.Frag} {H H' : Hp} {p : Addr} {takes gives : List Str} {places : Nat} {xs : List V} {acts : List Act} (h : CodeOf K H p takes gives places xs acts) (k : KpU H H') : CodeOf K H' p takes gives places xs acts :=
  ⟨kpU_sqt k h.sq, h.pa.mono fun _ _ ⟨q, e, hq⟩ => ⟨q, e, kpU_tup k hq⟩, h.lg, h.ok, h.ct, h.cg, h.len⟩
theorem CodeOf.paV {K : PySem.W.Frag} {H : Hp} {p : Addr} {takes gives : List Str} {places : Nat} {xs : List V} {acts : List Act} (h : CodeOf K H p takes gives places xs acts) : Paired (ActV K H) xs acts :=
  h.pa.mono fun _ _ ⟨q, e, hq⟩ => ⟨q, e, SqT.of hq⟩
/-! a def called by keywords alone -/
structure CalK (P : Program) (w : World) (K : PySem.W.Frag) (mg : Str → Option Value) (base : Heap) (x : Str) (k : Nat) (ps ks : List Str) (gV : List V → List V) (sp : Sp) : Prop where
  ex : ∃ (f : Addr) (fd : FuncData) (g : List Value → List Value → List Value), FnOk P w K mg base CX0 k f fd ps sp ∧ mg x = some (.ref f) ∧ PySem.W.keepIn K (.ref f) = true ∧ KBn K fd ps 0 ks g (fun _ zs => gV zs)
def tCK (m : Nat) (sp : Sp) (gV : List V → List V) (tk : TA) : TE := fun σ H Q => tk σ H fun zs H2 => zs.length = m ∧ sp (gV zs) H2 Q E0
theorem pe_ck {X : Cx} {x : Str} {j k : Nat} {ps ks : List Str} {sp : Sp} {gV : List V → List V} {kws : List Keyword} {tk : TA} {p pos : Pos} (C : CalK X.prog X.w X.K X.mg X.base x k ps ks gV sp) (hr : Room j X.A) (hk : k ≤ j := by decide) (hg : Gl X x := by rfl) (hkw : PK X kws tk)
    (hall : (backToKw pos (keywordEach kws X.env)).all (·.1.isSome) = true := by rfl) (hks : (backToKw pos (keywordEach kws X.env)).filterMap (·.1) = ks := by rfl) (hdb : (x == ("__debug__" : Str)) = false := by decide)
    (hpl : ((backTo pos (starEach [] X.env)).any (·.1) || (backToKw pos (keywordEach kws X.env)).any (·.1.isNone)) = false := by rfl) :
    PE X (.Call (.Name x p) [] kws pos) (tCK ks.length sp gV tk) := by
  obtain ⟨f, fd, g, F, hm, hkp, hb⟩ := C.ex
  refine ⟨fun pins s σ H Q I h => ?_⟩
  refine wpAny_Call_Name_kw (ld_glob I hg hm ?_ hdb)
  refine PySem.W.callWith_KW0 (h₀ := X.base) I.ok.mod.kin hkp hall ?_ hpl
  refine thn (hkw.run pos pins s σ H _ I h) fun ws s2 ⟨zs, H2, I2, rz, l2, q2⟩ => ⟨I2.kIn, ?_⟩
  rw [hks]
  exact run_fnN (n := 0) (us := []) (vs := []) F (hr.mono hk) hb pass0 I2 .nil rz rfl l2 q2
/-! dicts of tuples of numbers -/
inductive EntsT (K : PySem.W.Frag) (H : Hp) : List (Key × V) → List (Str × List Int) → Prop
  | nil : EntsT K H [] []
  | cons {s : Str} {a : Addr} {ns : List Int} {kvs : List (Key × V)} {es : List (Str × List Int)} : SqT K H a (ns.map V.int) → EntsT K H kvs es → EntsT K H ((Sum.inr s, .ref a) :: kvs) ((s, ns) :: es)
theorem entsT_mono {K : PySem.W.Frag} {H H' : Hp} (k : KpU H H') : ∀ {kvs : List (Key × V)} {es : List (Str × List Int)}, EntsT K H kvs es → EntsT K H' kvs es
  | _, _, .nil => .nil
  | _, _, .cons h r => .cons (kpU_sqt k h) (entsT_mono k r)
theorem entsT_A {K : PySem.W.Frag} {H : Hp} : ∀ {kvs : List (Key × V)} {es : List (Str × List Int)}, EntsT K H kvs es → EntsA K H kvs es
  | _, _, .nil => .nil
  | _, _, .cons h r => .cons (.inr h) (entsT_A r)
theorem entsT_snoc {K : PySem.W.Frag} {H : Hp} {t : Str} {ns : List Int} {b : Addr} (hb : SqT K H b (ns.map V.int)) : ∀ {kvs : List (Key × V)} {es : List (Str × List Int)}, EntsT K H kvs es → EntsT K H (kvs ++ [(Sum.inr t, .ref b)]) (es ++ [(t, ns)])
  | _, _, .nil => .cons hb .nil
  | _, _, .cons h r => .cons h (entsT_snoc hb r)
/-! drawn numbers -/
def IntE (m : Int) (_ : Hp) (v : V) : Prop := ∃ i : Int, v = .int i ∧ 0 ≤ i ∧ i < m
theorem intE_mono {m : Int} : ∀ H H' v, KpT H H' → IntE m H v → IntE m H' v := fun _ _ _ _ h => h
theorem ints_of {m : Int} {H : Hp} : ∀ {acc : List V}, (∀ v ∈ acc, IntE m H v) → ∃ ns : List Int, acc = ns.map V.int ∧ ∀ i ∈ ns, 0 ≤ i ∧ i < m
  | [], _ => ⟨[], rfl, fun _ h => nomatch h⟩
  | v :: r, h => by
    obtain ⟨i, rfl, hi⟩ := h v List.mem_cons_self
    obtain ⟨ns, e, hs⟩ := ints_of (acc := r) fun x hx => h x (List.mem_cons_of_mem _ hx)
    refine ⟨i :: ns, by rw [e]; rfl, fun x hx => ?_⟩
    rcases List.mem_cons.mp hx with rfl | hx
    · exact hi
    · exact hs x hx
/-! data of what is shown -/
theorem drs_ints {K : PySem.W.Frag} {H : Hp} (ns : List Int) : DRs K H (ns.map V.int) (ns.map PyData.int) := dpa_drs (dpa_ints ns)
theorem drs_acts {K : PySem.W.Frag} {H : Hp} : ∀ {xs : List V} {acts : List Act}, Paired (ActP H) xs acts → DRs K H xs (acts.map actD)
  | _, _, .nil => .nil
  | _, _, .cons ⟨q, e, h⟩ r => by
    subst e
    exact .cons (dp_dr (act_dpa h)) (drs_acts r)
def tkD (es : List (Str × List Int)) : PyData := .dict (es.map fun e => (.str e.1, .list (e.2.map PyData.int)))
def mrD (es : List (Str × List Int)) : PyData := .dict (es.map fun e => (.str e.1, .tuple (e.2.map PyData.int)))
theorem ents_drs {K : PySem.W.Frag} {H : Hp} : ∀ {kvs : List (Key × V)} {es : List (Str × List Int)} {as : List Addr}, Ents H kvs es as → DRs K H (kvs.map (·.2)) (es.map fun e => PyData.list (e.2.map PyData.int)) ∧ (kvs.map fun kv => kD kv.1) = es.map fun e => PyData.str e.1
  | _, _, _, .nil => ⟨.nil, rfl⟩
  | _, _, _, .cons (ns := ns) h r => by
    obtain ⟨h1, h2⟩ := ents_drs (K := K) r
    refine ⟨.cons (.lst (SqL.of h) (drs_ints ns)) h1, ?_⟩
    rw [List.map_cons, List.map_cons, h2]
    rfl
theorem entsT_drs {K : PySem.W.Frag} {H : Hp} : ∀ {kvs : List (Key × V)} {es : List (Str × List Int)}, EntsT K H kvs es → DRs K H (kvs.map (·.2)) (es.map fun e => PyData.tuple (e.2.map PyData.int)) ∧ (kvs.map fun kv => kD kv.1) = es.map fun e => PyData.str e.1
  | _, _, .nil => ⟨.nil, rfl⟩
  | _, _, .cons (ns := ns) h r => by
    obtain ⟨h1, h2⟩ := entsT_drs r
    refine ⟨.cons (.tup h (drs_ints ns)) h1, ?_⟩
    rw [List.map_cons, List.map_cons, h2]
    rfl
theorem zip_maps {α β γ : Type} (f : α → β) (g : α → γ) : ∀ l : List α, (l.map f).zip (l.map g) = l.map fun x => (f x, g x)
  | [] => rfl
  | x :: r => by
    rw [List.map_cons, List.map_cons, List.map_cons, List.zip_cons_cons, zip_maps f g r]
theorem dr_tk {K : PySem.W.Frag} {H : Hp} {a : Addr} {kvs : List (Key × V)} {es : List (Str × List Int)} {as : List Addr} (h : H a = some (.dK kvs)) (he : Ents H kvs es as) : DR K H (.ref a) (tkD es) := by
  obtain ⟨h1, h2⟩ := ents_drs (K := K) he
  have := DR.dct (K := K) (.inl h) h1
  rw [h2, zip_maps] at this
  exact this
theorem dr_mr {K : PySem.W.Frag} {H : Hp} {a : Addr} {kvs : List (Key × V)} {es : List (Str × List Int)} (h : H a = some (.dK kvs)) (he : EntsT K H kvs es) : DR K H (.ref a) (mrD es) := by
  obtain ⟨h1, h2⟩ := entsT_drs he
  have := DR.dct (K := K) (.inl h) h1
  rw [h2, zip_maps] at this
  exact this
theorem fit_item {i : Int} (h : it i) : Fit 41 1 (.int i) := by
  obtain ⟨a, b⟩ := h
  exact fit_int (by omega) (by omega)
theorem fit_act {a : Act} {n : Nat} (h1 : actOk a) (h2 : nmAct a) (h3 : plOk n a) (hn : n ≤ 100000) : Fit 100 2 (actD a) := by
  have lit : ∀ s : Str, (s.cps.toList.all fun c => decide (c < 16 ^ 8)) = true → s.length ≤ 8 → Fit 41 1 (.str s) := fun s h l => fit_str (n := 41) (fun c hc => of_decide_eq_true (List.all_eq_true.mp h c hc)) (by omega)
  have two : ∀ (s : Str) (d : PyData), Fit 41 1 (.str s) → Fit 41 1 d → Fit 100 2 (.tuple [.str s, d]) := fun s d hs hd => fit_tuple (n := 41) (m := 1) (fun x hx => by
    rcases List.mem_cons.mp hx with rfl | hx
    · exact hs
    · rw [List.mem_singleton.mp hx]
      exact hd) (by show 42 * 2 ≤ 100; decide)
  cases a with
  | take t => exact two _ _ (lit _ (by decide +kernel) (by decide)) ((fit_nm h2).mono (by decide) (by decide))
  | give t => exact two _ _ (lit _ (by decide +kernel) (by decide)) ((fit_nm h2).mono (by decide) (by decide))
  | num i => exact two _ _ (lit _ (by decide +kernel) (by decide)) (fit_item h1)
  | keep k =>
    have hk : k < n := h3
    exact two _ _ (lit _ (by decide +kernel) (by decide)) (fit_int (by omega) (by omega))
  | kept k =>
    have hk : k < n := h3
    exact two _ _ (lit _ (by decide +kernel) (by decide)) (fit_int (by omega) (by omega))
  | wrd w =>
    have hm : w ∈ words8 := h1
    have hw : Fit 41 1 (.str w) := by
      simp only [words8, List.mem_cons, List.not_mem_nil, or_false] at hm
      rcases hm with rfl | rfl | rfl | rfl | rfl | rfl | rfl | rfl <;> exact lit _ (by decide +kernel) (by decide)
    exact fit_tuple (n := 41) (m := 1) (fun x hx => by
      rw [List.mem_singleton.mp hx]
      exact hw) (by show 42 * 1 ≤ 100; decide)
/-- the shown thing: code, places, taken, more -/
theorem fit_shown {acts : List Act} {ks : List Int} {es ms : List (Str × List Int)} {n : Nat} (ha : ∀ a ∈ acts, actOk a ∧ nmAct a ∧ plOk n a) (hn : n ≤ 100000) (hl : acts.length ≤ 1000) (hk : ∀ i ∈ ks, it i) (hkl : ks.length ≤ 100)
    (he : ∀ e ∈ es, IsNm e.1 ∧ (∀ i ∈ e.2, it i) ∧ e.2.length ≤ 100) (hel : es.length ≤ 10) (hm : ∀ e ∈ ms, IsNm e.1 ∧ (∀ i ∈ e.2, it i) ∧ e.2.length ≤ 100) (hml : ms.length ≤ 10) :
    Fit 500000 5 (.list [.tuple (acts.map actD), .tuple (ks.map PyData.int), tkD es, mrD ms]) := by
  have intsF : ∀ ns : List Int, (∀ i ∈ ns, it i) → ∀ d ∈ ns.map PyData.int, Fit 41 1 d := fun ns h d hd => by
    obtain ⟨i, hi, rfl⟩ := List.mem_map.mp hd
    exact fit_item (h i hi)
  have f1 : Fit 101000 4 (.tuple (acts.map actD)) := (fit_tuple (n := 100) (m := 2) (N := 101000) (fun d hd => by
    obtain ⟨a, h, rfl⟩ := List.mem_map.mp hd
    obtain ⟨h1, h2, h3⟩ := ha a h
    exact fit_act h1 h2 h3 hn) (by rw [List.length_map]; exact Nat.mul_le_mul_left 101 hl)).mono (Nat.le_refl _) (by decide)
  have f2 : Fit 101000 4 (.tuple (ks.map PyData.int)) := (fit_tuple (n := 41) (m := 1) (N := 42 * 100) (intsF ks hk) (by rw [List.length_map]; exact Nat.mul_le_mul_left 42 hkl)).mono (by decide) (by decide)
  have f3 : Fit 101000 4 (tkD es) := (fit_dict (n := 4200) (m := 3) (N := 8402 * 10) (fun p hp => by
    obtain ⟨e, h, rfl⟩ := List.mem_map.mp hp
    obtain ⟨h1, h2, h3⟩ := he e h
    exact ⟨(fit_nm h1).mono (by decide) (by decide), (fit_list (n := 41) (m := 1) (N := 42 * 100) (intsF e.2 h2) (by rw [List.length_map]; exact Nat.mul_le_mul_left 42 h3)).mono (by decide) (by decide)⟩) (by rw [List.length_map]; exact Nat.mul_le_mul_left 8402 hel)).mono (by decide) (by decide)
  have f4 : Fit 101000 4 (mrD ms) := (fit_dict (n := 4200) (m := 3) (N := 8402 * 10) (fun p hp => by
    obtain ⟨e, h, rfl⟩ := List.mem_map.mp hp
    obtain ⟨h1, h2, h3⟩ := hm e h
    exact ⟨(fit_nm h1).mono (by decide) (by decide), (fit_tuple (n := 41) (m := 1) (N := 42 * 100) (intsF e.2 h2) (by rw [List.length_map]; exact Nat.mul_le_mul_left 42 h3)).mono (by decide) (by decide)⟩) (by rw [List.length_map]; exact Nat.mul_le_mul_left 8402 hml)).mono (by decide) (by decide)
  refine fit_list (n := 101000) (m := 4) (fun d hd => ?_) (by show 101001 * 4 ≤ 500000; decide)
  simp only [List.mem_cons, List.not_mem_nil, or_false] at hd
  rcases hd with rfl | rfl | rfl | rfl
  · exact f1
  · exact f2
  · exact f3
  · exact f4
end Tw

/-! trays filled, one by one: the plain part -/
namespace Tw
open PySem PySem.Spec PyProof.Rows L2
theorem lk_snoc {es : List (Str × List Int)} {tr : Str} {ns : List Int} (h : lk es tr = none) (u : Str) : lk (es ++ [(tr, ns)]) u = if u = tr then some ns else lk es u := by
  induction es with
  | nil =>
    by_cases e : u = tr
    · rw [if_pos e, List.nil_append, lk_pos e.symm]
    · rw [if_neg e, List.nil_append, lk_neg (fun z => e z.symm)]
  | cons p r ih =>
    have hn : ¬ p.1 = tr := fun z => by
      rw [lk_pos z] at h
      cases h
    rw [lk_neg hn] at h
    by_cases e : p.1 = u
    · rw [List.cons_append, lk_pos e, if_neg (fun z => hn (e.trans z)), lk_pos e]
    · rw [List.cons_append, lk_neg e, ih h, lk_neg e]
structure PU (acts : List Act) (nms : List Str) (i : Nat) (es ms : List (Str × List Int)) : Prop where
  sub : ∀ e ∈ es, e.1 ∈ nms.take i
  nd : (es.map (·.1)).Nodup
  ky : ms.map (·.1) = es.map (·.1)
  ne : ∀ e ∈ es, (∀ x ∈ e.2, it x) ∧ e.2.length = takesN e.1 acts
  nm : ∀ e ∈ ms, (∀ x ∈ e.2, it x) ∧ e.2.length ≤ 50
  ex : ExtE es ms
  al : ∀ t ∈ nms.take i, 0 < takesN t acts → ∃ ns, lk es t = some ns
theorem PU.zero {acts : List Act} {nms : List Str} : PU acts nms 0 [] [] :=
  ⟨fun _ h => (nomatch h), List.nodup_nil, rfl, fun _ h => (nomatch h), fun _ h => (nomatch h), fun _ _ h => (nomatch h), fun t h => by simp at h⟩
theorem take_succ' {nms : List Str} {i : Nat} {tr : Str} (h : nms[i]? = some tr) : nms.take (i + 1) = nms.take i ++ [tr] := by
  rw [List.take_add_one, h]
  rfl
section
variable {acts : List Act} {nms : List Str} {i : Nat} {es ms : List (Str × List Int)} {tr : Str}
theorem PU.fresh (h : PU acts nms i es ms) (ht : nms[i]? = some tr) (hn : nms.Nodup) : lk es tr = none ∧ lk ms tr = none := by
  have key : ∀ l : List (Str × List Int), (∀ e ∈ l, e.1 ∈ nms.take i) → lk l tr = none := fun l hl => by
    cases e : lk l tr with
    | none => rfl
    | some ns =>
      have h1 := hl _ (lk_mem e)
      have hs : (nms.take (i + 1)).Nodup := hn.sublist (List.take_sublist _ _)
      rw [take_succ' ht, List.nodup_append] at hs
      exact absurd rfl (hs.2.2 tr h1 tr (List.mem_singleton.mpr rfl))
  refine ⟨key es h.sub, key ms fun e he => ?_⟩
  have h1 : e.1 ∈ ms.map (·.1) := List.mem_map.mpr ⟨e, he, rfl⟩
  rw [h.ky] at h1
  obtain ⟨e', he', h2⟩ := List.mem_map.mp h1
  rw [← h2]
  exact h.sub e' he'
theorem PU.skip (h : PU acts nms i es ms) (ht : nms[i]? = some tr) (h0 : takesN tr acts = 0) : PU acts nms (i + 1) es ms := by
  refine ⟨fun e he => ?_, h.nd, h.ky, h.ne, h.nm, h.ex, fun t hm hp => ?_⟩
  · rw [take_succ' ht]
    exact List.mem_append_left _ (h.sub e he)
  · rw [take_succ' ht] at hm
    rcases List.mem_append.mp hm with hm | hm
    · exact h.al t hm hp
    · rw [List.mem_singleton.mp hm, h0] at hp
      exact absurd hp (Nat.lt_irrefl 0)
theorem PU.add {ns xs : List Int} (h : PU acts nms i es ms) (ht : nms[i]? = some tr) (hn : nms.Nodup) (h1 : ∀ x ∈ ns, it x) (h2 : ∀ x ∈ xs, it x) (h3 : ns.length = takesN tr acts) (h4 : ns.length + xs.length ≤ 50) : PU acts nms (i + 1) (es ++ [(tr, ns)]) (ms ++ [(tr, ns ++ xs)]) := by
  obtain ⟨f1, f2⟩ := h.fresh ht hn
  refine ⟨fun e he => ?_, ?_, ?_, fun e he => ?_, fun e he => ?_, fun u vs hu => ?_, fun t hm hp => ?_⟩
  · rw [take_succ' ht]
    rcases List.mem_append.mp he with he | he
    · exact List.mem_append_left _ (h.sub e he)
    · rw [List.mem_singleton.mp he]
      exact List.mem_append_right _ (List.mem_singleton.mpr rfl)
  · rw [List.map_append, List.nodup_append]
    refine ⟨h.nd, by simp, fun a ha b hb => ?_⟩
    have hb : b = tr := List.mem_singleton.mp hb
    subst hb
    rintro rfl
    obtain ⟨e, he, e2⟩ := List.mem_map.mp ha
    obtain ⟨j, hj⟩ := List.mem_iff_getElem?.mp he
    have hj' : es[j]? = some (e.1, e.2) := hj
    have := lk_at hj' h.nd
    rw [e2, f1] at this
    cases this
  · rw [List.map_append, List.map_append, h.ky]
    rfl
  · rcases List.mem_append.mp he with he | he
    · exact h.ne e he
    · rw [List.mem_singleton.mp he]
      exact ⟨h1, h3⟩
  · rcases List.mem_append.mp he with he | he
    · exact h.nm e he
    · rw [List.mem_singleton.mp he]
      refine ⟨fun x hx => ?_, by rw [List.length_append]; exact h4⟩
      rcases List.mem_append.mp hx with hx | hx
      · exact h1 x hx
      · exact h2 x hx
  · rw [lk_snoc f1] at hu
    rw [lk_snoc f2]
    by_cases e : u = tr
    · rw [if_pos e] at hu ⊢
      cases hu
      exact ⟨xs, rfl⟩
    · rw [if_neg e] at hu ⊢
      exact h.ex u vs hu
  · rw [lk_snoc f1]
    by_cases e : t = tr
    · rw [if_pos e]
      exact ⟨ns, rfl⟩
    · rw [if_neg e]
      rw [take_succ' ht] at hm
      rcases List.mem_append.mp hm with hm | hm
      · exact h.al t hm hp
      · exact absurd (List.mem_singleton.mp hm) e
/-- then the code can be done -/
theorem PU.runs {K : PySem.W.Frag} {H : Hp} {p : Addr} {takes gives : List Str} {places : Nat} {vs : List V} {ks : List Int} (h : PU acts nms i es ms) (c : CodeOf K H p takes gives places vs acts) (hi : nms.take i = nms) (ht : ∀ z ∈ takes, z ∈ nms) (hk : places ≤ ks.length) :
    ∃ s', runA ⟨[], ks, es, []⟩ acts = some s' ∧ s'.kept.length = ks.length := by
  obtain ⟨pile, hl⟩ := c.lg
  obtain ⟨s', h1, h2, h3⟩ := run_of_lg acts ⟨[], ks, es, []⟩ pile hl (fun a ha => (c.ok a ha).1) (fun a ha => plOk_mono (c.ok a ha).2 hk) (fun t ht' => by
    have htk : t ∈ takes := by
      rw [c.ct t] at ht'
      exact List.count_pos_iff.mp ht'
    obtain ⟨ns, e⟩ := h.al t (by rw [hi]; exact ht t htk) ht'
    have := (h.ne _ (lk_mem e)).2
    dsimp only at this ⊢
    rw [e]
    exact Nat.le_of_eq this.symm)
  exact ⟨s', h1, h3⟩
end
end Tw
namespace Tw
open PySem PySem.Spec PyProof.Rows L2
/-- what stands under way -/
structure RI (K : PySem.W.Frag) (t c pl td mr : Addr) (H H' : Hp) (takes gives : List Str) (many : Nat) (xs : List V) (acts : List Act) (ks : List Int) (b : Nat) (es ms : List (Str × List Int)) : Prop where
  kp : Kp t H H'
  tp : Tape H' t b
  co : CodeOf K H' c takes gives many xs acts
  ps : SqT K H' pl (ks.map V.int)
  et : ∃ tds as, H' td = some (.dK tds) ∧ Ents H' tds es as ∧ (∀ a ∈ as, H a = none)
  em : ∃ mrs, H' mr = some (.dK mrs) ∧ EntsT K H' mrs ms
structure RF (t td mr : Addr) (H : Hp) : Prop where
  tp0 : ∃ o, H t = some o
  td0 : H td = none
  mr0 : H mr = none
  ne : td ≠ mr
theorem RF.tdt {t td mr : Addr} {H : Hp} (F : RF t td mr H) : td ≠ t := fun e => by
  obtain ⟨o, h⟩ := F.tp0
  rw [← e, F.td0] at h
  cases h
theorem RF.mrt {t td mr : Addr} {H : Hp} (F : RF t td mr H) : mr ≠ t := fun e => by
  obtain ⟨o, h⟩ := F.tp0
  rw [← e, F.mr0] at h
  cases h
section
variable {K : PySem.W.Frag} {t c pl td mr : Addr} {H H' H'' : Hp} {takes gives : List Str} {many : Nat} {xs : List V} {acts : List Act} {ks : List Int} {b b' : Nat} {es ms : List (Str × List Int)}
theorem RI.step (F : RF t td mr H) (h : RI K t c pl td mr H H' takes gives many xs acts ks b es ms) (k : Kp t H' H'') (tp : Tape H'' t b') : RI K t c pl td mr H H'' takes gives many xs acts ks b' es ms := by
  obtain ⟨tds, as, h1, h2, h3⟩ := h.et
  obtain ⟨mrs, h4, h5⟩ := h.em
  have u := kpU_kp k h.tp
  obtain ⟨o, ho⟩ := F.tp0
  exact ⟨h.kp.trans k, tp, h.co.monoU u, kpU_sqt u h.ps, ⟨tds, as, k _ _ F.tdt h1, ents_mono h2 fun a ha o' h' => k a o' (fun e => by
    have := h3 a ha
    rw [e, ho] at this
    cases this) h', h3⟩, ⟨mrs, k _ _ F.mrt h4, entsT_mono u h5⟩⟩
theorem RI.same (F : RF t td mr H) (h : RI K t c pl td mr H H' takes gives many xs acts ks b es ms) (k : Same H' H'') : RI K t c pl td mr H H'' takes gives many xs acts ks b es ms := h.step F (kp_same k) (tape_same k h.tp)
theorem RI.mono (h : RI K t c pl td mr H H' takes gives many xs acts ks b es ms) (l : b' ≤ b) : RI K t c pl td mr H H' takes gives many xs acts ks b' es ms := ⟨h.kp, h.tp.mono l, h.co, h.ps, h.et, h.em⟩
theorem RI.put {tr : Str} {ns zs : List Int} {sm tl : Addr} {tds mrs : List (Key × V)} {as : List Addr} (F : RF t td mr H) (h : RI K t c pl td mr H H' takes gives many xs acts ks b es ms) (h1 : H' td = some (.dK tds)) (h2 : Ents H' tds es as) (h3 : ∀ a ∈ as, H a = none) (h4 : H' mr = some (.dK mrs)) (h5 : EntsT K H' mrs ms)
    (hs : H' sm = some (.lst (ns.map V.int))) (hs0 : H sm = none) (htl : SqT K H' tl (zs.map V.int)) (f1 : lk es tr = none) (f2 : lk ms tr = none) :
    RI K t c pl td mr H (upd (upd H' td (.dK (putK tds (Sum.inr tr) (.ref sm)))) mr (.dK (putK mrs (Sum.inr tr) (.ref tl)))) takes gives many xs acts ks b (es ++ [(tr, ns)]) (ms ++ [(tr, zs)]) := by
  have u1 : KpU H' (upd H' td (.dK (putK tds (Sum.inr tr) (.ref sm)))) := kpU_dk h1
  have h4' : (upd H' td (.dK (putK tds (Sum.inr tr) (.ref sm)))) mr = some (.dK mrs) := by
    rw [upd_ne F.ne.symm]
    exact h4
  have u2 : KpU (upd H' td (.dK (putK tds (Sum.inr tr) (.ref sm)))) (upd (upd H' td (.dK (putK tds (Sum.inr tr) (.ref sm)))) mr (.dK (putK mrs (Sum.inr tr) (.ref tl)))) := kpU_dk h4'
  have u := u1.trans u2
  have v1 : valV tds (Sum.inr tr : Key) = none := (ents_none h2).mpr f1
  have v2 : valV mrs (Sum.inr tr : Key) = none := (entsA_none (entsT_A h5)).mpr f2
  refine ⟨kp_mut (kp_mut h.kp F.td0) F.mr0, ?_, h.co.monoU u, kpU_sqt u h.ps, ⟨putK tds (Sum.inr tr) (.ref sm), as ++ [sm], ?_, ?_, ?_⟩, ⟨_, upd_same, ?_⟩⟩
  · obtain ⟨x, y, z, e, r⟩ := h.tp
    exact ⟨x, y, z, by rw [upd_ne F.mrt.symm, upd_ne F.tdt.symm]; exact e, r⟩
  · rw [upd_ne F.ne, upd_same]
  · have G : ∀ l, l = tds ++ [(Sum.inr tr, V.ref sm)] → Ents (upd (upd H' td (.dK (putK tds (Sum.inr tr) (.ref sm)))) mr (.dK (putK mrs (Sum.inr tr) (.ref tl)))) l (es ++ [(tr, ns)]) (as ++ [sm]) := ?_
    · exact G _ (putK_new _ v1)
    rintro _ rfl
    refine ents_snoc ?_ (ents_dk h4' (ents_dk h1 h2))
    rw [upd_ne (lst_ne_dk hs h4).symm, upd_ne (lst_ne_dk hs h1).symm]
    exact hs
  · intro a ha
    rcases List.mem_append.mp ha with ha | ha
    · exact h3 a ha
    · rw [List.mem_singleton.mp ha]
      exact hs0
  · have G : ∀ l, l = mrs ++ [(Sum.inr tr, V.ref tl)] → EntsT K (upd (upd H' td (.dK (putK tds (Sum.inr tr) (.ref sm)))) mr (.dK (putK mrs (Sum.inr tr) (.ref tl)))) l (ms ++ [(tr, zs)]) := by
      rintro _ rfl
      exact entsT_snoc (kpU_sqt u htl) (entsT_mono u h5)
    exact G _ (putK_new _ v2)
end
end Tw
namespace Tw
open PySem PySem.Spec PyProof.Rows L2
theorem ents_at {H : Hp} {a : Addr} : ∀ {kvs : List (Key × V)} {es : List (Str × List Int)} {as : List Addr}, Ents H kvs es as → a ∈ as → ∃ e ∈ es, H a = some (.lst (e.2.map V.int))
  | _, _, _, .nil, h => nomatch h
  | _, _, _, .cons h r, ha => by
    rcases List.mem_cons.mp ha with rfl | ha
    · exact ⟨_, List.mem_cons_self, h⟩
    · obtain ⟨e, he, h2⟩ := ents_at r ha
      exact ⟨e, List.mem_cons_of_mem _ he, h2⟩
theorem ents_in {H : Hp} : ∀ {kvs : List (Key × V)} {es : List (Str × List Int)} {as : List Addr} {i : Nat} {kv : Key × V}, Ents H kvs es as → kvs[i]? = some kv → ∃ a ∈ as, kv.2 = .ref a
  | _, _, _, _, _, .nil, e => by simp at e
  | _, _, _, 0, _, .cons (a := a) _ _, e => by
    simp at e
    subst e
    exact ⟨a, List.mem_cons_self, rfl⟩
  | _, _, _, i + 1, kv, .cons _ r, e => by
    obtain ⟨a, ha, h⟩ := ents_in (i := i) (kv := kv) r (by simpa using e)
    exact ⟨a, List.mem_cons_of_mem _ ha, h⟩
end Tw

/-! _law_right -/
namespace Tw
open PySem PySem.Spec PyProof.Rows L2
theorem scRight : FnScope ["_law_tape_here", "_law_names_here", "_law_a_code", "_law_many", "_law_wide", "_law_places", "_law_a_taken", "_law_more", "_law_tray", "_law_count", "_law_some", "_law_longer", "_law_due_here", "_law_a_kept", "_law_told", "_law_turn", "_law_act", "_law_one"] ["_law_tape_here", "_law_names_here"] (defScope (topS 22)) := ⟨rfl, rfl, rfl, by decide +kernel, rfl, by decide +kernel, by decide +kernel⟩
def spRight : Sp := fun vs H Q _ => ∃ (t a : Addr) (n1 n2 n3 n4 : Str) (n : Nat), vs = [.ref t, .ref a] ∧ H a = some (.lst ([n1, n2, n3, n4].map V.str)) ∧ (IsNm n1 ∧ IsNm n2 ∧ IsNm n3 ∧ IsNm n4) ∧ n1 ≠ n2 ∧ Tape H t (n + 200) ∧ ∀ H', Kp t H H' → Tape H' t n → Q (.bl true) H'
def gP3 {α : Type} : List α → List α
  | [a, b, c] => [b, c, a]
  | _ => []
section
variable {P : Program} {w : World} {K : PySem.W.Frag} {mg : Str → Option Value} {base : Heap}
theorem ok_right {f : Addr} {fd : FuncData} {k k1 k2 k3 k4 k5 k6 : Nat} (g : Bl mg) (gm : Bm mg) (hsy : SysB base) (C_law_draw : Cal P w K mg base "_law_draw" k1 ["_law_tape_here", "_law_many"] spDraw) (C_law_some_code : Cal P w K mg base "_law_some_code" k2 ["_law_tape_here", "_law_names_here", "_law_most"] (spSomeCode K)) (C_law_due : Cal P w K mg base "_law_due" k3 ["_law_a_code", "_law_places", "_law_a_taken"] (spDue K)) (Cdone_by : Cal P w K mg base "done_by" k4 ["code", "kept", "taken"] (spDoneBy K)) (Kdone_by : CalK P w K mg base "done_by" k5 ["code", "kept", "taken"] ["taken", "code", "kept"] gP3 (spDoneBy K)) (C_law_alike : Cal P w K mg base "_law_alike" k6 ["_law_found", "_law_due_here"] (spAlike K))
    (h1 : k1 ≤ k) (h2 : k2 ≤ k) (h3 : k3 ≤ k) (h4 : k4 ≤ k) (h5 : k5 ≤ k) (h6 : k6 ≤ k) (F : Fun K "_law_right" "_law_right" (topS 22) f fd) : FnOkG P w K mg base (k + 1) f fd ["_law_tape_here", "_law_names_here"] spRight := by
  refine okG F scRight (fun vs H Q E h => ?_) (fun cdv A outer s H vs Q E hr hg h => ?_)
  · obtain ⟨t, a, n1, n2, n3, n4, n, rfl, _⟩ := h
    rfl
  · obtain ⟨t, a, n1, n2, n3, n4, n, rfl, ha, ⟨m1, m2, m3, m4⟩, hne, hT, q⟩ := h
    refine ⟨_, (pss_cons (ps_asg (pe_c C_law_some_code hr h2 (ha := (pa_cons (pv 0) (pa_cons (pv 1) (pa_cons pe_int pa_nil))))) (pg_tup rfl (pgs_cons (pg_name (i := 2) scRight.nd rfl (Or.inl rfl)) (pgs_cons (pg_name (i := 3) scRight.nd rfl (Or.inl rfl)) pgs_nil))))
      (pss_cons (ps_set (i := 4) scRight.nd rfl (Or.inr rfl) (pe_ix (ix_list' K) (pe_lstU (pa_cons pe_int (pa_cons (pe_op op_pow pe_int pe_int) pa_nil))) (pe_c C_law_draw hr h1 (ha := (pa_cons (pv 0) (pa_cons pe_int pa_nil)))) (fun _ _ => rfl)))
      (pss_cons (ps_set (i := 5) scRight.nd rfl (Or.inl rfl) (pe_callTy (call_tupU' K) (by rfl) g.tuple PyProof.Rows.boot_tuple (pa_cons (pe_lc (own := [("_law_turn", 15)]) (g := (gName 15)) (tt := tYes) rfl scRight.nd (pi_range1 (by rfl) g.range (pa_cons (pe_callB (call_max2 rfl) (by rfl) gm.max PyProof.Rows.boot_max (pa_cons (pv 3) (pa_cons (pe_c C_law_draw hr h1 (ha := (pa_cons (pv 0) (pa_cons pe_int pa_nil)))) pa_nil))) pa_nil)) (blkOk_by (own := [("_law_turn", 15)]) (N := ["_law_tape_here", "_law_names_here", "_law_a_code", "_law_many", "_law_wide", "_law_places", "_law_a_taken", "_law_more", "_law_tray", "_law_count", "_law_some", "_law_longer", "_law_due_here", "_law_a_kept", "_law_told", "_law_turn", "_law_act", "_law_one"]) (sc := defScope (topS 22)) (by decide +kernel)) (fun _ _ _ _ _ => (pg_name (i := 15) scRight.nd rfl (Or.inl rfl))) (fun _ _ _ _ _ => pts_nil) (fun _ _ _ _ _ => (pe_c C_law_draw hr h1 (ha := (pa_cons (pv 0) (pa_cons (pv 4) pa_nil)))))) pa_nil)))
      (pss_cons (ps_par (i := 6) (j := 7) rfl scRight.nd rfl rfl (by decide) rfl rfl (pa_cons pe_dnewK (pa_cons pe_dnewK pa_nil)) rfl)
      (Evl.pss_cut (ps_for PassesOwn.never rfl (pi_list' K (pe_slice sl_lstU (pv 1) po_none (po_some pe_int))) (pg_name (i := 8) scRight.nd rfl (Or.inr rfl))
        (pss_cons (ps_set (i := 9) scRight.nd rfl (Or.inl rfl) (pe_callB (call_len' K) (by rfl) g.len PySem.boot_len (pa_cons (pe_lc (own := [("_law_act", 16)]) (g := (gName 16)) (tt := _) rfl scRight.nd (pi_tup' K (pv 2)) (blkOk_by (own := [("_law_act", 16)]) (N := ["_law_tape_here", "_law_names_here", "_law_a_code", "_law_many", "_law_wide", "_law_places", "_law_a_taken", "_law_more", "_law_tray", "_law_count", "_law_some", "_law_longer", "_law_due_here", "_law_a_kept", "_law_told", "_law_turn", "_law_act", "_law_one"]) (sc := defScope (topS 22)) (by decide +kernel)) (fun _ _ _ _ _ => (pg_name (i := 16) scRight.nd rfl (Or.inl rfl))) (fun _ _ _ _ _ => (pts_one (pt_cmpR (op_eqAct hr.units) (pv 16) (pe_tupU (pa_cons pe_str (pa_cons (pv 8) pa_nil))) (nomark _)))) (fun _ _ _ _ _ => (pv 16))) pa_nil)))
        (pss_cons (ps_setLc (i := 10) (own := [("_law_turn", 15)]) (g := (gName 15)) (tt := tYes) rfl scRight.nd rfl rfl (sw_true rfl rfl rfl (by decide +kernel)) (pi_range1 (by rfl) g.range (pa_cons (pv 9) pa_nil)) (blkOk_by (own := [("_law_turn", 15)]) (N := ["_law_tape_here", "_law_names_here", "_law_a_code", "_law_many", "_law_wide", "_law_places", "_law_a_taken", "_law_more", "_law_tray", "_law_count", "_law_some", "_law_longer", "_law_due_here", "_law_a_kept", "_law_told", "_law_turn", "_law_act", "_law_one"]) (sc := defScope (topS 22)) (by decide +kernel)) (fun _ _ _ _ _ => (pg_name (i := 15) scRight.nd rfl (Or.inl rfl))) (fun _ _ _ _ _ => pts_nil) (fun _ _ _ _ _ => (pe_c C_law_draw hr h1 (ha := (pa_cons (pv 0) (pa_cons (pv 4) pa_nil))))))
        (pss_cons (ps_set (i := 11) scRight.nd rfl (Or.inl rfl) (pe_op op_catL (pv 10) (pe_lc (own := [("_law_turn", 15)]) (g := (gName 15)) (tt := tYes) rfl scRight.nd (pi_range1 (by rfl) g.range (pa_cons (pe_c C_law_draw hr h1 (ha := (pa_cons (pv 0) (pa_cons pe_int pa_nil)))) pa_nil)) (blkOk_by (own := [("_law_turn", 15)]) (N := ["_law_tape_here", "_law_names_here", "_law_a_code", "_law_many", "_law_wide", "_law_places", "_law_a_taken", "_law_more", "_law_tray", "_law_count", "_law_some", "_law_longer", "_law_due_here", "_law_a_kept", "_law_told", "_law_turn", "_law_act", "_law_one"]) (sc := defScope (topS 22)) (by decide +kernel)) (fun _ _ _ _ _ => (pg_name (i := 15) scRight.nd rfl (Or.inl rfl))) (fun _ _ _ _ _ => pts_nil) (fun _ _ _ _ _ => (pe_c C_law_draw hr h1 (ha := (pa_cons (pv 0) (pa_cons (pv 4) pa_nil))))))))
        (pss_one (ps_if (pt_cmpR op_gt (pv 9) pe_int (nomark _))
          (pss_one (ps_asg (pe_tupU (pa_cons (pv 10) (pa_cons (pe_callTy (call_tupU' K) (by rfl) g.tuple PyProof.Rows.boot_tuple (pa_cons (pv 11) pa_nil)) pa_nil))) (pg_tup rfl (pgs_cons (pg_sub (pv 6) (pv 8) (set_dict (hu_of hr))) (pgs_cons (pg_sub (pv 7) (pv 8) (set_dict (hu_of hr))) pgs_nil)))))
          pss_nil))))))
      (pss_cons (ps_asg (pe_tupU (pa_cons (pe_c C_law_due hr h3 (ha := (pa_cons (pv 2) (pa_cons (pv 5) (pa_cons (pv 6) pa_nil))))) (pa_cons (pe_callB (call_repr' K hg hsy hr.units) (by rfl) gm.repr PyProof.Rows.boot_repr (pa_cons (pe_lstU (pa_cons (pv 2) (pa_cons (pv 5) (pa_cons (pv 6) (pa_cons (pv 7) pa_nil))))) pa_nil)) pa_nil))) (pg_tup rfl (pgs_cons (pg_name (i := 12) scRight.nd rfl (Or.inr rfl)) (pgs_cons (pg_name (i := 13) scRight.nd rfl (Or.inl rfl)) pgs_nil))))
      (pss_cons (ps_set (i := 14) scRight.nd rfl (Or.inl rfl) (pe_lstU (pa_cons (pe_c Cdone_by hr h4 (ha := (pa_cons (pv 2) (pa_cons (pv 5) (pa_cons (pv 6) pa_nil))))) (pa_cons (pe_ck Kdone_by hr h5 (hkw := pk_cons (pv 7) (pk_cons (pv 2) (pk_cons (pv 5) pk_nil)))) pa_nil))))
      (Evl.pss_cut (ps_if (pt_not (pt_val (pe_callB (cr_all' K rfl) (by rfl) g.all boot_all (pa_cons (pe_lc (own := [("_law_one", 17)]) (g := (gName 17)) (tt := tYes) rfl scRight.nd (pi_list' K (pv 14)) (blkOk_by (own := [("_law_one", 17)]) (N := ["_law_tape_here", "_law_names_here", "_law_a_code", "_law_many", "_law_wide", "_law_places", "_law_a_taken", "_law_more", "_law_tray", "_law_count", "_law_some", "_law_longer", "_law_due_here", "_law_a_kept", "_law_told", "_law_turn", "_law_act", "_law_one"]) (sc := defScope (topS 22)) (by decide +kernel)) (fun _ _ _ _ _ => (pg_name (i := 17) scRight.nd rfl (Or.inl rfl))) (fun _ _ _ _ _ => pts_nil) (fun _ _ _ _ _ => (pe_c C_law_alike hr h6 (ha := (pa_cons (pv 17) (pa_cons (pv 12) pa_nil)))))) pa_nil))))
        (pss_one (ps_ret pe_bl))
        pss_nil)
      (Evl.pss_cut (ps_lock (ps_for PassesOwn.never rfl (pi_values (pe_ix (ix_tup' K) (pe_ix (ix_list' K) (pv 14) pe_int (fun _ _ => rfl)) pe_int (fun _ _ => rfl))) (pg_name (i := 10) scRight.nd rfl (Or.inl rfl))
        (pss_cons (ps_expr (pe_bm PySem.F.plainAttrs_list PySem.F.slot_list_append PySem.F.type_list_append mt_append (pv 10) (pa_cons pe_int pa_nil)))
        (pss_one (ps_expr (pe_bm0 PySem.F.plainAttrs_list PySem.F.slot_list_reverse PySem.F.type_list_reverse mt_reverse (pv 10)))))))
      (pss_cons (ps_expr (pe_dclear (pe_ix (ix_tup' K) (pe_ix (ix_list' K) (pv 14) pe_int (fun _ _ => rfl)) pe_int (fun _ _ => rfl))))
      (pss_one (ps_ret (pe_and (pe_c C_law_alike hr h6 (ha := (pa_cons (pe_c Cdone_by hr h4 (ha := (pa_cons (pv 2) (pa_cons (pv 5) (pa_cons (pv 7) pa_nil))))) (pa_cons (pv 12) pa_nil)))) (pe_one (pe_cmpR op_eq (pe_callB (call_repr' K hg hsy hr.units) (by rfl) gm.repr PyProof.Rows.boot_repr (pa_cons (pe_lstU (pa_cons (pv 2) (pa_cons (pv 5) (pa_cons (pv 6) (pa_cons (pv 7) pa_nil))))) pa_nil)) (pv 13) (nomark _)))))))))))))))), ?_⟩
    have z2 : 2 ≤ 100000 := by decide
    have hat : a ≠ t := strs_ne hT ha
    -- the code
    refine ⟨_, rfl, _, rfl, t, a, n1, n2, n3, n4, [], 6, n + 55, rfl, ha, ⟨m1, m2, m3, m4⟩, by decide, by decide, hT, fun q1 c many takes gives xs acts H1 k1 t1 c1 hmany htk hgv ltk lgv co1 => ?_⟩
    refine ⟨q1, _, rfl, SqT.of c1, rfl, _, _, rfl, _, _, rfl, rfl, ?_⟩
    -- wide
    refine ⟨10, 6, rfl, rfl, ⟨by decide, by decide, by decide⟩, z2, fun p2 H2 np2 s2 c2 => ?_⟩
    have t2 := tape_same s2 t1
    have n2t : p2 ≠ t := tape_ne t1 np2
    refine ⟨_, rfl, t, 2, n + 54, rfl, by decide, by decide, t2, fun d3 H3 d30 d31 k3 t3 => ?_⟩
    obtain ⟨wd, hwd, hw1, hw2⟩ : ∃ wd : Int, atI [V.int 10, V.int 1000000] d3 = some (.int wd) ∧ 0 < wd ∧ wd ≤ 1000000 := by
      have : d3 = 0 ∨ d3 = 1 := by omega
      rcases this with rfl | rfl
      · exact ⟨10, rfl, by decide, by decide⟩
      · exact ⟨1000000, rfl, by decide, by decide⟩
    refine ⟨p2, _, d3, .int wd, rfl, rfl, SqL.of (k3 _ _ n2t c2), hwd, ?_⟩
    have u13 : KpU H1 H3 := (kpU_same s2).trans (kpU_kp k3 t2)
    have k03 : Kp t H H3 := k1.trans ((kp_same s2).trans k3)
    -- places
    refine ⟨_, rfl, _, rfl, t, 5, n + 53, rfl, by decide, by decide, t3, fun d4 H4 d40 d41 k4 t4 => ?_⟩
    obtain ⟨N, hN, hN1, hN2⟩ : ∃ N : Nat, (if d4 > (many : Int) then d4 else (many : Int)) = (N : Int) ∧ many ≤ N ∧ N ≤ 4 := by
      obtain ⟨d4, rfl⟩ := Int.eq_ofNat_of_zero_le d40
      by_cases h : (d4 : Int) > (many : Int)
      · exact ⟨d4, if_pos h, by omega, by omega⟩
      · exact ⟨many, if_neg h, by omega, by omega⟩
    refine ⟨(many : Int), d4, rfl, (N : Int), congrArg (fun z => [V.int z]) hN, by omega, by omega, fun D5 nD5 => ?_⟩
    have eN : (N : Int).toNat = N := by omega
    refine lcU_range (lo := 0) (n := (N : Int).toNat) (IntE wd) intE_mono 1 (n + 49) (by omega) nD5 (t4.mono (by omega)) ?_ ?_
    · intro i Hi R hi ki ti hR
      exact ⟨rfl, _, rfl, _, rfl, t, wd, _, rfl, hw1, by omega, ti, fun d Hd d0 d1 kd td => hR _ _ kd td ⟨d, rfl, d0, d1⟩⟩
    intro H5 acc k5 t5 c5 l5 e5
    rw [eN] at l5
    obtain ⟨ks, rfl, hks⟩ := ints_of e5
    rw [List.length_map] at l5
    have hks : ∀ x ∈ ks, it x := fun x hx => ⟨(hks x hx).1, by have := (hks x hx).2; omega⟩
    refine ⟨D5, _, rfl, .inl (SqL.of c5), fun pl H6 s6 c6 => ?_⟩
    have t6 := tape_same s6 t5
    have u16 : KpU H1 H6 := u13.trans ((kpU_kp k4 t3).trans ((kpU_kp k5 t4).trans (kpU_same s6)))
    have k06 : Kp t H H6 := k03.trans (k4.trans (k5.trans (kp_same s6)))
    have co6 := co1.monoU u16
    clear u13 k03 s6 c5 e5 nD5 t5 t4 t3 t2 t1 k1 k3 k4 k5 s2 c2 np2 n2t co1 c1 u16
    -- the trays
    intro td ntd mr nmr
    refine ⟨_, _, rfl, ?_⟩
    have nmd : mr ≠ td := fun e => by
      rw [e, upd_same] at nmr
      cases nmr
    have nmr6 : H6 mr = none := by
      rw [upd_ne nmd] at nmr
      exact nmr
    have ntd0 : H td = none := kp_none k06 t6 ntd
    have nmr0 : H mr = none := kp_none k06 t6 nmr6
    have ntdt : td ≠ t := tape_ne t6 ntd
    have nmrt : mr ≠ t := tape_ne t6 nmr6
    have s67 : Same H6 (upd (upd H6 td (.dK [])) mr (.dK [])) := (same_new ntd).trans (same_new nmr)
    have nnd : [n1, n2].Nodup := by
      rw [List.nodup_cons]
      exact ⟨fun h => hne (List.mem_singleton.mp h), by simp⟩
    have RF0 : RF t td mr H := ⟨by obtain ⟨_, _, _, e, _⟩ := hT; exact ⟨_, e⟩, ntd0, nmr0, nmd.symm⟩
    have R7 : RI K t c pl td mr H (upd (upd H6 td (.dK [])) mr (.dK [])) takes gives many xs acts ks (n + 49) [] [] :=
      ⟨k06.trans (kp_same s67), tape_same s67 t6, co6.monoU (kpU_same s67), same_sqt s67 c6, ⟨[], [], by rw [upd_ne nmd.symm, upd_same], .nil, fun _ h => nomatch h⟩, ⟨[], upd_same, .nil⟩⟩
    have ha7 := s67 _ _ (k06 _ _ hat ha)
    generalize hH7 : upd (upd H6 td (.dK [])) mr (.dK []) = H7 at R7 ha7 s67 ⊢
    clear hH7 nmr nmr6 ntd t6 k06 co6 c6 s67 ntdt nmrt ntd0 nmr0 nmd
    have htl5 : takes.length ≤ 5 := by omega
    have hcnt : ∀ z, takesN z acts ≤ 5 := fun z => by
      rw [R7.co.ct z]
      exact Nat.le_trans List.count_le_length htl5
    have hnm : ∀ x ∈ acts, nmAct x := fun x hx => by
      cases x with
      | take z =>
        rcases htk z (R7.co.takeIn hx) with e | e
        · show IsNm z; rw [e]; exact m1
        · show IsNm z; rw [e]; exact m2
      | give z =>
        rcases hgv z (R7.co.giveIn hx) with e | e
        · show IsNm z; rw [e]; exact m3
        · show IsNm z; rw [e]; exact m4
      | _ => trivial
    refine ⟨fun σ H9 => ∃ es ms y8 y9 y10 y11, σ = [some (.ref t), some (.ref a), some (.ref c), some (.int (many : Int)), some (.int wd), some (.ref pl), some (.ref td), some (.ref mr), y8, y9, y10, y11, none, none, none, none, none, none] ∧ RI K t c pl td mr H H9 takes gives many xs acts ks (n + 20) es ms ∧ PU acts [n1, n2] 2 es ms, ?_, ?_⟩
    · refine ⟨_, rfl, 2, rfl, a, _, rfl, SqL.of ha7, fun L8 H8 n8 s8 c8 => ?_⟩
      have R8 := R7.same RF0 s8
      have n80 : H L8 = none := kp_none R7.kp R7.tp n8
      have n8t : L8 ≠ t := tape_ne R7.tp n8
      have c8' : H8 L8 = some (.lst ([n1, n2].map V.str)) := c8
      refine ⟨L8, rfl, ⟨_, SqL.of c8'⟩, for_list (K := K) (xs := [n1, n2].map V.str) (fun i σ H9 => ∃ es ms y8 y9 y10 y11, σ = [some (.ref t), some (.ref a), some (.ref c), some (.int (many : Int)), some (.int wd), some (.ref pl), some (.ref td), some (.ref mr), y8, y9, y10, y11, none, none, none, none, none, none] ∧ RI K t c pl td mr H H9 takes gives many xs acts ks (n + 20 + 10 * (2 - i)) es ms ∧ PU acts [n1, n2] i es ms ∧ H9 L8 = some (.lst ([n1, n2].map V.str)))
        ⟨[], [], _, _, _, _, rfl, R8.mono (by omega), PU.zero, c8'⟩ (fun i σ H9 _ ⟨_, _, _, _, _, _, _, _, _, h⟩ => SqL.of h) ?_ ?_⟩
      · rintro i v σ H9 hi ⟨es, ms, y8, y9, y10, y11, rfl, R9, pu, c9⟩
        obtain ⟨tr, hti, rfl⟩ : ∃ tr, [n1, n2][i]? = some tr ∧ v = .str tr := by
          rw [List.getElem?_map] at hi
          cases e : [n1, n2][i]? with
          | none =>
            rw [e] at hi
            cases hi
          | some tr =>
            rw [e] at hi
            exact ⟨tr, rfl, (Option.some.inj hi).symm⟩
        have hi2 : i < 2 := (List.getElem?_eq_some_iff.mp hti).1
        have mtr : IsNm tr := by
          have := List.mem_of_getElem? hti
          simp only [List.mem_cons, List.not_mem_nil, or_false] at this
          rcases this with rfl | rfl
          · exact m1
          · exact m2
        have eb : n + 20 + 10 * (2 - i) = n + 20 + 10 * (2 - (i + 1)) + 10 := by omega
        rw [eb] at R9
        generalize n + 20 + 10 * (2 - (i + 1)) = m at R9 ⊢
        -- how many are taken
        refine ⟨_, rfl, c, rfl, ⟨xs, R9.co.sq⟩, fun D nD => ?_⟩
        refine lc_tup (xs := xs) (fun j Hj => Same H9 Hj ∧ ∃ acc, Hj D = some (.lst acc) ∧ acc.length = takesN tr (acts.take j)) ⟨same_new nD, [], upd_same, rfl⟩ (fun j Hj _ p => same_sqt p.1 R9.co.sq) ?_ ?_
        · rintro j x Hj hx ⟨sj, acc, dj, lj⟩
          obtain ⟨act, hact, qa, rfl, hqa⟩ := paired_get R9.co.pa hx
          have hm := List.mem_of_getElem? hact
          have etk : takesN tr (acts.take (j + 1)) = takesN tr (acts.take j) + (if isTake tr act = true then 1 else 0) := by
            rw [List.take_add_one, hact]
            show takesN tr (acts.take j ++ [act]) = _
            rw [takesN_app]
            congr 1
            cases act with
            | take z =>
              show (if z = tr then 1 else 0) + 0 = (if decide (z = tr) = true then 1 else 0)
              by_cases e : z = tr
              · rw [if_pos e, if_pos (decide_eq_true e)]
              · rw [if_neg e, if_neg (by rw [decide_eq_false e]; decide)]
            | _ => rfl
          have hlt : acc.length < sizeLine := by
            rw [lj]
            have h1 := takes_filter tr (acts.take j)
            have h2 := List.length_filter_le (isTake tr) (acts.take j)
            have h3 : (acts.take j).length ≤ acts.length := by rw [List.length_take]; exact Nat.min_le_right _ _
            have h4 := R9.co.len
            have : sizeLine = 16777216 := rfl
            omega
          refine ⟨rfl, _, rfl, _, rfl, z2, fun T HT nT sT cT => ⟨qa, T, act, tr, rfl, rfl, sT _ _ (sj _ _ hqa), cT, (R9.co.ok act hm).1, hnm act hm, mtr, _, rfl, ite2 (fun e => ?_) (fun e => ?_)⟩⟩
          · refine ⟨_, rfl, acc, sT _ _ dj, hlt, same_mut (sj.trans sT) nD, _, upd_same, ?_⟩
            rw [List.length_append, lj, etk, if_pos e]
            rfl
          · refine ⟨sj.trans sT, acc, sT _ _ dj, ?_⟩
            rw [lj, etk, if_neg e]
            rfl
        rintro Ha ⟨sa, acc, da, la⟩
        have hlx : xs.length = acts.length := R9.co.pa.length
        rw [hlx, List.take_length] at la
        have Ra := R9.same RF0 sa
        have ca := sa _ _ c9
        refine ⟨D, acc, rfl, .inl (SqL.of da), ?_⟩
        rw [la]
        have hc5 := hcnt tr
        generalize hcc : takesN tr acts = cnt at hc5 ⊢
        clear nD da la sa
        -- some
        refine ⟨_, rfl, (cnt : Int), rfl, by omega, by omega, fun D2 nD2 => ?_⟩
        have ec : (cnt : Int).toNat = cnt := by omega
        refine lcU_range (lo := 0) (n := (cnt : Int).toNat) (IntE wd) intE_mono 1 (m + 5) (by omega) nD2 (Ra.tp.mono (by omega)) ?_ ?_
        · intro j Hi R hj ki ti hR
          exact ⟨rfl, _, rfl, _, rfl, t, wd, _, rfl, hw1, by omega, ti, fun d Hd d0 d1 kd td => hR _ _ kd td ⟨d, rfl, d0, d1⟩⟩
        intro Hb acc2 kb tb db lb eb2
        rw [ec] at lb
        obtain ⟨ns, rfl, hns⟩ := ints_of eb2
        rw [List.length_map] at lb
        have Rb := Ra.step RF0 kb tb
        have cb := kb _ _ n8t ca
        have nD2t := tape_ne Ra.tp nD2
        have nD20 : H D2 = none := kp_none Ra.kp Ra.tp nD2
        -- longer
        refine ⟨_, rfl, _, rfl, t, 4, m + 4, rfl, by decide, by decide, tb, fun d4 Hc d40 d41 kc tc => ⟨d4, rfl, by omega, by omega, fun D3 nD3 => ?_⟩⟩
        obtain ⟨d4, rfl⟩ := Int.eq_ofNat_of_zero_le d40
        have ed : (d4 : Int).toNat = d4 := by omega
        refine lcU_range (lo := 0) (n := (d4 : Int).toNat) (IntE wd) intE_mono 1 m (by omega) nD3 (tc.mono (by omega)) ?_ ?_
        · intro j Hi R hj ki ti hR
          exact ⟨rfl, _, rfl, _, rfl, t, wd, _, rfl, hw1, by omega, ti, fun d Hd d0 d1 kd td => hR _ _ kd td ⟨d, rfl, d0, d1⟩⟩
        intro Hd acc3 kd td3 dd ld ed2
        rw [ed] at ld
        obtain ⟨zs, rfl, hzs⟩ := ints_of ed2
        rw [List.length_map] at ld
        have Rd' := (Rb.step RF0 kc tc).step RF0 kd td3
        have cd := kd _ _ n8t (kc _ _ n8t cb)
        have db3 := kd _ _ nD2t (kc _ _ nD2t db)
        refine ⟨D2, D3, _, _, rfl, rfl, db3, dd, by rw [List.length_map, List.length_map]; omega, fun Lp He ne se ce => ?_⟩
        have Re := Rd'.same RF0 se
        have ce' : He Lp = some (.lst ((ns ++ zs).map V.int)) := by rw [ce, List.map_append]
        have itn : ∀ x ∈ ns, it x := fun x hx => ⟨(hns x hx).1, by have := (hns x hx).2; omega⟩
        have itz : ∀ x ∈ zs, it x := fun x hx => ⟨(hzs x hx).1, by have := (hzs x hx).2; omega⟩
        -- into the dicts
        refine ⟨_, rfl, (cnt : Int), 0, rfl, rfl, _, rfl, ite2 (fun e => ?_) (fun e => ?_)⟩
        · refine ⟨_, rfl, _, rfl, Lp, _, rfl, .inl (SqL.of ce'), fun tl Hf sf cf => ⟨z2, fun T Hg nT sg cT => ?_⟩⟩
          have Rg := (Re.same RF0 sf).same RF0 sg
          obtain ⟨tds, as, g1, g2, g3⟩ := Rg.et
          obtain ⟨mrs, g4, g5⟩ := Rg.em
          obtain ⟨f1, f2⟩ := pu.fresh hti nnd
          have hsz : tds.length < sizeLine ∧ mrs.length < sizeLine := by
            have e1 := (ents_len g2).1
            have e2 := entsA_len (entsT_A g5)
            have e3 : ms.length = es.length := by
              have := congrArg List.length pu.ky
              rw [List.length_map, List.length_map] at this
              exact this
            have e4 : es.length ≤ 2 := by
              have h9 := pu.nd.length_le_of_subset (fun x hx => ?_ : es.map (·.1) ⊆ [n1, n2])
              · rw [List.length_map] at h9
                exact h9
              · obtain ⟨p, hp, rfl⟩ := List.mem_map.mp hx
                exact List.mem_of_mem_take (pu.sub p hp)
            have : sizeLine = 16777216 := rfl
            omega
          have g4' : (upd Hg td (.dK (putK tds (Sum.inr tr) (.ref D2)))) mr = some (.dK mrs) := by
            rw [upd_ne RF0.ne.symm]
            exact g4
          refine ⟨T, _, rfl, SqT.of cT, rfl, _, _, rfl, _, rfl, _, rfl, td, _, rfl, DPut.k (k := Sum.inr tr) g1 hsz.1, _, _, rfl, _, rfl, _, rfl, mr, _, rfl, DPut.k (k := Sum.inr tr) g4' hsz.2, rfl, es ++ [(tr, ns)], ms ++ [(tr, ns ++ zs)], _, _, _, _, rfl, Rg.put RF0 g1 g2 g3 g4 g5 (sg _ _ (sf _ _ (se _ _ db3))) nD20 (same_sqt sg cf) f1 f2, pu.add hti nnd itn itz (by rw [lb, hcc]) (by omega), ?_⟩
          have cg := sg _ _ (sf _ _ (se _ _ cd))
          rw [upd_ne (lst_ne_dk cg g4).symm, upd_ne (lst_ne_dk cg g1).symm]
          exact cg
        · have e0 : cnt = 0 := by
            rcases Nat.eq_zero_or_pos cnt with z | z
            · exact z
            · exact absurd (decide_eq_true (by omega : (0 : Int) < (cnt : Int))) e
          exact ⟨es, ms, _, _, _, _, rfl, Re, pu.skip hti (hcc.trans e0), se _ _ cd⟩
      · rintro σ H9 ⟨es, ms, y8, y9, y10, y11, rfl, RR, pu, _⟩
        exact ⟨es, ms, y8, y9, y10, y11, rfl, RR, pu⟩
    clear R7 ha7
    rintro σ H9 ⟨es, ms, y8, y9, y10, y11, rfl, R9, pu⟩
    clear hT
    have hkn : many ≤ ks.length := by omega
    have htk2 : ∀ z ∈ takes, z ∈ [n1, n2] := fun z hz => by
      rcases htk z hz with rfl | rfl
      · exact List.mem_cons_self
      · exact List.mem_cons_of_mem _ List.mem_cons_self
    obtain ⟨s', hrun, hkl⟩ := pu.runs R9.co rfl htk2 hkn
    obtain ⟨m', hrun2⟩ := runA_ext hrun pu.ex
    have hok : ∀ x ∈ acts, actOk x := fun x hx => (R9.co.ok x hx).1
    have hal : acts.length ≤ 23 := by
      have := R9.co.len
      omega
    have good1 : DS.Good ⟨[], ks, es, []⟩ := ⟨fun _ h => (nomatch h), hks, fun e he => (pu.ne e he).1⟩
    have good2 : DS.Good ⟨[], ks, ms, []⟩ := ⟨fun _ h => (nomatch h), hks, fun e he => (pu.nm e he).1⟩
    obtain ⟨gnm, gnd⟩ := run_given (M := IsNm) hrun (fun z hz => by
      rcases hgv z (R9.co.giveIn hz) with e | e
      · rw [e]; exact m3
      · rw [e]; exact m4) (fun _ h => (nomatch h)) List.nodup_nil
    obtain ⟨_, bnd⟩ := run_inv _ _ _ hrun good1 hok 0 ⟨Nat.le_refl _, Nat.le_refl _, fun e he => nomatch he⟩
    have gnm2 : ∀ e ∈ s'.given, IsNm e.1 ∧ e.2.length ≤ 100000 := fun e he => ⟨gnm e he, by have := bnd.e e he; omega⟩
    have gl64 : s'.given.length < 64 := by have := bnd.g; omega
    have kl5 : s'.kept.length ≤ 100000 := by omega
    have esub : ∀ e ∈ es, IsNm e.1 := fun e he => by
      have := List.mem_of_mem_take (pu.sub e he)
      simp only [List.mem_cons, List.not_mem_nil, or_false] at this
      rcases this with h | h
      · rw [h]; exact m1
      · rw [h]; exact m2
    have msub : ∀ e ∈ ms, IsNm e.1 := fun e he => by
      have h1 : e.1 ∈ ms.map (·.1) := List.mem_map.mpr ⟨e, he, rfl⟩
      rw [pu.ky] at h1
      obtain ⟨e', he', h2⟩ := List.mem_map.mp h1
      rw [← h2]
      exact esub e' he'
    have mnd : (ms.map (·.1)).Nodup := by rw [pu.ky]; exact pu.nd
    have el2 : es.length ≤ 2 := by
      have h9 := pu.nd.length_le_of_subset (fun x hx => ?_ : es.map (·.1) ⊆ [n1, n2])
      · rw [List.length_map] at h9
        exact h9
      · obtain ⟨p, hp, rfl⟩ := List.mem_map.mp hx
        exact List.mem_of_mem_take (pu.sub p hp)
    have ml2 : ms.length ≤ 2 := by
      have e3 : ms.length = es.length := by
        have := congrArg List.length pu.ky
        rw [List.length_map, List.length_map] at this
        exact this
      omega
    have fit := fit_shown (acts := acts) (ks := ks) (es := es) (ms := ms) (n := many) (fun x hx => ⟨hok x hx, hnm x hx, (R9.co.ok x hx).2⟩) (by omega) (by omega) hks (by omega)
      (fun e he => ⟨esub e he, (pu.ne e he).1, by have := (pu.ne e he).2; have := hcnt e.1; omega⟩) (by omega) (fun e he => ⟨msub e he, (pu.nm e he).1, by have := (pu.nm e he).2; omega⟩) (by omega)
    have fsz := fit.shown (by decide)
    have fsh := fit.sh
    have fdp : (PyData.list [.tuple (acts.map actD), .tuple (ks.map PyData.int), tkD es, mrD ms]).depth ≤ 60 := Nat.le_trans fit.dp (by decide)
    have drA : ∀ {Hx : Hp} {b : Nat} {Lr : Addr}, RI K t c pl td mr H Hx takes gives many xs acts ks b es ms → Hx Lr = some (.lst [.ref c, .ref pl, .ref td, .ref mr]) → DR K Hx (.ref Lr) (.list [.tuple (acts.map actD), .tuple (ks.map PyData.int), tkD es, mrD ms]) := fun {Hx b Lr} R hL => by
      obtain ⟨tds, as, g1, g2, g3⟩ := R.et
      obtain ⟨mrs, g4, g5⟩ := R.em
      exact .lst (SqL.of hL) (.cons (.tup R.co.sq (drs_acts R.co.pa)) (.cons (.tup R.ps (drs_ints ks)) (.cons (dr_tk g1 g2) (.cons (dr_mr g4 g5) .nil))))
    generalize hsd : PyData.list [.tuple (acts.map actD), .tuple (ks.map PyData.int), tkD es, mrD ms] = sd at fsz fsh fdp drA
    clear fit hsd
    obtain ⟨tds9, as9, g91, g92, g93⟩ := R9.et
    -- what is due, what is shown
    refine ⟨_, rfl, _, rfl, _, rfl, c, pl, td, xs, acts, ks, tds9, es, s', rfl, R9.co.sq, R9.co.paV, hok, by omega, .inr R9.ps, g91, ents_A g92, pu.nd, by omega, good1, hrun, fun du Ha sa dua => ?_⟩
    have Ra := R9.same RF0 sa
    refine ⟨_, rfl, _, rfl, _, rfl, _, rfl, (by decide : 4 ≤ 100000), fun Lb Hb nb sb cb => ⟨Lb, sd, rfl, drA (Ra.same RF0 sb) cb, fsh, fdp, fsz, z2, fun T Hc nT sc cT => ⟨T, _, rfl, SqT.of cT, rfl, _, _, rfl, _, _, rfl, rfl, ?_⟩⟩⟩
    have Rc := (Ra.same RF0 sb).same RF0 sc
    have duc := (dua.mono sb).mono sc
    clear sa dua Ra sb cb nb nT sc cT g91 g92 g93
    obtain ⟨tds, as, g1, g2, g3⟩ := Rc.et
    obtain ⟨mrs, g4, g5⟩ := Rc.em
    -- what is told
    refine ⟨_, rfl, _, rfl, _, rfl, c, pl, td, xs, acts, ks, tds, es, s', rfl, Rc.co.sq, Rc.co.paV, hok, by omega, .inr Rc.ps, g1, ents_A g2, pu.nd, by omega, good1, hrun, fun r1 Hd s1 p1 => ?_⟩
    have Rd1 := Rc.same RF0 s1
    refine ⟨_, rfl, _, rfl, _, rfl, rfl, c, pl, mr, xs, acts, ks, mrs, ms, _, rfl, Rd1.co.sq, Rd1.co.paV, hok, by omega, .inr Rd1.ps, s1 _ _ g4, entsA_mono s1 (entsT_A g5), mnd, by omega, good2, hrun2, fun r2 He s2 p2 => ⟨z2, fun Lt Hf nt st ct => ?_⟩⟩
    have s15 : Same Hc Hf := s1.trans (s2.trans st)
    obtain ⟨kt1, gd, gvs, ga, x1, x2, x3, x4, x5, x6, x7, x8, x9⟩ := p1.ex
    obtain ⟨kt2, gd2, gvs2, ga2, w1, w2, w3, w4, w5, w6, w7, w8, w9⟩ := p2.ex
    have duf := duc.mono s15
    have df1 : DueP K Hf r1 s'.kept s'.given := by
      have s2t := s2.trans st
      exact ⟨kt1, gd, gvs, s2t _ _ x5, SqT.of (s2t _ _ x6), s2t _ _ x7, ga, ents_mono x8 fun a _ o h => s2t a o h⟩
    have df2 : DueP K Hf r2 s'.kept s'.given := ⟨kt2, gd2, gvs2, st _ _ w5, SqT.of (st _ _ w6), st _ _ w7, ga2, ents_mono w8 fun a _ o h => st a o h⟩
    -- both are alike
    refine ⟨fun σ' Hx => Same Hf Hx ∧ σ' = [some (.ref t), some (.ref a), some (.ref c), some (.int (many : Int)), some (.int wd), some (.ref pl), some (.ref td), some (.ref mr), y8, y9, y10, y11, some (.ref du), some (.str sd.shown), some (.ref Lt), none, none, none], ?_, ?_⟩
    · refine ⟨_, rfl, Lt, rfl, ⟨_, SqL.of ct⟩, fun D nD => ?_⟩
      refine lc_list (K := K) (xs := [.ref r1, .ref r2]) (fun i Hx => Same Hf Hx ∧ Hx D = some (.lst (List.replicate i (.bl true)))) ⟨same_new nD, upd_same⟩ (fun i Hx _ p => SqL.of (p.1 _ _ ct)) ?_ ?_
      · rintro i x Hx hx ⟨sx, dx⟩
        have hil : i < 2 := (List.getElem?_eq_some_iff.mp hx).1
        obtain ⟨r, rfl, hr⟩ : ∃ r, x = .ref r ∧ DueP K Hf r s'.kept s'.given := by
          have := List.mem_of_getElem? hx
          simp only [List.mem_cons, List.not_mem_nil, or_false] at this
          rcases this with rfl | rfl
          · exact ⟨r1, rfl, df1⟩
          · exact ⟨r2, rfl, df2⟩
        refine ⟨rfl, _, rfl, _, rfl, r, du, s'.kept, s'.given, rfl, hr.mono sx, duf.mono sx, gnd, gnm2, gl64, kl5, fun Hy sy => ?_⟩
        refine ⟨_, sy _ _ dx, ?_, same_mut (sx.trans sy) nD, ?_⟩
        · rw [List.length_replicate]
          have : sizeLine = 16777216 := rfl
          omega
        · rw [upd_same, List.replicate_succ']
      · rintro Hx ⟨sx, dx⟩
        refine ⟨D, [true, true], rfl, .inl (.inl dx), true, rfl, iteF ⟨sx, rfl⟩⟩
    rintro σ' Hx ⟨sx, rfl⟩
    have scx : Same Hc Hx := s15.trans sx
    have x2t : Same Hd Hx := s2.trans (st.trans sx)
    have ctx := sx _ _ ct
    -- what was told is changed
    refine ⟨fun σ' Hy => Same Hc Hy ∧ Hy gd = some (.dK gvs) ∧ Hy r1 = some (.tup [.ref kt1, .ref gd]) ∧ Hy Lt = some (.lst [.ref r1, .ref r2]) ∧ ∃ z10, σ' = [some (.ref t), some (.ref a), some (.ref c), some (.int (many : Int)), some (.int wd), some (.ref pl), some (.ref td), some (.ref mr), y8, y9, z10, y11, some (.ref du), some (.str sd.shown), some (.ref Lt), none, none, none], ?_, ?_⟩
    · have gx := x2t _ _ x7
      have rx := x2t _ _ x5
      have nr : r1 ≠ gd := fun e => by rw [e, gx] at rx; cases rx
      have nL : Lt ≠ gd := fun e => by rw [e, gx] at ctx; cases ctx
      have ex8 : Ents Hx gvs s'.given ga := ents_mono x8 fun a _ o h => x2t a o h
      refine ⟨gd, .dK gvs, gx, trivial, fun od => ?_⟩
      have rl : (upd Hx gd (.frz od (.dK gvs))) r1 = some (.tup [.ref kt1, .ref gd]) := by rw [upd_ne nr]; exact rx
      have ll : (upd Hx gd (.frz od (.dK gvs))) Lt = some (.lst [.ref r1, .ref r2]) := by rw [upd_ne nL]; exact ctx
      have nLa : Lt ∉ ga := fun hm => by
        obtain ⟨l, hl⟩ := ents_lst x8 hm
        rw [s2 _ _ hl] at nt
        cases nt
      have nra : r1 ∉ ga := fun hm => by
        obtain ⟨l, hl⟩ := ents_lst x8 hm
        rw [x5] at hl
        cases hl
      have nga : gd ∉ ga := fun hm => by
        obtain ⟨l, hl⟩ := ents_lst x8 hm
        rw [x7] at hl
        cases hl
      refine ⟨_, rfl, Lt, _, 0, .ref r1, rfl, rfl, SqL.of ll, rfl, r1, _, 1, .ref gd, rfl, rfl, SqT.of rl, rfl, gd, od, gvs, rfl, upd_same, ?_⟩
      refine for_it walk_values (fun i σ' Hy => ∃ z10, σ' = [some (.ref t), some (.ref a), some (.ref c), some (.int (many : Int)), some (.int wd), some (.ref pl), some (.ref td), some (.ref mr), y8, y9, z10, y11, some (.ref du), some (.str sd.shown), some (.ref Lt), none, none, none] ∧ Hy gd = some (.frz od (.dK gvs)) ∧ (∀ b o, b ∉ ga → b ≠ gd → Hx b = some o → Hy b = some o) ∧ ∀ a ∈ ga, ∃ l, Hy a = some (.lst l) ∧ l.length ≤ 200000 + i)
        ⟨_, rfl, upd_same, fun b o _ h1 h2 => by rw [upd_ne h1]; exact h2, fun a ha => ?_⟩ (fun i σ' Hy _ ⟨_, _, h, _⟩ => h) ?_ ?_
      · obtain ⟨e, he, hl⟩ := ents_at ex8 ha
        refine ⟨_, by rw [upd_ne (fun z => nga (by rw [← z]; exact ha))]; exact hl, ?_⟩
        rw [List.length_map]
        have := (gnm2 e he).2
        omega
      · rintro i x σ' Hy Hy' hi ⟨z10, rfl, hg', hk', hl'⟩ ⟨rfl, ky, hkv⟩
        obtain ⟨b, hb, eb⟩ := ents_in x8 hkv
        dsimp only at eb
        subst eb
        obtain ⟨l, hl, hll⟩ := hl' b hb
        have nbg : b ≠ gd := fun z => nga (by rw [← z]; exact hb)
        have hgl : gvs.length < 64 := by rw [(ents_len x8).1]; exact gl64
        refine ⟨_, rfl, .inl ⟨rfl, _, SqL.of hl⟩, b, l, .int 5, rfl, rfl, hl, ?_, _, rfl, .inl ⟨rfl, _, SqL.of upd_same⟩, b, _, rfl, rfl, upd_same, _, rfl, ?_, fun d o h1 h2 h3 => ?_, fun d hd => ?_⟩
        · have : sizeLine = 16777216 := rfl
          omega
        · rw [upd_ne nbg.symm, upd_ne nbg.symm]
          exact hg'
        · have nd : d ≠ b := fun z => h1 (by rw [z]; exact hb)
          rw [upd_ne nd, upd_ne nd]
          exact hk' d o h1 h2 h3
        · by_cases z : d = b
          · subst z
            refine ⟨_, upd_same, ?_⟩
            rw [List.length_reverse, List.length_append, List.length_singleton]
            omega
          · obtain ⟨l2, hl2, hll2⟩ := hl' d hd
            exact ⟨l2, by rw [upd_ne z, upd_ne z]; exact hl2, by omega⟩
      · rintro σ' Hy ⟨z10, rfl, hg', hk', hl'⟩
        refine ⟨hg', fun b o h => ?_, upd_same, ?_, ?_, z10, rfl⟩
        · have n1 : b ≠ gd := fun z => by rw [z, x3] at h; cases h
          have n2 : b ∉ ga := fun hm => by rw [x4 b hm] at h; cases h
          rw [upd_ne n1]
          exact hk' b o n2 n1 (scx _ _ h)
        · rw [upd_ne nr]
          exact hk' _ _ nra nr rx
        · rw [upd_ne nL]
          exact hk' _ _ nLa nL ctx
    rintro σ' Hy ⟨sy, gy, ry, ly, z10, rfl⟩
    refine ⟨_, rfl, Lt, _, 0, .ref r1, rfl, rfl, SqL.of ly, rfl, r1, _, 1, .ref gd, rfl, rfl, SqT.of ry, rfl, .inr (.inr (.inl ⟨rfl, .inl ⟨_, gy⟩⟩)), gd, gvs, rfl, rfl, gy, ?_⟩
    have sz : Same Hc (upd Hy gd (.dK [])) := same_mut sy x3
    have Rz := Rc.same RF0 sz
    have duz := duc.mono sz
    obtain ⟨mrs3, v4, v5⟩ := Rz.em
    -- told again
    refine ⟨_, rfl, _, rfl, _, rfl, c, pl, mr, xs, acts, ks, mrs3, ms, _, rfl, Rz.co.sq, Rz.co.paV, hok, by omega, .inr Rz.ps, v4, entsT_A v5, mnd, by omega, good2, hrun2, fun r3 Hw sw pw => ?_⟩
    obtain ⟨kt3, gd3, gvs3, ga3, u1, u2, u3, u4, u5, u6, u7, u8, u9⟩ := pw.ex
    have df3 : DueP K Hw r3 s'.kept s'.given := ⟨kt3, gd3, gvs3, u5, SqT.of u6, u7, ga3, u8⟩
    refine ⟨_, rfl, r3, du, s'.kept, s'.given, rfl, df3, duz.mono sw, gnd, gnm2, gl64, kl5, fun Hv sv => ⟨true, rfl, iteT ?_⟩⟩
    have Rv := (Rz.same RF0 sw).same RF0 sv
    refine ⟨_, rfl, _, rfl, _, rfl, _, rfl, (by decide : 4 ≤ 100000), fun Lr Hu nu su cu => ⟨Lr, sd, rfl, drA (Rv.same RF0 su) cu, fsh, fdp, fsz, _, rfl, rfl, ?_⟩⟩
    have Ru := Rv.same RF0 su
    rw [decide_eq_true rfl]
    exact q Hu Ru.kp (Ru.tp.mono (by omega))
end
end Tw

namespace Tw
open PySem PySem.Spec PyProof.Rows L2
abbrev sTape : Stmt := topS 10
abbrev sFolded : Stmt := topS 12
theorem scTape : FnScope ["_law_script", "_law_k", "_law_cell"] ["_law_script", "_law_k"] (defScope sTape) := ⟨rfl, rfl, rfl, by decide +kernel, rfl, by decide +kernel, by decide +kernel⟩
theorem scFolded : FnScope ["_law_script", "_law_many", "_law_cells", "_law_k", "_law_cell"] ["_law_script", "_law_many"] (defScope sFolded) := ⟨rfl, rfl, rfl, by decide +kernel, rfl, by decide +kernel, by decide +kernel⟩
def spTape (K : PySem.W.Frag) : Sp := fun vs H Q _ => ∃ (a : Addr) (k : Nat) (ns : List Int), vs = [.ref a, .int (k : Int)] ∧ SqL K H a (ns.map V.int) ∧ k ≤ 100 ∧
  ∀ p H', H p = none → Same H H' → Tape H' p 1000000000000 → Q (.ref p) H'
def spFolded (K : PySem.W.Frag) : Sp := fun vs H Q _ => ∃ (a : Addr) (m : Nat) (ns : List Int), vs = [.ref a, .int (m : Int)] ∧ SqL K H a (ns.map V.int) ∧ ns.length ≤ 63 ∧ 1 ≤ ns.length ∧ 1 ≤ m ∧ m ≤ 60 ∧
  ∀ p H' (cs : List Int), H p = none → Same H H' → H' p = some (.lst (cs.map V.int)) → 1 ≤ cs.length → cs.length ≤ m → Q (.ref p) H'
section
variable {P : Program} {w : World} {K : PySem.W.Frag} {mg : Str → Option Value} {base : Heap}
theorem ok_tape {f : Addr} {fd : FuncData} {k : Nat} (g : Bl mg) (F : Fun K "_law_tape" "_law_tape" sTape f fd) : FnOk P w K mg base CX0 (k + 1) f fd ["_law_script", "_law_k"] (spTape K) := by
  refine F.ok scTape (fun vs H Q E h => ?_) (fun cdv A outer s H vs Q E hr h => ?_)
  · obtain ⟨a, k, ns, rfl, _⟩ := h
    rfl
  · obtain ⟨a, k, ns, rfl, hS, hk, q⟩ := h
    refine ⟨_, (Evl.pss_cut (ps_set (i := 2) scTape.nd rfl (Or.inl rfl) (pe_ifExp (pt_cmpR op_lt (pv 1) (pe_callB call_len_seq (by rfl) g.len PySem.boot_len (pa_cons (pv 0) pa_nil)) (nomark _)) (pe_ix ix_list (pv 0) (pv 1) (fun _ _ => rfl)) pe_int))
  (pss_one (ps_ret (pe_lst (pa_cons (pe_op op_mul (pe_callB call_abs (by rfl) g.abs boot_abs (pa_cons (pv 2) pa_nil)) (pe_callTy call_int1 (by rfl) g.int PyProof.Rows.boot_int (pa_cons (pe_cmpR op_ge (pe_callB call_abs (by rfl) g.abs boot_abs (pa_cons (pv 2) pa_nil)) (pe_op op_pow pe_int pe_int) (nomark _)) pa_nil))) (pa_cons (pe_op op_add (pe_op op_add (pe_op op_modA (pv 2) pe_int) (pe_op op_mul pe_int (pv 1))) pe_int) (pa_cons pe_int pa_nil))))))), ?_⟩
    refine Evl.q_cut (M := fun σ' H' => ∃ c : Int, σ' = [some (.ref a), some (.int (k : Int)), some (.int c)] ∧ H' = H) ?_ ?_
    · refine ⟨_, rfl, _, rfl, a, _, rfl, .inl hS, _, _, rfl, rfl, _, rfl, ite2 (fun e => ?_) (fun e => ⟨0, rfl, rfl⟩)⟩
      have hlt : k < ns.length := by
        have h1 := of_decide_eq_true e
        rw [List.length_map] at h1
        omega
      refine ⟨_, rfl, _, rfl, a, _, (k : Int), .int ns[k], rfl, rfl, hS, atI_nat (j := k) ?_, ns[k], rfl, rfl⟩
      rw [List.getElem?_map, List.getElem?_eq_getElem hlt]
      rfl
    · rintro σ' H' ⟨c, rfl, rfl⟩
      refine ⟨_, rfl, c, rfl, _, rfl, c, rfl, _, _, rfl, rfl, ⟨by decide, by decide, by decide⟩, _, _, rfl, rfl, .inr ⟨_, rfl, ?_⟩⟩
      refine ⟨_, _, rfl, rfl, .inr ?_, _, rfl, _, _, rfl, rfl, by decide, fun o ho0 ho1 _ => ?_⟩
      · by_cases hc : (10 : Int) ^ (18 : Int).toNat ≤ (if c < 0 then -c else c)
        · rw [if_pos (decide_eq_true hc)]
          exact ⟨by decide, by decide⟩
        · rw [if_neg (by rw [decide_eq_false hc]; decide)]
          exact ⟨by decide, by decide⟩
      · refine ⟨_, rfl, _, _, rfl, rfl, .inl ⟨by decide, by decide⟩, _, _, rfl, rfl, _, _, rfl, rfl, ?_, fun p np => ?_⟩
        · show 3 ≤ sizeLine
          decide
        · exact q p _ np (same_new np) ⟨_, _, _, upd_same, by omega, by omega, by omega, by omega⟩
theorem ok_folded {f : Addr} {fd : FuncData} {k : Nat} (g : Bl mg) (F : Fun K "_law_folded" "_law_folded" sFolded f fd) : FnOk P w K mg base CX0 (k + 1) f fd ["_law_script", "_law_many"] (spFolded K) := by
  refine F.ok scFolded (fun vs H Q E h => ?_) (fun cdv A outer s H vs Q E hr h => ?_)
  · obtain ⟨a, m, ns, rfl, _⟩ := h
    rfl
  · obtain ⟨a, m, ns, rfl, hS, hn, hn1, hm1, hm2, q⟩ := h
    refine ⟨_, (pss_cons (ps_set (i := 2) scFolded.nd rfl (Or.inl rfl) (pe_callTy call_list_of (by rfl) g.list PyProof.Rows.boot_list (pa_cons (pe_slice sl_list (pv 0) po_none (po_some (pv 1))) pa_nil)))
  (pss_cons (ps_for PassesOwn.never rfl (pi_enum (by rfl) g.enumerate (pa_cons (pe_slice sl_list (pv 0) (po_some (pv 1)) (po_some pe_int)) pa_nil)) (pg_tup rfl (pgs_cons (pg_name (i := 3) scFolded.nd rfl (Or.inl rfl)) (pgs_cons (pg_name (i := 4) scFolded.nd rfl (Or.inl rfl)) pgs_nil)))
    (pss_one (ps_asg (pe_op op_add (pe_ix ix_list (pv 2) (pe_op op_mod (pv 3) (pv 1)) (fun _ _ => rfl)) (pe_op op_mul (pv 4) (pe_op op_add (pv 3) pe_int))) (pg_sub (pv 2) (pe_op op_mod (pv 3) (pv 1)) set_list))))
  (pss_one (ps_ret (pv 2))))), ?_⟩
    have c1 : cutV (ns.map V.int) none (some (m : Int)) = (ns.take m).map V.int := by
      unfold cutV
      rw [HT.sIx_none, HT.sIx_nat, List.drop_zero, Nat.sub_zero, List.length_map, ← List.map_take]
      congr 1
      rcases Nat.le_total m ns.length with h | h
      · rw [Nat.min_eq_left h]
      · rw [Nat.min_eq_right h, List.take_length, List.take_of_length_le h]
    refine ⟨_, rfl, _, rfl, _, rfl, a, _, rfl, hS, fun x1 n1 => ⟨x1, _, rfl, .inl (.inl (.inl upd_same)), fun l nl => ?_⟩⟩
    have s1 : Same H (upd H x1 (.lst (cutV (ns.map V.int) none (some (m : Int))))) := same_new n1
    have s2 := s1.trans (same_new (o := .lst (cutV (ns.map V.int) none (some (m : Int)))) nl)
    have nl0 : H l = none := s1.free nl
    refine ⟨_, rfl, _, rfl, _, rfl, 63, rfl, a, _, rfl, s2.seq hS, fun x2 n2 => ?_⟩
    have s3 := s2.trans (same_new (o := .lst (cutV (ns.map V.int) (some (m : Int)) (some 63))) n2)
    have c2 : ∃ zs : List Int, cutV (ns.map V.int) (some (m : Int)) (some 63) = zs.map V.int ∧ (zs ≠ [] → m < ns.length) ∧ zs.length ≤ 63 := by
      refine ⟨(ns.drop (HT.sIx (ns.map V.int).length 0 (some (m : Int)))).take (HT.sIx (ns.map V.int).length (ns.map V.int).length (some 63) - HT.sIx (ns.map V.int).length 0 (some (m : Int))), ?_, fun h => ?_, ?_⟩
      · unfold cutV
        rw [← List.map_drop, ← List.map_take]
      · rw [HT.sIx_nat, List.length_map] at h
        rcases Nat.lt_or_ge m ns.length with h1 | h1
        · exact h1
        · rw [Nat.min_eq_right h1, List.drop_length, List.take_nil] at h
          exact absurd rfl h
      · rw [List.length_take, List.length_drop]
        omega
    obtain ⟨zs, ez, hz1, hz2⟩ := c2
    have ex2 : (upd (upd (upd H x1 (.lst (cutV (ns.map V.int) none (some (m : Int))))) l (.lst (cutV (ns.map V.int) none (some (m : Int))))) x2 (.lst (cutV (ns.map V.int) (some (m : Int)) (some 63)))) x2 = some (.lst (zs.map V.int)) := by
      rw [upd_same, ez]
    have elx : l ≠ x2 := fun e => by
      rw [e, upd_same] at n2
      cases n2
    refine ⟨x2, zs.map V.int, rfl, .inl (.inl ex2), for_it walk_enum (fun i σ H3 => ∃ (cs : List Int) (y3 y4 : Option V), σ = [some (.ref a), some (.int (m : Int)), some (.ref l), y3, y4] ∧ Same H H3 ∧ H3 x2 = some (.lst (zs.map V.int)) ∧ H3 l = some (.lst (cs.map V.int)) ∧ cs.length = min m ns.length)
      ⟨ns.take m, none, none, rfl, s3, ex2, ?_, List.length_take⟩ (fun i σ H3 _ ⟨_, _, _, _, _, h, _⟩ => .inl (.inl h)) ?_ ?_⟩
    · rw [upd_ne elx, upd_same, c1]
    · rintro i x σ H3 H4 hi ⟨cs, y3, y4, rfl, t1, t2, t3, t4⟩ ⟨T, u1, u2, rfl, nT, rfl, e1, e2⟩
      cases e1
      rw [List.length_map] at hi
      have hm : m < ns.length := hz1 (fun e => by rw [e] at hi; exact absurd hi (Nat.not_lt_zero _))
      have e3 : u2 = .int zs[i] := by
        dsimp only at e2
        rw [List.getElem?_map, List.getElem?_eq_getElem hi] at e2
        exact (Option.some.inj e2).symm
      subst e3
      have nTl : l ≠ T := ne_of_none t3 nT
      have nTx : x2 ≠ T := ne_of_none t2 nT
      have t3' : (upd H3 T (.tup [.int (i : Nat), .int zs[i]])) l = some (.lst (cs.map V.int)) := by
        rw [upd_ne nTl]
        exact t3
      have hj : ∃ j : Nat, (i : Int) % (m : Int) = (j : Int) ∧ j < cs.length := by
        refine ⟨i % m, by omega, ?_⟩
        rw [t4, Nat.min_eq_left (Nat.le_of_lt hm)]
        exact Nat.mod_lt _ hm1
      obtain ⟨j, ej, hj⟩ := hj
      refine ⟨T, _, rfl, .inl (.inl upd_same), rfl, _, _, rfl, _, _, rfl, rfl, ?_⟩
      refine ⟨_, rfl, _, rfl, _, rfl, _, _, rfl, rfl, (show (0 : Int) < (m : Int) by omega), l, cs.map V.int, (i : Int) % (m : Int), .int cs[j], rfl, rfl, .inl (.inl t3'), ?_, _, rfl, _, rfl, _, _, rfl, rfl, _, _, rfl, rfl, .inr ⟨?_, ?_⟩, _, _, rfl, rfl, ?_⟩
      · rw [ej]
        refine atI_nat ?_
        rw [List.getElem?_map, List.getElem?_eq_getElem hj]
        rfl
      · show -(2 ^ 64) < ((i : Nat) : Int) + 2
        omega
      · show ((i : Nat) : Int) + 2 < 2 ^ 64
        omega
      · refine ⟨_, rfl, _, rfl, _, rfl, _, _, rfl, rfl, (show (0 : Int) < (m : Int) by omega), l, _, (i : Int) % (m : Int), j, rfl, rfl, t3', ?_, ?_⟩
        · rw [ej, List.length_map]
          exact Evl.ixN_nat hj
        · refine ⟨cs.set j (cs[j] + zs[i] * ((i : Nat) + 2)), some (.int (i : Nat)), some (.int zs[i]), rfl, same_mut (t1.trans (same_new nT)) nl0, ?_, ?_, ?_⟩
          · rw [upd_ne elx.symm, upd_ne nTx]
            exact t2
          · rw [upd_same, List.map_set]
          · rw [List.length_set]
            exact t4
    · rintro σ H3 ⟨cs, y3, y4, rfl, t1, t2, t3, t4⟩
      exact ⟨_, rfl, q l H3 cs nl0 t1 t3 (by omega) (by omega)⟩
end
end Tw

namespace Tw
open PySem PySem.Spec PyProof.Rows L2
abbrev sSame : Stmt := topS 14
theorem scSame : FnScope ["_law_found", "_law_due_here", "_law_one", "_law_other"] ["_law_found", "_law_due_here"] (defScope sSame) := ⟨rfl, rfl, rfl, by decide +kernel, rfl, by decide +kernel, by decide +kernel⟩
section
variable {P : Program} {w : World} {K : PySem.W.Frag} {mg : Str → Option Value} {base : Heap}
theorem ok_same {f : Addr} {fd : FuncData} (g : Bl mg) (F : Fun K "_law_same" "_law_same" sSame f fd) (hm : mg "_law_same" = some (.ref f)) (hb : Binds K fd ["_law_found", "_law_due_here"] []) (n : Nat) : FnOk P w K mg base CX0 (n + 2) f fd ["_law_found", "_law_due_here"] (spSame K n) := by
  refine F.ok scSame (fun vs H Q E h => ?_) (fun cdv A outer s H vs Q E hr h => ?_)
  · obtain ⟨x, y, d, rfl, _⟩ := h
    rfl
  · -- the call of itself: one storey less
    obtain ⟨j, sp, hsp, C_law_same⟩ : ∃ (j : Nat) (sp : Sp), (∀ m, n = m + 1 → sp = spSame K m) ∧ j ≤ n + 1 ∧ Cal P w K mg base "_law_same" j ["_law_found", "_law_due_here"] sp := by
      cases n with
      | zero => exact ⟨1, fun _ _ _ _ => False, fun m e => (by omega), by omega, ⟨f, fd, ⟨fun _ _ _ _ h => h.elim, fun _ _ _ _ _ _ _ _ _ _ _ _ _ h => h.elim⟩, hm, F.kp, hb⟩⟩
      | succ m => exact ⟨m + 2, spSame K m, fun m' e => by cases e; rfl, by omega, ⟨f, fd, ok_same g F hm hb m, hm, F.kp, hb⟩⟩
    obtain ⟨hj, C_law_same⟩ := C_law_same
    obtain ⟨x, y, d, rfl, hx, hy, hd, q⟩ := h
    refine ⟨_, (pss_cons (ps_if (pt_val (pe_callB call_isiT (by rfl) g.isinstance boot_isinstance (pa_cons (pv 1) (pa_cons (pe_tup (pa_cons (pe_bltn (v := .ty "list") rfl g.list PyProof.Rows.boot_list rfl) (pa_cons (pe_bltn (v := .ty "tuple") rfl g.tuple PyProof.Rows.boot_tuple rfl) pa_nil))) pa_nil))))
    (pss_cons (ps_if (PW.pt (pw_or (pt_cmpR op_ne (pe_callB call_isi (by rfl) g.isinstance boot_isinstance (pa_cons (pv 0) (pa_cons (pe_bltn (v := .ty "list") rfl g.list PyProof.Rows.boot_list rfl) pa_nil))) (pe_callB call_isi (by rfl) g.isinstance boot_isinstance (pa_cons (pv 1) (pa_cons (pe_bltn (v := .ty "list") rfl g.list PyProof.Rows.boot_list rfl) pa_nil))) (nomark _)) (pw_or1 (pt_cmpR op_ne (pe_callB call_isi (by rfl) g.isinstance boot_isinstance (pa_cons (pv 0) (pa_cons (pe_bltn (v := .ty "tuple") rfl g.tuple PyProof.Rows.boot_tuple rfl) pa_nil))) (pe_callB call_isi (by rfl) g.isinstance boot_isinstance (pa_cons (pv 1) (pa_cons (pe_bltn (v := .ty "tuple") rfl g.tuple PyProof.Rows.boot_tuple rfl) pa_nil))) (nomark _)))))
      (pss_one (ps_ret pe_bl))
      pss_nil)
    (pss_one (ps_ret (pe_and (pe_cmpR op_eq (pe_callB call_len_seq (by rfl) g.len PySem.boot_len (pa_cons (pv 0) pa_nil)) (pe_callB call_len_seq (by rfl) g.len PySem.boot_len (pa_cons (pv 1) pa_nil)) (nomark _)) (pe_one (pe_callB (cr_all rfl) (by rfl) g.all boot_all (pa_cons (pe_lc (own := [("_law_one", 2), ("_law_other", 3)]) (g := gTup K 2 (gCons (gName 2) (gCons (gName 3) gNil))) (tt := tYes) rfl scSame.nd (RZ.pi_zipA (by rfl) g.zip (pa_cons (pv 0) (pa_cons (pv 1) pa_nil))) (blkOk_by (own := [("_law_one", 2), ("_law_other", 3)]) (N := ["_law_found", "_law_due_here", "_law_one", "_law_other"]) (sc := defScope sSame) (by decide +kernel)) (fun _ _ _ _ _ => (pg_tup rfl (pgs_cons (pg_name (i := 2) scSame.nd rfl (Or.inl rfl)) (pgs_cons (pg_name (i := 3) scSame.nd rfl (Or.inl rfl)) pgs_nil)))) (fun _ _ _ _ _ => pts_nil) (fun _ _ _ _ _ => (pe_c C_law_same hr hj (ha := (pa_cons (pv 2) (pa_cons (pv 3) pa_nil)))))) pa_nil)))))))
    pss_nil)
  (pss_cons (ps_if (PW.pt (pw_or (pt_cmpR op_isN (pv 1) pe_non (nomark _)) (pw_or1 (pt_val (pe_callB call_isiT (by rfl) g.isinstance boot_isinstance (pa_cons (pv 1) (pa_cons (pe_tup (pa_cons (pe_bltn (v := .ty "str") rfl g.str PyProof.Rows.boot_str rfl) (pa_cons (pe_bltn (v := .ty "bool") rfl g.bool PyProof.Rows.boot_bool rfl) pa_nil))) pa_nil)))))))
    (pss_one (ps_ret (pe_and (pe_cmpR op_eq (pe_callB call_isi (by rfl) g.isinstance boot_isinstance (pa_cons (pv 0) (pa_cons (pe_bltn (v := .ty "bool") rfl g.bool PyProof.Rows.boot_bool rfl) pa_nil))) (pe_callB call_isi (by rfl) g.isinstance boot_isinstance (pa_cons (pv 1) (pa_cons (pe_bltn (v := .ty "bool") rfl g.bool PyProof.Rows.boot_bool rfl) pa_nil))) (nomark _)) (pe_one (pe_cmpR op_eq (pv 0) (pv 1) (nomark _))))))
    pss_nil)
  (pss_one (ps_ret (pe_and (pe_callB call_isi (by rfl) g.isinstance boot_isinstance (pa_cons (pv 0) (pa_cons (pe_bltn (v := .ty "int") rfl g.int PyProof.Rows.boot_int rfl) pa_nil))) (pe_and (pe_not (pe_callB call_isi (by rfl) g.isinstance boot_isinstance (pa_cons (pv 0) (pa_cons (pe_bltn (v := .ty "bool") rfl g.bool PyProof.Rows.boot_bool rfl) pa_nil)))) (pe_one (pe_cmpR op_eq (pv 0) (pv 1) (nomark _))))))))), ?_⟩
    have h2 : 2 ≤ sizeLine := by decide
    cases hy with
    | non =>
      cases hx
      refine ⟨_, rfl, h2, fun tp np => ⟨_, tp, _, _, [.type "list", .type "tuple"], false, rfl, upd_same, .cons (.ty _) (.cons (.ty _) .nil), .base .non, any2 (x := false) (y := false) (by decide +kernel) (by decide +kernel), _, rfl, iteF ?_⟩⟩
      refine ⟨_, rfl, rfl, _, rfl, iteT (iteT ?_)⟩
      refine ⟨_, rfl, _, _, _, _, false, rfl, .ty _, .base .non, kit_ty (by decide +kernel), _, rfl, _, _, _, _, false, rfl, .ty _, .base .non, kit_ty (by decide +kernel), rfl, _, rfl, iteT ?_⟩
      exact ⟨_, rfl, _, rfl, rfl, q _ (same_new np)⟩
    | bl b =>
      cases hx
      refine ⟨_, rfl, h2, fun tp np => ⟨_, tp, _, _, [.type "list", .type "tuple"], false, rfl, upd_same, .cons (.ty _) (.cons (.ty _) .nil), .base (.bl b), any2 (x := false) (y := false) (by decide +kernel) (by decide +kernel), _, rfl, iteF ?_⟩⟩
      refine ⟨_, rfl, rfl, _, rfl, iteF ?_⟩
      refine ⟨_, rfl, h2, fun tq nq => ⟨_, tq, _, _, [.type "str", .type "bool"], true, rfl, upd_same, .cons (.ty _) (.cons (.ty _) .nil), .base (.bl b), any2 (x := false) (y := true) (by decide +kernel) (by decide +kernel), _, rfl, iteT ?_⟩⟩
      refine ⟨_, rfl, _, _, _, _, true, rfl, .ty _, .base (.bl b), kit_ty (by decide +kernel), _, rfl, _, _, _, _, true, rfl, .ty _, .base (.bl b), kit_ty (by decide +kernel), rfl, _, rfl, iteT ?_⟩
      refine ⟨_, rfl, _, rfl, rfl, ?_⟩
      rw [decide_eq_true rfl]
      exact q _ ((same_new np).trans (same_new nq))
    | int i =>
      cases hx
      refine ⟨_, rfl, h2, fun tp np => ⟨_, tp, _, _, [.type "list", .type "tuple"], false, rfl, upd_same, .cons (.ty _) (.cons (.ty _) .nil), .base (.int i), any2 (x := false) (y := false) (by decide +kernel) (by decide +kernel), _, rfl, iteF ?_⟩⟩
      refine ⟨_, rfl, rfl, _, rfl, iteF ?_⟩
      refine ⟨_, rfl, h2, fun tq nq => ⟨_, tq, _, _, [.type "str", .type "bool"], false, rfl, upd_same, .cons (.ty _) (.cons (.ty _) .nil), .base (.int i), any2 (x := false) (y := false) (by decide +kernel) (by decide +kernel), _, rfl, iteF ?_⟩⟩
      refine ⟨_, rfl, _, _, _, _, true, rfl, .ty _, .base (.int i), kit_ty (by decide +kernel), _, rfl, iteT ?_⟩
      refine ⟨_, rfl, _, _, _, _, false, rfl, .ty _, .base (.int i), kit_ty (by decide +kernel), _, rfl, _, rfl, iteT ?_⟩
      refine ⟨_, rfl, _, rfl, rfl, ?_⟩
      rw [decide_eq_true rfl]
      exact q _ ((same_new np).trans (same_new nq))
    | str z =>
      cases hx
      refine ⟨_, rfl, h2, fun tp np => ⟨_, tp, _, _, [.type "list", .type "tuple"], false, rfl, upd_same, .cons (.ty _) (.cons (.ty _) .nil), .base (.str z), any2 (x := false) (y := false) (by decide +kernel) (by decide +kernel), _, rfl, iteF ?_⟩⟩
      refine ⟨_, rfl, rfl, _, rfl, iteF ?_⟩
      refine ⟨_, rfl, h2, fun tq nq => ⟨_, tq, _, _, [.type "str", .type "bool"], true, rfl, upd_same, .cons (.ty _) (.cons (.ty _) .nil), .base (.str z), any2 (x := true) (y := false) (by decide +kernel) (by decide +kernel), _, rfl, iteT ?_⟩⟩
      refine ⟨_, rfl, _, _, _, _, false, rfl, .ty _, .base (.str z), kit_ty (by decide +kernel), _, rfl, _, _, _, _, false, rfl, .ty _, .base (.str z), kit_ty (by decide +kernel), rfl, _, rfl, iteT ?_⟩
      refine ⟨_, rfl, _, rfl, rfl, ?_⟩
      rw [decide_eq_true rfl]
      exact q _ ((same_new np).trans (same_new nq))
    | @lst b ys ds hb' ay =>
      cases hx with
      | @lst a xs _ ha' ax =>
      cases n with
      | zero => exact hd.elim
      | succ m =>
      cases hsp m rfl
      obtain ⟨hz, hds⟩ := hd
      have hl : xs.length = ys.length := (dpa_len ax).trans (dpa_len ay).symm
      refine ⟨_, rfl, h2, fun tp np => ⟨_, tp, _, _, [.type "list", .type "tuple"], true, rfl, upd_same, .cons (.ty _) (.cons (.ty _) .nil), sqL_ty ((same_new np).seq hb'), any2 (x := true) (y := false) (by decide +kernel) (by decide +kernel), _, rfl, iteT ?_⟩⟩
      have s1 : Same H (upd H tp (.tup [.ty "list", .ty "tuple"])) := same_new np
      refine ⟨_, rfl, _, _, _, _, true, rfl, .ty _, sqL_ty (s1.seq ha'), kit_ty (by decide +kernel), _, rfl, _, _, _, _, true, rfl, .ty _, sqL_ty (s1.seq hb'), kit_ty (by decide +kernel), rfl, _, rfl, iteNS rfl ?_⟩
      refine ⟨_, rfl, _, _, _, _, false, rfl, .ty _, sqL_ty (s1.seq ha'), kit_ty (by decide +kernel), _, rfl, _, _, _, _, false, rfl, .ty _, sqL_ty (s1.seq hb'), kit_ty (by decide +kernel), rfl, _, rfl, iteNS rfl ?_⟩
      refine ⟨_, rfl, a, xs, rfl, .inl (s1.seq ha'), _, rfl, b, ys, rfl, .inl (s1.seq hb'), rfl, _, rfl, ite2 (fun _ => ?_) (fun e => absurd (decide_eq_true (by rw [hl])) e)⟩
      refine ⟨_, rfl, _, rfl, a, b, xs, ys, rfl, .inl ⟨s1.seq ha', s1.seq hb', fun D nD => ?_⟩⟩
      refine lc_zipL hl (fun i H3 => Same H H3 ∧ H3 D = some (.lst (List.replicate i (.bl true))) ∧ H D = none) ⟨s1.trans (same_new nD), upd_same, s1.free nD⟩ (fun i H3 p => ⟨p.1.seq ha', p.1.seq hb'⟩) (fun i x y T H3 hx' hy' p nT => ?_) (fun H3 p => ?_)
      · obtain ⟨p1, p2, p3⟩ := p
        obtain ⟨d1, e1, f1⟩ := dpa_get ax hx'
        obtain ⟨d2, e2, f2⟩ := dpa_get ay hy'
        rw [e1] at e2
        cases e2
        have hi : i < xs.length := (List.getElem?_eq_some_iff.mp hx').1
        have s3 : Same H (upd H3 T (.tup [x, y])) := p1.trans (same_new nT)
        refine ⟨T, [x, y], rfl, .inl (.inl upd_same), rfl, x, [y], rfl, y, [], rfl, rfl, rfl, ?_⟩
        refine ⟨_, rfl, _, rfl, x, y, d1, rfl, dp_mono s3 f1, dp_mono s3 f2, hds _ (List.mem_of_getElem? e1), fun H5 s5 => ?_⟩
        refine ⟨List.replicate i (.bl true), s5 _ _ ((same_new nT) _ _ p2), ?_, same_mut (s3.trans s5) p3, ?_, p3⟩
        · rw [List.length_replicate]
          have : sizeLine = 16777216 := rfl
          have := dpa_len ax
          omega
        · rw [upd_same, List.replicate_succ']
      · obtain ⟨p1, p2, p3⟩ := p
        refine ⟨D, List.replicate xs.length true, rfl, ?_, ?_⟩
        · refine .inl (.inl ?_)
          rw [p2, List.map_replicate]
        · have e : (List.replicate xs.length true).all id = true := by
            rw [List.all_eq_true]
            intro b hb
            exact (List.mem_replicate.mp hb).2
          rw [e]
          exact q _ p1
    | @tup b ys ds hb' ay =>
      cases hx with
      | @tup a xs _ ha' ax =>
      cases n with
      | zero => exact hd.elim
      | succ m =>
      cases hsp m rfl
      obtain ⟨hz, hds⟩ := hd
      have hl : xs.length = ys.length := (dpa_len ax).trans (dpa_len ay).symm
      refine ⟨_, rfl, h2, fun tp np => ⟨_, tp, _, _, [.type "list", .type "tuple"], true, rfl, upd_same, .cons (.ty _) (.cons (.ty _) .nil), sqT_ty (same_sqt (same_new np) hb'), any2 (x := false) (y := true) (by decide +kernel) (by decide +kernel), _, rfl, iteT ?_⟩⟩
      have s1 : Same H (upd H tp (.tup [.ty "list", .ty "tuple"])) := same_new np
      refine ⟨_, rfl, _, _, _, _, false, rfl, .ty _, sqT_ty (same_sqt s1 ha'), kit_ty (by decide +kernel), _, rfl, _, _, _, _, false, rfl, .ty _, sqT_ty (same_sqt s1 hb'), kit_ty (by decide +kernel), rfl, _, rfl, iteNS rfl ?_⟩
      refine ⟨_, rfl, _, _, _, _, true, rfl, .ty _, sqT_ty (same_sqt s1 ha'), kit_ty (by decide +kernel), _, rfl, _, _, _, _, true, rfl, .ty _, sqT_ty (same_sqt s1 hb'), kit_ty (by decide +kernel), rfl, _, rfl, iteNS rfl ?_⟩
      refine ⟨_, rfl, a, xs, rfl, .inr (same_sqt s1 ha'), _, rfl, b, ys, rfl, .inr (same_sqt s1 hb'), rfl, _, rfl, ite2 (fun _ => ?_) (fun e => absurd (decide_eq_true (by rw [hl])) e)⟩
      refine ⟨_, rfl, _, rfl, a, b, xs, ys, rfl, .inr ⟨same_sqt s1 ha', same_sqt s1 hb', fun D nD => ?_⟩⟩
      refine lc_zipT hl (fun i H3 => Same H H3 ∧ H3 D = some (.lst (List.replicate i (.bl true))) ∧ H D = none) ⟨s1.trans (same_new nD), upd_same, s1.free nD⟩ (fun i H3 p => ⟨same_sqt p.1 ha', same_sqt p.1 hb'⟩) (fun i x y T H3 hx' hy' p nT => ?_) (fun H3 p => ?_)
      · obtain ⟨p1, p2, p3⟩ := p
        obtain ⟨d1, e1, f1⟩ := dpa_get ax hx'
        obtain ⟨d2, e2, f2⟩ := dpa_get ay hy'
        rw [e1] at e2
        cases e2
        have hi : i < xs.length := (List.getElem?_eq_some_iff.mp hx').1
        have s3 : Same H (upd H3 T (.tup [x, y])) := p1.trans (same_new nT)
        refine ⟨T, [x, y], rfl, .inl (.inl upd_same), rfl, x, [y], rfl, y, [], rfl, rfl, rfl, ?_⟩
        refine ⟨_, rfl, _, rfl, x, y, d1, rfl, dp_mono s3 f1, dp_mono s3 f2, hds _ (List.mem_of_getElem? e1), fun H5 s5 => ?_⟩
        refine ⟨List.replicate i (.bl true), s5 _ _ ((same_new nT) _ _ p2), ?_, same_mut (s3.trans s5) p3, ?_, p3⟩
        · rw [List.length_replicate]
          have : sizeLine = 16777216 := rfl
          have := dpa_len ax
          omega
        · rw [upd_same, List.replicate_succ']
      · obtain ⟨p1, p2, p3⟩ := p
        refine ⟨D, List.replicate xs.length true, rfl, ?_, ?_⟩
        · refine .inl (.inl ?_)
          rw [p2, List.map_replicate]
        · have e : (List.replicate xs.length true).all id = true := by
            rw [List.all_eq_true]
            intro b hb
            exact (List.mem_replicate.mp hb).2
          rw [e]
          exact q _ p1
termination_by n
end
end Tw

/-! the law -/
namespace Tw
open PySem PySem.Spec PyProof.Rows L2
theorem scLaw : FnScope ["_law_script", "_law_cells", "_law_k", "_law_tape_here", "_law_names_here", "_law_turn"] ["_law_script"] (defScope (topS 23)) := ⟨rfl, rfl, rfl, by decide +kernel, rfl, by decide +kernel, by decide +kernel⟩
def spLaw (K : PySem.W.Frag) : Sp := fun vs H Q _ => ∃ (a : Addr) (ns : List Int), vs = [.ref a] ∧ SqL K H a (ns.map V.int) ∧ ns.length ≤ 63 ∧ ∀ H', Q (.bl true) H'
theorem can_ints : ∀ ns : List Int, PyData.canLayAll0 (ns.map PyData.int) = true ∧ PyData.depthAll (ns.map PyData.int) = 0
  | [] => ⟨rfl, rfl⟩
  | n :: r => by
    obtain ⟨h1, h2⟩ := can_ints r
    refine ⟨?_, ?_⟩
    · show (true && PyData.canLayAll0 (r.map PyData.int)) = true
      rw [h1]
      rfl
    · show max 0 (PyData.depthAll (r.map PyData.int)) = 0
      rw [h2]
      rfl
theorem shaped_ints (ns : List Int) : SeqAt.shaped (.list (ns.map PyData.int)) = true := by
  obtain ⟨h1, h2⟩ := can_ints ns
  show (PyData.canLayAll0 (ns.map PyData.int) && decide (PyData.depthAll (ns.map PyData.int) + 1 ≤ 64)) = true
  rw [h1, h2]
  rfl
def TrueE (_ : Hp) (v : V) : Prop := v = .bl true
theorem trueE_mono : ∀ H H' v, KpT H H' → TrueE H v → TrueE H' v := fun _ _ _ _ h => h
theorem trues_of {H : Hp} {acc : List V} {n : Nat} (hl : acc.length = n) (h : ∀ v ∈ acc, TrueE H v) : acc = (List.replicate n true).map V.bl := by
  rw [List.map_replicate]
  exact List.eq_replicate_iff.mpr ⟨hl, h⟩
theorem all_true (n : Nat) : (List.replicate n true).all id = true := by
  rw [List.all_eq_true]
  intro b hb
  exact (List.mem_replicate.mp hb).2
section
variable {P : Program} {w : World} {K : PySem.W.Frag} {mg : Str → Option Value} {base : Heap}
theorem ok_law {f : Addr} {fd : FuncData} {k k1 k2 k3 k4 : Nat} (g : Bl mg) (C_law_tape : Cal P w K mg base "_law_tape" k1 ["_law_script", "_law_k"] (spTape K)) (C_law_folded : Cal P w K mg base "_law_folded" k2 ["_law_script", "_law_many"] (spFolded K)) (C_law_names : Cal P w K mg base "_law_names" k3 ["_law_tape_here", "_law_many"] spNames) (C_law_right : CalG P w K mg base "_law_right" k4 ["_law_tape_here", "_law_names_here"] spRight)
    (h1 : k1 ≤ k) (h2 : k2 ≤ k) (h3 : k3 ≤ k) (h4 : k4 ≤ k) (F : Fun K "law" "law" (topS 23) f fd) : FnOkG P w K mg base (k + 1) f fd ["_law_script"] (spLaw K) := by
  refine okG F scLaw (fun vs H Q E h => ?_) (fun cdv A outer s H vs Q E hr hg h => ?_)
  · obtain ⟨a, ns, rfl, _⟩ := h
    rfl
  · obtain ⟨a, ns, rfl, hS, hlen, q⟩ := h
    refine ⟨_, (pss_cons (ps_set (i := 1) scLaw.nd rfl (Or.inl rfl) (pe_cut (pe_ifExp (pt_cmpR (op_neD hr.units) (pv 0) (pe_lstU pa_nil) (nomark _)) (pe_c C_law_folded hr h2 (ha := (pa_cons (pv 0) (pa_cons pe_int pa_nil)))) (pe_lstU (pa_cons pe_int pa_nil)))))
      (pss_cons (ps_for PassesOwn.never rfl (pi_range1 (by rfl) g.range (pa_cons (pe_callB (call_len' K) (by rfl) g.len PySem.boot_len (pa_cons (pv 1) pa_nil)) pa_nil)) (pg_name (i := 2) scLaw.nd rfl (Or.inl rfl))
        (pss_cons (ps_set (i := 3) scLaw.nd rfl (Or.inr rfl) (pe_c C_law_tape hr h1 (ha := (pa_cons (pv 1) (pa_cons (pv 2) pa_nil)))))
        (pss_cons (ps_set (i := 4) scLaw.nd rfl (Or.inr rfl) (pe_c C_law_names hr h3 (ha := (pa_cons (pv 3) (pa_cons pe_int pa_nil)))))
        (pss_one (ps_if (pt_not (pt_val (pe_callB (cr_all' K rfl) (by rfl) g.all boot_all (pa_cons (pe_lc (own := [("_law_turn", 5)]) (g := (gName 5)) (tt := tYes) rfl scLaw.nd (pi_range1 (by rfl) g.range (pa_cons pe_int pa_nil)) (blkOk_by (own := [("_law_turn", 5)]) (N := ["_law_script", "_law_cells", "_law_k", "_law_tape_here", "_law_names_here", "_law_turn"]) (sc := defScope (topS 23)) (by decide +kernel)) (fun _ _ _ _ _ => (pg_name (i := 5) scLaw.nd rfl (Or.inl rfl))) (fun _ _ _ _ _ => pts_nil) (fun _ _ _ _ _ => (pe_cg C_law_right hr hg h4 (ha := (pa_cons (pv 3) (pa_cons (pv 4) pa_nil)))))) pa_nil))))
          (pss_one (ps_ret pe_bl))
          pss_nil)))))
      (pss_one (ps_ret pe_bl)))), ?_⟩
    have z1 : 1 ≤ 100000 := by decide
    -- cells
    refine ⟨fun v H' => ∃ cl cs, v = .ref cl ∧ H' cl = some (.lst (List.map V.int cs)) ∧ 1 ≤ cs.length ∧ cs.length ≤ 4, ?_, ?_⟩
    · refine ⟨_, rfl, Nat.zero_le _, fun e0 H1 _ s1 c1 => ?_⟩
      refine ⟨.list (ns.map PyData.int), .list [], .lst (s1.seq hS) (dpa_ints ns), .lst (SqL.of c1) .nil, shaped_ints ns, rfl, _, rfl, ?_⟩
      cases ns with
      | nil =>
        refine iteF ?_
        exact ⟨z1, fun cl H2 _ s2 c2 => ⟨cl, [0], rfl, c2, by decide, by decide⟩⟩
      | cons n r =>
        refine iteT ?_
        refine ⟨_, rfl, a, 4, n :: r, rfl, s1.seq hS, hlen, Nat.succ_pos _, by decide, by decide, fun p H2 cs _ s2 c2 h1 h2 => ⟨p, cs, rfl, c2, h1, h2⟩⟩
    rintro v H1 ⟨cl, cs, rfl, hcl, hc1, hc4⟩
    refine ⟨_, rfl, cl, _, rfl, .inl (SqL.of hcl), _, rfl, ?_, ?_, for_range (lo := 0) (n := (((cs.map V.int).length : Nat) : Int).toNat) (fun i σ H2 => ∃ y2 y3 y4, σ = [some (.ref a), some (.ref cl), y2, y3, y4, none] ∧ H2 cl = some (.lst (cs.map V.int))) ⟨none, none, none, rfl, hcl⟩ ?_ ?_⟩
    · rw [List.length_map]
      omega
    · rw [List.length_map]
      omega
    · rintro i σ H2 hi ⟨y2, y3, y4, rfl, hcl2⟩
      have hi4 : i < 4 := by
        rw [List.length_map] at hi
        omega
      rw [Int.zero_add]
      refine ⟨_, rfl, _, rfl, cl, i, cs, rfl, SqL.of hcl2, by omega, fun t H3 nt s3 hT => ?_⟩
      have htc : cl ≠ t := ne_of_none hcl2 nt
      have hcl3 := s3 _ _ hcl2
      refine ⟨_, rfl, t, 4, 3000, rfl, by decide, hT.mono (by decide), fun an H4 nm na k4 t4 c4 l4 nd4 in4 => ?_⟩
      have hcl4 := k4 _ _ htc hcl3
      obtain ⟨n1, n2, n3, n4, rfl⟩ : ∃ n1 n2 n3 n4, nm = [n1, n2, n3, n4] := by
        match nm, l4 with
        | [n1, n2, n3, n4], _ => exact ⟨n1, n2, n3, n4, rfl⟩
      have hne : n1 ≠ n2 := fun e => (List.nodup_cons.mp nd4).1 (by rw [e]; exact List.mem_cons_self)
      have hat : an ≠ t := strs_ne t4 c4
      refine ⟨12, rfl, by decide, by decide, fun D nD => ?_⟩
      refine lcU_range (lo := 0) (n := (12 : Int).toNat) TrueE trueE_mono 200 600 (by decide) nD (t4.mono (by decide)) ?_ ?_
      · intro j Hi R hj ki ti hR
        exact ⟨rfl, _, rfl, _, rfl, t, an, n1, n2, n3, n4, _, rfl, ki _ _ hat c4, ⟨in4 n1 (by simp), in4 n2 (by simp), in4 n3 (by simp), in4 n4 (by simp)⟩, hne, ti, fun Hj kj tj => hR _ _ kj tj rfl⟩
      intro H5 acc k5 t5 c5 l5 e5
      have ea := trues_of l5 e5
      rw [ea] at c5
      exact ⟨D, List.replicate _ true, rfl, .inl (.inl c5), true, congrArg V.bl (all_true _), iteF ⟨_, _, _, rfl, k5 _ _ htc hcl4⟩⟩
    · rintro σ H2 ⟨y2, y3, y4, rfl, _⟩
      exact q _
end
end Tw

/-! what the top has written, and the end -/
namespace Tw
open PySem PySem.Spec PyProof.Rows L2
theorem gP3_rel {zs : List V} {ws : List Value} (h : Vals zs ws) : Vals (gP3 zs) (gP3 ws) := by
  match zs, ws, h with
  | [], _, .nil => exact .nil
  | [_], _, .cons _ .nil => exact .nil
  | [_, _], _, .cons _ (.cons _ .nil) => exact .nil
  | [_, _, _], _, .cons a (.cons b (.cons c .nil)) => exact .cons b (.cons c (.cons a .nil))
  | _ :: _ :: _ :: _ :: _, _, .cons _ (.cons _ (.cons _ (.cons _ _))) => exact .nil
theorem all_mk {l : PySem.W.OpenLaw} {w : World} {K : PySem.W.Frag} {h : Heap} {mg : Str → Option Value} {fa : Addr} (X : K.In h) (G : h.Ns mainGlobals mg) (hfa : mg "law" = some (.ref fa))
    {f0 : Addr} {od0 an0 : Option Addr} {sl0 : Array (Option Value)} {oc0 kV0 dc0 pm0 cd0 ct0 : Value}
    {f1 : Addr} {od1 an1 : Option Addr} {sl1 : Array (Option Value)} {oc1 kV1 dc1 pm1 cd1 ct1 : Value}
    {f2 : Addr} {od2 an2 : Option Addr} {sl2 : Array (Option Value)} {oc2 kV2 dc2 pm2 cd2 ct2 : Value}
    {f3 : Addr} {od3 an3 : Option Addr} {sl3 : Array (Option Value)} {oc3 kV3 dc3 pm3 cd3 ct3 : Value}
    {f4 : Addr} {od4 an4 : Option Addr} {sl4 : Array (Option Value)} {oc4 kV4 dc4 pm4 cd4 ct4 : Value}
    {f5 : Addr} {od5 an5 : Option Addr} {sl5 : Array (Option Value)} {oc5 kV5 dc5 pm5 cd5 ct5 : Value}
    {f6 : Addr} {od6 an6 : Option Addr} {sl6 : Array (Option Value)} {oc6 kV6 dc6 pm6 cd6 ct6 : Value}
    {f7 : Addr} {od7 an7 : Option Addr} {sl7 : Array (Option Value)} {oc7 kV7 dc7 pm7 cd7 ct7 : Value}
    {f8 : Addr} {od8 an8 : Option Addr} {sl8 : Array (Option Value)} {oc8 kV8 dc8 pm8 cd8 ct8 : Value}
    {f9 : Addr} {od9 an9 : Option Addr} {sl9 : Array (Option Value)} {oc9 kV9 dc9 pm9 cd9 ct9 : Value}
    {f10 : Addr} {od10 an10 : Option Addr} {sl10 : Array (Option Value)} {oc10 kV10 dc10 pm10 cd10 ct10 : Value}
    {f11 : Addr} {od11 an11 : Option Addr} {sl11 : Array (Option Value)} {oc11 kV11 dc11 pm11 cd11 ct11 : Value}
    {f12 : Addr} {od12 an12 : Option Addr} {sl12 : Array (Option Value)} {oc12 kV12 dc12 pm12 cd12 ct12 : Value}
    {f13 : Addr} {od13 an13 : Option Addr} {sl13 : Array (Option Value)} {oc13 kV13 dc13 pm13 cd13 ct13 : Value}
    {f14 : Addr} {od14 an14 : Option Addr} {sl14 : Array (Option Value)} {oc14 kV14 dc14 pm14 cd14 ct14 : Value}
    {f15 : Addr} {od15 an15 : Option Addr} {sl15 : Array (Option Value)} {oc15 kV15 dc15 pm15 cd15 ct15 : Value}
    {C0 : Addr}
    {mf0_0 : Addr} {mod0_0 man0_0 : Option Addr} {msl0_0 : Array (Option Value)} {moc0_0 mkV0_0 mdc0_0 mpm0_0 mcd0_0 mct0_0 : Value}
    {mf0_1 : Addr} {mod0_1 man0_1 : Option Addr} {msl0_1 : Array (Option Value)} {moc0_1 mkV0_1 mdc0_1 mpm0_1 mcd0_1 mct0_1 : Value}
    {mf0_2 : Addr} {mod0_2 man0_2 : Option Addr} {msl0_2 : Array (Option Value)} {moc0_2 mkV0_2 mdc0_2 mpm0_2 mcd0_2 mct0_2 : Value}
    {mf0_3 : Addr} {mod0_3 man0_3 : Option Addr} {msl0_3 : Array (Option Value)} {moc0_3 mkV0_3 mdc0_3 mpm0_3 mcd0_3 mct0_3 : Value}
    {mf0_4 : Addr} {mod0_4 man0_4 : Option Addr} {msl0_4 : Array (Option Value)} {moc0_4 mkV0_4 mdc0_4 mpm0_4 mcd0_4 mct0_4 : Value}
    {mf0_5 : Addr} {mod0_5 man0_5 : Option Addr} {msl0_5 : Array (Option Value)} {moc0_5 mkV0_5 mdc0_5 mpm0_5 mcd0_5 mct0_5 : Value}
    {tk0 : Tok}
    {tk1 : Tok}
    {tk2 : Tok}
    {tk3 : Tok}
    {tk4 : Tok}
    (a0 : PySem.W.nsIn K mainGlobals "reckoned" = some (some (.ref f0))) (l0 : K.lookup f0 = some ⟨oc0, od0, .func (PySem.W.fnOf "reckoned" "reckoned" (defArgs sReckoned) (defBody sReckoned) (defScope sReckoned) .none kV0 dc0 pm0 an0 cd0 ct0), sl0⟩) (c0 : PySem.W.codeIn K cd0 "reckoned" = true) (k0 : PySem.W.keepIn K (.ref f0) = true)
    (a1 : PySem.W.nsIn K mainGlobals "done_by" = some (some (.ref f1))) (l1 : K.lookup f1 = some ⟨oc1, od1, .func (PySem.W.fnOf "done_by" "done_by" (defArgs sDoneBy) (defBody sDoneBy) (defScope sDoneBy) .none kV1 dc1 pm1 an1 cd1 ct1), sl1⟩) (c1 : PySem.W.codeIn K cd1 "done_by" = true) (k1 : PySem.W.keepIn K (.ref f1) = true)
    (a2 : PySem.W.nsIn K mainGlobals "_law_tape" = some (some (.ref f2))) (l2 : K.lookup f2 = some ⟨oc2, od2, .func (PySem.W.fnOf "_law_tape" "_law_tape" (defArgs sTape) (defBody sTape) (defScope sTape) .none kV2 dc2 pm2 an2 cd2 ct2), sl2⟩) (c2 : PySem.W.codeIn K cd2 "_law_tape" = true) (k2 : PySem.W.keepIn K (.ref f2) = true)
    (a3 : PySem.W.nsIn K mainGlobals "_law_draw" = some (some (.ref f3))) (l3 : K.lookup f3 = some ⟨oc3, od3, .func (PySem.W.fnOf "_law_draw" "_law_draw" (defArgs sDraw) (defBody sDraw) (defScope sDraw) .none kV3 dc3 pm3 an3 cd3 ct3), sl3⟩) (c3 : PySem.W.codeIn K cd3 "_law_draw" = true) (k3 : PySem.W.keepIn K (.ref f3) = true)
    (a4 : PySem.W.nsIn K mainGlobals "_law_folded" = some (some (.ref f4))) (l4 : K.lookup f4 = some ⟨oc4, od4, .func (PySem.W.fnOf "_law_folded" "_law_folded" (defArgs sFolded) (defBody sFolded) (defScope sFolded) .none kV4 dc4 pm4 an4 cd4 ct4), sl4⟩) (c4 : PySem.W.codeIn K cd4 "_law_folded" = true) (k4 : PySem.W.keepIn K (.ref f4) = true)
    (a5 : PySem.W.nsIn K mainGlobals "_law_names" = some (some (.ref f5))) (l5 : K.lookup f5 = some ⟨oc5, od5, .func (PySem.W.fnOf "_law_names" "_law_names" (defArgs sNames) (defBody sNames) (defScope sNames) .none kV5 dc5 pm5 an5 cd5 ct5), sl5⟩) (c5 : PySem.W.codeIn K cd5 "_law_names" = true) (k5 : PySem.W.keepIn K (.ref f5) = true)
    (a6 : PySem.W.nsIn K mainGlobals "_law_same" = some (some (.ref f6))) (l6 : K.lookup f6 = some ⟨oc6, od6, .func (PySem.W.fnOf "_law_same" "_law_same" (defArgs sSame) (defBody sSame) (defScope sSame) .none kV6 dc6 pm6 an6 cd6 ct6), sl6⟩) (c6 : PySem.W.codeIn K cd6 "_law_same" = true) (k6 : PySem.W.keepIn K (.ref f6) = true)
    (a7 : PySem.W.nsIn K mainGlobals "_law_some_act" = some (some (.ref f7))) (l7 : K.lookup f7 = some ⟨oc7, od7, .func (PySem.W.fnOf "_law_some_act" "_law_some_act" (defArgs (topS 15)) (defBody (topS 15)) (defScope (topS 15)) .none kV7 dc7 pm7 an7 cd7 ct7), sl7⟩) (c7 : PySem.W.codeIn K cd7 "_law_some_act" = true) (k7 : PySem.W.keepIn K (.ref f7) = true)
    (a8 : PySem.W.nsIn K mainGlobals "_law_code_of" = some (some (.ref f8))) (l8 : K.lookup f8 = some ⟨oc8, od8, .func (PySem.W.fnOf "_law_code_of" "_law_code_of" (defArgs (topS 16)) (defBody (topS 16)) (defScope (topS 16)) .none kV8 dc8 pm8 an8 cd8 ct8), sl8⟩) (c8 : PySem.W.codeIn K cd8 "_law_code_of" = true) (k8 : PySem.W.keepIn K (.ref f8) = true)
    (a9 : PySem.W.nsIn K mainGlobals "_law_some_code" = some (some (.ref f9))) (l9 : K.lookup f9 = some ⟨oc9, od9, .func (PySem.W.fnOf "_law_some_code" "_law_some_code" (defArgs (topS 17)) (defBody (topS 17)) (defScope (topS 17)) .none kV9 dc9 pm9 an9 cd9 ct9), sl9⟩) (c9 : PySem.W.codeIn K cd9 "_law_some_code" = true) (k9 : PySem.W.keepIn K (.ref f9) = true)
    (a10 : PySem.W.nsIn K mainGlobals "_law_one_act" = some (some (.ref f10))) (l10 : K.lookup f10 = some ⟨oc10, od10, .func (PySem.W.fnOf "_law_one_act" "_law_one_act" (defArgs (topS 18)) (defBody (topS 18)) (defScope (topS 18)) .none kV10 dc10 pm10 an10 cd10 ct10), sl10⟩) (c10 : PySem.W.codeIn K cd10 "_law_one_act" = true) (k10 : PySem.W.keepIn K (.ref f10) = true)
    (a11 : PySem.W.nsIn K mainGlobals "_law_done_by" = some (some (.ref f11))) (l11 : K.lookup f11 = some ⟨oc11, od11, .func (PySem.W.fnOf "_law_done_by" "_law_done_by" (defArgs (topS 19)) (defBody (topS 19)) (defScope (topS 19)) .none kV11 dc11 pm11 an11 cd11 ct11), sl11⟩) (c11 : PySem.W.codeIn K cd11 "_law_done_by" = true) (k11 : PySem.W.keepIn K (.ref f11) = true)
    (a12 : PySem.W.nsIn K mainGlobals "_law_due" = some (some (.ref f12))) (l12 : K.lookup f12 = some ⟨oc12, od12, .func (PySem.W.fnOf "_law_due" "_law_due" (defArgs (topS 20)) (defBody (topS 20)) (defScope (topS 20)) .none kV12 dc12 pm12 an12 cd12 ct12), sl12⟩) (c12 : PySem.W.codeIn K cd12 "_law_due" = true) (k12 : PySem.W.keepIn K (.ref f12) = true)
    (a13 : PySem.W.nsIn K mainGlobals "_law_alike" = some (some (.ref f13))) (l13 : K.lookup f13 = some ⟨oc13, od13, .func (PySem.W.fnOf "_law_alike" "_law_alike" (defArgs (topS 21)) (defBody (topS 21)) (defScope (topS 21)) .none kV13 dc13 pm13 an13 cd13 ct13), sl13⟩) (c13 : PySem.W.codeIn K cd13 "_law_alike" = true) (k13 : PySem.W.keepIn K (.ref f13) = true)
    (a14 : PySem.W.nsIn K mainGlobals "_law_right" = some (some (.ref f14))) (l14 : K.lookup f14 = some ⟨oc14, od14, .func (PySem.W.fnOf "_law_right" "_law_right" (defArgs (topS 22)) (defBody (topS 22)) (defScope (topS 22)) .none kV14 dc14 pm14 an14 cd14 ct14), sl14⟩) (c14 : PySem.W.codeIn K cd14 "_law_right" = true) (k14 : PySem.W.keepIn K (.ref f14) = true)
    (a15 : PySem.W.nsIn K mainGlobals "law" = some (some (.ref f15))) (l15 : K.lookup f15 = some ⟨oc15, od15, .func (PySem.W.fnOf "law" "law" (defArgs (topS 23)) (defBody (topS 23)) (defScope (topS 23)) .none kV15 dc15 pm15 an15 cd15 ct15), sl15⟩) (c15 : PySem.W.codeIn K cd15 "law" = true) (k15 : PySem.W.keepIn K (.ref f15) = true)
    (aC0 : PySem.W.nsIn K mainGlobals "Doing" = some (some (.ref C0)))
    (ma0_0 : PySem.W.findIn K (.ref C0) "__init__" = some (some (.ref mf0_0))) (mi0_0 : PySem.W.isFn K (.ref mf0_0) = true) (ml0_0 : K.lookup mf0_0 = some ⟨moc0_0, mod0_0, .func (PySem.W.fnOf "__init__" "Doing.__init__" (defArgs sDoInit) (defBody sDoInit) (defScope sDoInit) .none mkV0_0 mdc0_0 mpm0_0 man0_0 mcd0_0 mct0_0), msl0_0⟩) (mc0_0 : PySem.W.codeIn K mcd0_0 "Doing.__init__" = true) (mk0_0 : PySem.W.keepIn K (.ref mf0_0) = true)
    (ma0_1 : PySem.W.findIn K (.ref C0) "do_act" = some (some (.ref mf0_1))) (mi0_1 : PySem.W.isFn K (.ref mf0_1) = true) (ml0_1 : K.lookup mf0_1 = some ⟨moc0_1, mod0_1, .func (PySem.W.fnOf "do_act" "Doing.do_act" (defArgs sDoAct) (defBody sDoAct) (defScope sDoAct) .none mkV0_1 mdc0_1 mpm0_1 man0_1 mcd0_1 mct0_1), msl0_1⟩) (mc0_1 : PySem.W.codeIn K mcd0_1 "Doing.do_act" = true) (mk0_1 : PySem.W.keepIn K (.ref mf0_1) = true)
    (ma0_2 : PySem.W.findIn K (.ref C0) "come_on" = some (some (.ref mf0_2))) (mi0_2 : PySem.W.isFn K (.ref mf0_2) = true) (ml0_2 : K.lookup mf0_2 = some ⟨moc0_2, mod0_2, .func (PySem.W.fnOf "come_on" "Doing.come_on" (defArgs sComeOn) (defBody sComeOn) (defScope sComeOn) .none mkV0_2 mdc0_2 mpm0_2 man0_2 mcd0_2 mct0_2), msl0_2⟩) (mc0_2 : PySem.W.codeIn K mcd0_2 "Doing.come_on" = true) (mk0_2 : PySem.W.keepIn K (.ref mf0_2) = true)
    (ma0_3 : PySem.W.findIn K (.ref C0) "go_off" = some (some (.ref mf0_3))) (mi0_3 : PySem.W.isFn K (.ref mf0_3) = true) (ml0_3 : K.lookup mf0_3 = some ⟨moc0_3, mod0_3, .func (PySem.W.fnOf "go_off" "Doing.go_off" (defArgs sGoOff) (defBody sGoOff) (defScope sGoOff) .none mkV0_3 mdc0_3 mpm0_3 man0_3 mcd0_3 mct0_3), msl0_3⟩) (mc0_3 : PySem.W.codeIn K mcd0_3 "Doing.go_off" = true) (mk0_3 : PySem.W.keepIn K (.ref mf0_3) = true)
    (ma0_4 : PySem.W.findIn K (.ref C0) "reckon" = some (some (.ref mf0_4))) (mi0_4 : PySem.W.isFn K (.ref mf0_4) = true) (ml0_4 : K.lookup mf0_4 = some ⟨moc0_4, mod0_4, .func (PySem.W.fnOf "reckon" "Doing.reckon" (defArgs sReckon) (defBody sReckon) (defScope sReckon) .none mkV0_4 mdc0_4 mpm0_4 man0_4 mcd0_4 mct0_4), msl0_4⟩) (mc0_4 : PySem.W.codeIn K mcd0_4 "Doing.reckon" = true) (mk0_4 : PySem.W.keepIn K (.ref mf0_4) = true)
    (ma0_5 : PySem.W.findIn K (.ref C0) "told" = some (some (.ref mf0_5))) (mi0_5 : PySem.W.isFn K (.ref mf0_5) = true) (ml0_5 : K.lookup mf0_5 = some ⟨moc0_5, mod0_5, .func (PySem.W.fnOf "told" "Doing.told" (defArgs sTold) (defBody sTold) (defScope sTold) .none mkV0_5 mdc0_5 mpm0_5 man0_5 mcd0_5 mct0_5), msl0_5⟩) (mc0_5 : PySem.W.codeIn K mcd0_5 "Doing.told" = true) (mk0_5 : PySem.W.keepIn K (.ref mf0_5) = true)
    (pg0 : PySem.W.plainGet K C0 Str.empty = true) (hd0 : PySem.W.hasDictIn K C0 = true) (po0 : PySem.W.plainOver K C0 = true) (sa0 : PySem.W.findIn K (.ref C0) "__setattr__" = some (some (.builtin "object.__setattr__"))) (mks0 : PySem.W.makesIn K C0 = true) (kc0 : PySem.W.keepIn K (.ref C0) = true)
    (na0_0 : PySem.W.findIn K (.ref C0) "own_pile" = some none)
    (na0_1 : PySem.W.findIn K (.ref C0) "own_kept" = some none)
    (na0_2 : PySem.W.findIn K (.ref C0) "own_taken" = some none)
    (na0_3 : PySem.W.findIn K (.ref C0) "own_given" = some none)
    (q0 : PySem.W.nsIn K mainGlobals "TAKE" = some (some (.str "take" tk0)))
    (q1 : PySem.W.nsIn K mainGlobals "GIVE" = some (some (.str "give" tk1)))
    (q2 : PySem.W.nsIn K mainGlobals "KEEP" = some (some (.str "keep" tk2)))
    (q3 : PySem.W.nsIn K mainGlobals "KEPT" = some (some (.str "kept" tk3)))
    (q4 : PySem.W.nsIn K mainGlobals "WIDE" = some (some (.int 1000000 tk4)))
    (z_len : PySem.W.nsIn K mainGlobals "len" = some none)
    (z_abs : PySem.W.nsIn K mainGlobals "abs" = some none)
    (z_int : PySem.W.nsIn K mainGlobals "int" = some none)
    (z_list : PySem.W.nsIn K mainGlobals "list" = some none)
    (z_tuple : PySem.W.nsIn K mainGlobals "tuple" = some none)
    (z_str : PySem.W.nsIn K mainGlobals "str" = some none)
    (z_bool : PySem.W.nsIn K mainGlobals "bool" = some none)
    (z_range : PySem.W.nsIn K mainGlobals "range" = some none)
    (z_enumerate : PySem.W.nsIn K mainGlobals "enumerate" = some none)
    (z_zip : PySem.W.nsIn K mainGlobals "zip" = some none)
    (z_all : PySem.W.nsIn K mainGlobals "all" = some none)
    (z_isinstance : PySem.W.nsIn K mainGlobals "isinstance" = some none)
    (z_dict : PySem.W.nsIn K mainGlobals "dict" = some none)
    (z_sorted : PySem.W.nsIn K mainGlobals "sorted" = some none)
    (z_max : PySem.W.nsIn K mainGlobals "max" = some none)
    (z_repr : PySem.W.nsIn K mainGlobals "repr" = some none) :
    ∃ fd : FuncData, (∀ (s : Shared) (v : Value), BindsTo s fd ⟨[v], []⟩ [("_law_script", v)]) ∧ ∀ base : Heap, K.In base → base.Ns mainGlobals mg → SysB base → FnOkG l.prog w K mg base 6 fa fd ["_law_script"] (spLaw K) := by
  have e := hfa.symm.trans (PySem.W.mg_of X G a15)
  cases e
  have F0 := fun_mk (st := sReckoned) l0 c0 k0
  have b0 := F0.binds (ps := ["word", "a", "b"]) fun _ _ _ _ _ _ us hl => match us, hl with | [_, _, _], _ => rfl
  have g0 := PySem.W.mg_of X G a0
  have F1 := fun_mk (st := sDoneBy) l1 c1 k1
  have b1 := F1.binds (ps := ["code", "kept", "taken"]) fun _ _ _ _ _ _ us hl => match us, hl with | [_, _, _], _ => rfl
  have g1 := PySem.W.mg_of X G a1
  have F2 := fun_mk (st := sTape) l2 c2 k2
  have b2 := F2.binds (ps := ["_law_script", "_law_k"]) fun _ _ _ _ _ _ us hl => match us, hl with | [_, _], _ => rfl
  have g2 := PySem.W.mg_of X G a2
  have F3 := fun_mk (st := sDraw) l3 c3 k3
  have b3 := F3.binds (ps := ["_law_tape_here", "_law_many"]) fun _ _ _ _ _ _ us hl => match us, hl with | [_, _], _ => rfl
  have g3 := PySem.W.mg_of X G a3
  have F4 := fun_mk (st := sFolded) l4 c4 k4
  have b4 := F4.binds (ps := ["_law_script", "_law_many"]) fun _ _ _ _ _ _ us hl => match us, hl with | [_, _], _ => rfl
  have g4 := PySem.W.mg_of X G a4
  have F5 := fun_mk (st := sNames) l5 c5 k5
  have b5 := F5.binds (ps := ["_law_tape_here", "_law_many"]) fun _ _ _ _ _ _ us hl => match us, hl with | [_, _], _ => rfl
  have g5 := PySem.W.mg_of X G a5
  have F6 := fun_mk (st := sSame) l6 c6 k6
  have b6 := F6.binds (ps := ["_law_found", "_law_due_here"]) fun _ _ _ _ _ _ us hl => match us, hl with | [_, _], _ => rfl
  have g6 := PySem.W.mg_of X G a6
  have F7 := fun_mk (st := (topS 15)) l7 c7 k7
  have b7 := F7.binds (ps := ["_law_tape_here", "_law_pile", "_law_places"]) fun _ _ _ _ _ _ us hl => match us, hl with | [_, _, _], _ => rfl
  have g7 := PySem.W.mg_of X G a7
  have F8 := fun_mk (st := (topS 16)) l8 c8 k8
  have b8 := F8.binds (ps := ["_law_tape_here", "_law_takes", "_law_gives", "_law_places"]) fun _ _ _ _ _ _ us hl => match us, hl with | [_, _, _, _], _ => rfl
  have g8 := PySem.W.mg_of X G a8
  have F9 := fun_mk (st := (topS 17)) l9 c9 k9
  have b9 := F9.binds (ps := ["_law_tape_here", "_law_names_here", "_law_most"]) fun _ _ _ _ _ _ us hl => match us, hl with | [_, _, _], _ => rfl
  have g9 := PySem.W.mg_of X G a9
  have F10 := fun_mk (st := (topS 18)) l10 c10 k10
  have b10 := F10.binds (ps := ["_law_act", "_law_pile", "_law_a_kept", "_law_a_taken", "_law_given"]) fun _ _ _ _ _ _ us hl => match us, hl with | [_, _, _, _, _], _ => rfl
  have g10 := PySem.W.mg_of X G a10
  have F11 := fun_mk (st := (topS 19)) l11 c11 k11
  have b11 := F11.binds (ps := ["_law_a_code", "_law_a_kept", "_law_a_taken"]) fun _ _ _ _ _ _ us hl => match us, hl with | [_, _, _], _ => rfl
  have g11 := PySem.W.mg_of X G a11
  have F12 := fun_mk (st := (topS 20)) l12 c12 k12
  have b12 := F12.binds (ps := ["_law_a_code", "_law_places", "_law_a_taken"]) fun _ _ _ _ _ _ us hl => match us, hl with | [_, _, _], _ => rfl
  have g12 := PySem.W.mg_of X G a12
  have F13 := fun_mk (st := (topS 21)) l13 c13 k13
  have b13 := F13.binds (ps := ["_law_found", "_law_due_here"]) fun _ _ _ _ _ _ us hl => match us, hl with | [_, _], _ => rfl
  have g13 := PySem.W.mg_of X G a13
  have F14 := fun_mk (st := (topS 22)) l14 c14 k14
  have b14 := F14.binds (ps := ["_law_tape_here", "_law_names_here"]) fun _ _ _ _ _ _ us hl => match us, hl with | [_, _], _ => rfl
  have g14 := PySem.W.mg_of X G a14
  have F15 := fun_mk (st := (topS 23)) l15 c15 k15
  have b15 := F15.binds (ps := ["_law_script"]) fun _ _ _ _ _ _ us hl => match us, hl with | [_], _ => rfl
  have g15 := PySem.W.mg_of X G a15
  have MF0_0 := fun_mk (st := sDoInit) ml0_0 mc0_0 mk0_0
  have mb0_0 := MF0_0.binds (ps := ["self", "kept", "taken"]) fun _ _ _ _ _ _ us hl => match us, hl with | [_, _, _], _ => rfl
  have MF0_1 := fun_mk (st := sDoAct) ml0_1 mc0_1 mk0_1
  have mb0_1 := MF0_1.binds (ps := ["self", "act"]) fun _ _ _ _ _ _ us hl => match us, hl with | [_, _], _ => rfl
  have MF0_2 := fun_mk (st := sComeOn) ml0_2 mc0_2 mk0_2
  have mb0_2 := MF0_2.binds (ps := ["self", "word", "thing"]) fun _ _ _ _ _ _ us hl => match us, hl with | [_, _, _], _ => rfl
  have MF0_3 := fun_mk (st := sGoOff) ml0_3 mc0_3 mk0_3
  have mb0_3 := MF0_3.binds (ps := ["self", "word", "thing"]) fun _ _ _ _ _ _ us hl => match us, hl with | [_, _, _], _ => rfl
  have MF0_4 := fun_mk (st := sReckon) ml0_4 mc0_4 mk0_4
  have mb0_4 := MF0_4.binds (ps := ["self", "word"]) fun _ _ _ _ _ _ us hl => match us, hl with | [_, _], _ => rfl
  have MF0_5 := fun_mk (st := sTold) ml0_5 mc0_5 mk0_5
  have mb0_5 := MF0_5.binds (ps := ["self"]) fun _ _ _ _ _ _ us hl => match us, hl with | [_], _ => rfl
  have B : Bl mg := ⟨PySem.W.mg_none_of X G z_len, PySem.W.mg_none_of X G z_abs, PySem.W.mg_none_of X G z_int, PySem.W.mg_none_of X G z_list, PySem.W.mg_none_of X G z_tuple, PySem.W.mg_none_of X G z_str, PySem.W.mg_none_of X G z_bool, PySem.W.mg_none_of X G z_range, PySem.W.mg_none_of X G z_enumerate, PySem.W.mg_none_of X G z_zip, PySem.W.mg_none_of X G z_all, PySem.W.mg_none_of X G z_isinstance⟩
  have Bm0 : Bm mg := ⟨PySem.W.mg_none_of X G z_dict, PySem.W.mg_none_of X G z_sorted, PySem.W.mg_none_of X G z_max, PySem.W.mg_none_of X G z_repr⟩
  have cst : Cst mg := ⟨⟨_, PySem.W.mg_of X G q0⟩, ⟨_, PySem.W.mg_of X G q1⟩, ⟨_, PySem.W.mg_of X G q2⟩, ⟨_, PySem.W.mg_of X G q3⟩, ⟨_, PySem.W.mg_of X G q4⟩⟩
  have T : TD K mg C0 := ⟨⟨pg0, hd0, po0, sa0⟩, na0_0, na0_1, na0_2, na0_3, PySem.W.mg_of X G aC0⟩
  have M : Mk K C0 mf0_0 := ⟨mks0, ma0_0, mi0_0, kc0⟩
  have kb1 : KBn K (PySem.W.fnOf "done_by" "done_by" (defArgs sDoneBy) (defBody sDoneBy) (defScope sDoneBy) .none kV1 dc1 pm1 an1 cd1 ct1) ["code", "kept", "taken"] 0 ["taken", "code", "kept"] (fun _ ws => gP3 ws) (fun _ zs => gP3 zs) := ⟨fun s us ws _ h1 h2 => match us, ws, h1, h2 with | [], [_, _, _], _, _ => .of_eq rfl, fun _ rz => gP3_rel rz⟩
  refine ⟨PySem.W.fnOf "law" "law" (defArgs (topS 23)) (defBody (topS 23)) (defScope (topS 23)) .none kV15 dc15 pm15 an15 cd15 ct15, fun s v => .of_eq rfl, fun base _ _ hsy => ?_⟩
  have cR : Cal l.prog w K mg base "reckoned" 1 ["word", "a", "b"] spReckoned := ⟨_, _, ok_reckoned (k := 0) cst F0, g0, k0, b0⟩
  have m4 : MCal l.prog w K mg base C0 "reckon" 2 ["self", "word"] (spReckon C0) := ⟨_, _, ok_reckon (k := 1) T cR (by decide) MF0_4, ⟨ma0_4, mi0_4, mk0_4⟩, mb0_4⟩
  have m2 : MCal l.prog w K mg base C0 "come_on" 1 ["self", "word", "thing"] (spComeOn C0) := ⟨_, _, ok_come_on (k := 0) T cst MF0_2, ⟨ma0_2, mi0_2, mk0_2⟩, mb0_2⟩
  have m3 : MCal l.prog w K mg base C0 "go_off" 1 ["self", "word", "thing"] (spGoOff C0) := ⟨_, _, ok_go_off (k := 0) T cst MF0_3, ⟨ma0_3, mi0_3, mk0_3⟩, mb0_3⟩
  have m1 : MCal l.prog w K mg base C0 "do_act" 3 ["self", "act"] (spDoAct K C0) := ⟨_, _, ok_do_act (k := 2) T cst m2 m3 m4 (by decide) (by decide) (by decide) MF0_1, ⟨ma0_1, mi0_1, mk0_1⟩, mb0_1⟩
  have m5 : MCal l.prog w K mg base C0 "told" 1 ["self"] (spTold C0) := ⟨_, _, ok_told (k := 0) B T MF0_5, ⟨ma0_5, mi0_5, mk0_5⟩, mb0_5⟩
  have oD := ok_done_by (P := l.prog) (w := w) (base := base) (k := 3) B T M (ok_init (k := 0) B T MF0_0) mb0_0 m1 m5 (by decide) (by decide) (by decide) F1
  have cD : Cal l.prog w K mg base "done_by" 4 ["code", "kept", "taken"] (spDoneBy K) := ⟨_, _, oD, g1, k1, b1⟩
  have kD : CalK l.prog w K mg base "done_by" 4 ["code", "kept", "taken"] ["taken", "code", "kept"] gP3 (spDoneBy K) := ⟨_, _, _, oD, g1, k1, kb1⟩
  have cT : Cal l.prog w K mg base "_law_tape" 1 ["_law_script", "_law_k"] (spTape K) := ⟨_, _, ok_tape (k := 0) B F2, g2, k2, b2⟩
  have cW : Cal l.prog w K mg base "_law_draw" 1 ["_law_tape_here", "_law_many"] spDraw := ⟨_, _, ok_draw (k := 0) F3, g3, k3, b3⟩
  have cF : Cal l.prog w K mg base "_law_folded" 1 ["_law_script", "_law_many"] (spFolded K) := ⟨_, _, ok_folded (k := 0) B F4, g4, k4, b4⟩
  have cN : Cal l.prog w K mg base "_law_names" 2 ["_law_tape_here", "_law_many"] spNames := ⟨_, _, ok_names (k := 1) B cW (by decide) F5, g5, k5, b5⟩
  have cS : Cal l.prog w K mg base "_law_same" 3 ["_law_found", "_law_due_here"] (spSame K 1) := ⟨_, _, ok_same B F6 g6 b6 1, g6, k6, b6⟩
  have cA : Cal l.prog w K mg base "_law_some_act" 2 ["_law_tape_here", "_law_pile", "_law_places"] spSomeAct := ⟨_, _, ok_some_act (k := 1) B cW (by decide) F7, g7, k7, b7⟩
  have cO : Cal l.prog w K mg base "_law_code_of" 3 ["_law_tape_here", "_law_takes", "_law_gives", "_law_places"] (spCodeOf K) := ⟨_, _, ok_code_of (k := 2) B cW cA (by decide) (by decide) F8, g8, k8, b8⟩
  have cC : Cal l.prog w K mg base "_law_some_code" 4 ["_law_tape_here", "_law_names_here", "_law_most"] (spSomeCode K) := ⟨_, _, ok_some_code (k := 3) B cW cO (by decide) (by decide) F9, g9, k9, b9⟩
  have c1 : Cal l.prog w K mg base "_law_one_act" 1 ["_law_act", "_law_pile", "_law_a_kept", "_law_a_taken", "_law_given"] (spOneAct K) := ⟨_, _, ok_one_act (k := 0) B F10, g10, k10, b10⟩
  have c2 : Cal l.prog w K mg base "_law_done_by" 2 ["_law_a_code", "_law_a_kept", "_law_a_taken"] (spOwnDone K) := ⟨_, _, ok_own_done (k := 1) B c1 (by decide) F11, g11, k11, b11⟩
  have c3 : Cal l.prog w K mg base "_law_due" 3 ["_law_a_code", "_law_places", "_law_a_taken"] (spDue K) := ⟨_, _, ok_due (k := 2) B Bm0 c2 (by decide) F12, g12, k12, b12⟩
  have cL : Cal l.prog w K mg base "_law_alike" 4 ["_law_found", "_law_due_here"] (spAlike K) := ⟨_, _, ok_alike (k := 3) B Bm0 cS (by decide) F13, g13, k13, b13⟩
  have cG : CalG l.prog w K mg base "_law_right" 5 ["_law_tape_here", "_law_names_here"] spRight := ⟨_, _, ok_right (k := 4) B Bm0 hsy cW cC c3 cD kD cL (by decide) (by decide) (by decide) (by decide) (by decide) (by decide) F14, g14, k14, b14⟩
  exact ok_law (k := 5) B cT cF cN cG (by decide) (by decide) (by decide) (by decide) F15
end Tw
open PySem PySem.W PyProof.Rows
set_option maxRecDepth 100000 in
set_option maxHeartbeats 0 in
theorem PySem.Challenge.cw_trayworks_k04_codes_done_holds : PySem.Challenge.rw_trayworks_k04_codes_done.Holds := by
  w_on; o_law; k_head; (case hw => w_witness2)
  k_fill
  refine Tw.walk_ofG (l := PySem.Challenge.rw_trayworks_k04_codes_done) (n := 63) (k := 6) (x := "_law_script") (sp := fun w => Tw.spLaw _) rfl (by decide) rfl ⟨rfl, by decide, by decide⟩ rfl (fun w h Y => PySem.W.kIn_of Y) ?F (fun _ _ a ns hl _ hS => ⟨a, ns, rfl, hS, hl, fun _ => rfl⟩)
  case F =>
    intro w mg fa h KX G hmg
    refine' Tw.all_mk KX G hmg ?a0 ?l0 ?c0 ?k0 ?a1 ?l1 ?c1 ?k1 ?a2 ?l2 ?c2 ?k2 ?a3 ?l3 ?c3 ?k3 ?a4 ?l4 ?c4 ?k4 ?a5 ?l5 ?c5 ?k5 ?a6 ?l6 ?c6 ?k6 ?a7 ?l7 ?c7 ?k7 ?a8 ?l8 ?c8 ?k8 ?a9 ?l9 ?c9 ?k9 ?a10 ?l10 ?c10 ?k10 ?a11 ?l11 ?c11 ?k11 ?a12 ?l12 ?c12 ?k12 ?a13 ?l13 ?c13 ?k13 ?a14 ?l14 ?c14 ?k14 ?a15 ?l15 ?c15 ?k15 ?aC0 ?ma0_0 ?mi0_0 ?ml0_0 ?mc0_0 ?mk0_0 ?ma0_1 ?mi0_1 ?ml0_1 ?mc0_1 ?mk0_1 ?ma0_2 ?mi0_2 ?ml0_2 ?mc0_2 ?mk0_2 ?ma0_3 ?mi0_3 ?ml0_3 ?mc0_3 ?mk0_3 ?ma0_4 ?mi0_4 ?ml0_4 ?mc0_4 ?mk0_4 ?ma0_5 ?mi0_5 ?ml0_5 ?mc0_5 ?mk0_5 ?pg0 ?hd0 ?po0 ?sa0 ?mks0 ?kc0 ?na0_0 ?na0_1 ?na0_2 ?na0_3 ?q0 ?q1 ?q2 ?q3 ?q4 ?z_len ?z_abs ?z_int ?z_list ?z_tuple ?z_str ?z_bool ?z_range ?z_enumerate ?z_zip ?z_all ?z_isinstance ?z_dict ?z_sorted ?z_max ?z_repr
    (case a0 => k_is); (case l0 => k_is); (case c0 => k_is); (case k0 => k_is); (case a1 => k_is); (case l1 => k_is)
    (case c1 => k_is); (case k1 => k_is); (case a2 => k_is); (case l2 => k_is); (case c2 => k_is); (case k2 => k_is)
    (case a3 => k_is); (case l3 => k_is); (case c3 => k_is); (case k3 => k_is); (case a4 => k_is); (case l4 => k_is)
    (case c4 => k_is); (case k4 => k_is); (case a5 => k_is); (case l5 => k_is); (case c5 => k_is); (case k5 => k_is)
    (case a6 => k_is); (case l6 => k_is); (case c6 => k_is); (case k6 => k_is); (case a7 => k_is); (case l7 => k_is)
    (case c7 => k_is); (case k7 => k_is); (case a8 => k_is); (case l8 => k_is); (case c8 => k_is); (case k8 => k_is)
    (case a9 => k_is); (case l9 => k_is); (case c9 => k_is); (case k9 => k_is); (case a10 => k_is); (case l10 => k_is)
    (case c10 => k_is); (case k10 => k_is); (case a11 => k_is); (case l11 => k_is); (case c11 => k_is); (case k11 => k_is)
    (case a12 => k_is); (case l12 => k_is); (case c12 => k_is); (case k12 => k_is); (case a13 => k_is); (case l13 => k_is)
    (case c13 => k_is); (case k13 => k_is); (case a14 => k_is); (case l14 => k_is); (case c14 => k_is); (case k14 => k_is)
    (case a15 => k_is); (case l15 => k_is); (case c15 => k_is); (case k15 => k_is); (case aC0 => k_is); (case ma0_0 => k_is)
    (case mi0_0 => k_is); (case ml0_0 => k_is); (case mc0_0 => k_is); (case mk0_0 => k_is); (case ma0_1 => k_is); (case mi0_1 => k_is)
    (case ml0_1 => k_is); (case mc0_1 => k_is); (case mk0_1 => k_is); (case ma0_2 => k_is); (case mi0_2 => k_is); (case ml0_2 => k_is)
    (case mc0_2 => k_is); (case mk0_2 => k_is); (case ma0_3 => k_is); (case mi0_3 => k_is); (case ml0_3 => k_is); (case mc0_3 => k_is)
    (case mk0_3 => k_is); (case ma0_4 => k_is); (case mi0_4 => k_is); (case ml0_4 => k_is); (case mc0_4 => k_is); (case mk0_4 => k_is)
    (case ma0_5 => k_is); (case mi0_5 => k_is); (case ml0_5 => k_is); (case mc0_5 => k_is); (case mk0_5 => k_is); (case pg0 => k_is)
    (case hd0 => k_is); (case po0 => k_is); (case sa0 => k_is); (case mks0 => k_is); (case kc0 => k_is); (case na0_0 => k_is)
    (case na0_1 => k_is); (case na0_2 => k_is); (case na0_3 => k_is); (case q0 => k_is); (case q1 => k_is); (case q2 => k_is)
    (case q3 => k_is); (case q4 => k_is); (case z_len => k_is); (case z_abs => k_is); (case z_int => k_is); (case z_list => k_is)
    (case z_tuple => k_is); (case z_str => k_is); (case z_bool => k_is); (case z_range => k_is); (case z_enumerate => k_is); (case z_zip => k_is)
    (case z_all => k_is); (case z_isinstance => k_is); (case z_dict => k_is); (case z_sorted => k_is); (case z_max => k_is); (case z_repr => k_is)

