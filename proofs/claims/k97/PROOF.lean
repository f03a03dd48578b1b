import PyProof.Rows.All
import Wide.All
import OpenK.AllK
import Wide.FinOn
import KE.SortCalls
import KE.LtSeq
import HandS.List
import HandS.SortInts
import HandS.ForMost
import HandS.StrMore
import HandS.TupAny
import HandS.TupMul
import HandS.TupLe
import HandS.IsInst
import HandS.ExcIs
import HandS.ExcOwn
import HandS.Deep
import HandS.RevTup
import HandS.Zip
import HandS.More
import HandS.Rev
import HandS.Text
import HandS.Small
import PyProof.ToksMono
import PyProof.StrCalls6
import HandS.ExcField
import KE.KExcIs
import KE.KUnpack
import PyProof.ExcBaseAll.ValueError
import HandS.ExcInit
import HandS.ClsMeth
import HandS.Codes
import HandS.EndBits
import HandS.Defaults
import HandS.HeadHook3
import PyProof.StrLawsRepr
import PySem.Challenge.RW_talkcourt_k97_refusals_made
set_option Elab.async false
set_option autoImplicit false
set_option linter.all false
set_option maxRecDepth 100000
/-! sorted lists of tuples of texts, nested, of any shape: where two differ first, both are texts or both are tuples. -/
namespace Sd
open PySem PySem.W PySem.SeqAt PyProof.Rows
open PySem.AutoSeq1 (wpAny_loadPart')
open PySem.MeetsSeq PySem.MeetsSeq2 PySem.MeetsSeq3

/-! ### tuple < tuple, by the first pair that differs -/
inductive FL (A : Around) (s : Shared) (fin : Bool) : List (Value × Value) → Bool → Prop where
  | nil : FL A s fin [] fin
  | same {x y : Value} {t : List (Value × Value)} {k : Bool} : EqAt A s x y true → FL A s fin t k → FL A s fin ((x, y) :: t) k
  | diff {x y : Value} {t : List (Value × Value)} {k : Bool} : EqAt A s x y false → RcLt A s x y k → FL A s fin ((x, y) :: t) k
theorem tup_lt (p q : Addr) (us vs : Array Value) (m n : Nat) (da db : Option Addr) (sa sb : Array (Option Value)) (k : Bool) :
    Meets (Builtin.«tuple.__lt__» ⟨[.ref p, .ref q], []⟩)
      (fun A R s => s.heap.get? p = some ⟨.type "tuple", da, .seq us m, sa⟩ ∧ s.heap.get? q = some ⟨.type "tuple", db, .seq vs n, sb⟩ ∧ FL A.in1 s (decide (us.size < vs.size)) (us.toList.zip vs.toList) k ∧ R (.ok (.ret (.bool k))) s) :=
  .of_wp fun prog w A R s hyp => by
    obtain ⟨hp, g, d, tk, os⟩ := s
    obtain ⟨h1, h2, h3, h4⟩ := hyp
    have f2 := AutoSeq1.sub_tuple_tuple
    wp_walk using wpAny_loadPart' h1, wpAny_loadPart' h2, wpAny_forIn_list _ (fun left b s' => b.1 = none ∧ s' = ⟨hp, g, d, tk, os⟩ ∧ FL A.in1 ⟨hp, g, d, tk, os⟩ (decide (us.size < vs.size)) left k) _
    case turn =>
      rintro ⟨x, y⟩ left b s' ⟨hb, rfl, hf⟩
      cases hf with
      | same he ht =>
        refine wpAny_bind (he prog w _ _ ?_)
        wp_walk
        exact ⟨rfl, rfl, ht⟩
      | diff he hl =>
        refine wpAny_bind (he prog w _ _ ?_)
        have less := hl prog w
        wp_walk using less
        exact ⟨_, rfl, by simpa using h4⟩
    case fin =>
      rintro ⟨b1, b2⟩ s' ⟨hb, rfl, hf⟩
      simp only at hb
      subst hb
      cases hf
      wp_walk
      exact ⟨_, rfl, by simpa [Builtin.Tuple.tupleCompareSizes] using h4⟩
    case h =>
      exact ⟨rfl, rfl, h3⟩
theorem RcLt_tups {A : Around} {s : Shared} {p q : Addr} {us vs : Array Value} {k : Bool} (hp : s.heap.IsTuple p us) (hq : s.heap.IsTuple q vs) (room : A.units < cLine) (h : FL A.in1 s (decide (us.size < vs.size)) (us.toList.zip vs.toList) k) :
    RcLt A s (.ref p) (.ref q) k := fun prog w E Q good => by
  obtain ⟨⟨c1, d1, t1, z1⟩, ho, e1, m, e2⟩ := id hp
  obtain ⟨⟨c2, d2, t2, z2⟩, ho2, e3, n, e4⟩ := id hq
  simp only at e1 e2 e3 e4
  subst e1 e2 e3 e4
  exact richCompare_meets_room (op := .Lt) ⟨_, ho, rfl⟩ ⟨_, ho2, rfl⟩ F.slot_tuple_lt F.entry_tuple_lt (F.args_tuple_lt_2 _ _) (tup_lt p q us vs m n d1 d2 z1 z2 k) ⟨ho, ho2, h, ⟨(fun x => nomatch x), good⟩⟩ room

/-! ### the data -/
mutual
/-- texts and tuples of these -/
def sk : PyData → Bool
  | .str x => x.cps.all (· < 0x110000)
  | .tuple xs => skL xs
  | _ => false
def skL : List PyData → Bool
  | [] => true
  | x :: xs => sk x && skL xs
end
mutual
/-- where they differ first they are of one kind -/
def fit : PyData → PyData → Bool
  | .str _, .str _ => true
  | .tuple xs, .tuple ys => fitL xs ys
  | _, _ => false
def fitL : List PyData → List PyData → Bool
  | x :: xs, y :: ys => if PyData.eqv x y = true then fitL xs ys else fit x y
  | _, _ => true
end
theorem skL_cons {x : PyData} {xs : List PyData} (h : skL (x :: xs) = true) : sk x = true ∧ skL xs = true := by
  have h : (sk x && skL xs) = true := h
  rwa [Bool.and_eq_true] at h
mutual
theorem sk_lay : ∀ {d : PyData}, sk d = true → d.canLay0 = true
  | .str x, h => h
  | .tuple xs, h => skL_lay (show skL xs = true from h)
theorem skL_lay : ∀ {l : List PyData}, skL l = true → PyData.canLayAll0 l = true
  | [], _ => rfl
  | x :: xs, h => by
    obtain ⟨h1, h2⟩ := skL_cons h
    show (x.canLay0 && PyData.canLayAll0 xs) = true
    rw [sk_lay h1, skL_lay h2]
    rfl
end
abbrev lx (a b : List (Int ⊕ List Nat)) : Bool := PyProof.Rows.lexLt itemOrd a b
theorem lx_ne {p q : Int ⊕ List Nat} (hne : p ≠ q) {a b : List (Int ⊕ List Nat)} : lx (p :: a) (q :: b) = lx [p] [q] := lex_atom hne a b
theorem lx_eq {p : Int ⊕ List Nat} {a b : List (Int ⊕ List Nat)} : lx (p :: a) (p :: b) = lx a b := lex_self (O := itemOrd) p a b
theorem tk_nil : keyToksAll [] = [Sum.inl 0] := rfl
theorem tk_cons {x : PyData} {xs : List PyData} : keyToksAll (x :: xs) = Sum.inl 1 :: (keyToks x ++ keyToksAll xs) := toks_all_cons x xs
theorem tk_head (xs : List PyData) : ∃ n r, keyToksAll xs = Sum.inl n :: r := by
  cases xs with
  | nil => exact ⟨_, _, tk_nil⟩
  | cons x xs => exact ⟨_, _, tk_cons⟩
theorem eqvL_nn : PyData.eqvAll [] [] = true := by simp [PyData.eqvAll]
mutual
theorem toks_of : ∀ (x y : PyData), sk x = true → sk y = true → (PyData.eqv x y = true → keyToks x = keyToks y) ∧ (PyData.eqv x y = false → ∀ a b, lx (keyToks x ++ a) (keyToks y ++ b) = lx (keyToks x) (keyToks y))
  | .str x, .str y, _, _ => by
    refine ⟨fun h => ?_, fun h a b => ?_⟩
    · have z : x = y := by simpa [PyData.eqv] using h
      rw [z]
    have hne : x ≠ y := fun z => by
      rw [z] at h
      simp [PyData.eqv] at h
    exact lx_ne fun z => hne (str_of_cps (Sum.inr.inj z))
  | .str x, .tuple ys, _, _ => by
    refine ⟨fun h => absurd h (by simp [PyData.eqv]), fun _ a b => ?_⟩
    obtain ⟨n, r, e⟩ := tk_head ys
    show lx (Sum.inr x.cps.toList :: a) (keyToksAll ys ++ b) = lx [Sum.inr x.cps.toList] (keyToksAll ys)
    rw [e]
    exact (lx_ne (by simp)).trans (lx_ne (by simp)).symm
  | .tuple xs, .str y, _, _ => by
    refine ⟨fun h => absurd h (by simp [PyData.eqv]), fun _ a b => ?_⟩
    obtain ⟨n, r, e⟩ := tk_head xs
    show lx (keyToksAll xs ++ a) (Sum.inr y.cps.toList :: b) = lx (keyToksAll xs) [Sum.inr y.cps.toList]
    rw [e]
    exact (lx_ne (by simp)).trans (lx_ne (by simp)).symm
  | .tuple xs, .tuple ys, h1, h2 => by
    have e : PyData.eqv (.tuple xs) (.tuple ys) = PyData.eqvAll xs ys := by simp [PyData.eqv]
    rw [e]
    exact toksL_of xs ys h1 h2
theorem toksL_of : ∀ (xs ys : List PyData), skL xs = true → skL ys = true → (PyData.eqvAll xs ys = true → keyToksAll xs = keyToksAll ys) ∧ (PyData.eqvAll xs ys = false → ∀ a b, lx (keyToksAll xs ++ a) (keyToksAll ys ++ b) = lx (keyToksAll xs) (keyToksAll ys))
  | [], [], _, _ => ⟨fun _ => rfl, fun h => absurd h (by rw [eqvL_nn]; decide)⟩
  | [], y :: ys, _, _ => ⟨fun h => absurd h (by simp [PyData.eqvAll]), fun _ a b => by
      rw [tk_nil, tk_cons]
      exact (lx_ne (by simp)).trans (lx_ne (by simp)).symm⟩
  | x :: xs, [], _, _ => ⟨fun h => absurd h (by simp [PyData.eqvAll]), fun _ a b => by
      rw [tk_nil, tk_cons]
      exact (lx_ne (by simp)).trans (lx_ne (by simp)).symm⟩
  | x :: xs, y :: ys, h1, h2 => by
    obtain ⟨p1, p2⟩ := toks_of x y (skL_cons h1).1 (skL_cons h2).1
    obtain ⟨q1, q2⟩ := toksL_of xs ys (skL_cons h1).2 (skL_cons h2).2
    rw [eqv_all_cons, tk_cons, tk_cons]
    cases c : PyData.eqv x y with
    | true =>
      rw [p1 c, Bool.true_and]
      refine ⟨fun z => by rw [q1 z], fun z a b => ?_⟩
      rw [List.cons_append, List.cons_append, List.append_assoc, List.append_assoc]
      have r1 := lex_pre (keyToks y) (keyToksAll xs ++ a) (keyToksAll ys ++ b)
      have r2 := lex_pre (keyToks y) (keyToksAll xs) (keyToksAll ys)
      exact lx_eq.trans (r1.trans ((q2 z a b).trans (r2.symm.trans lx_eq.symm)))
    | false =>
      rw [Bool.false_and]
      refine ⟨fun z => (by cases z), fun _ a b => ?_⟩
      rw [List.cons_append, List.cons_append, List.append_assoc, List.append_assoc]
      exact lx_eq.trans ((p2 c _ _).trans ((p2 c _ _).symm.trans lx_eq.symm))
end
theorem lt_same {x y : PyData} {xs ys : List PyData} (hx : sk x = true) (hy : sk y = true) (e : PyData.eqv x y = true) : lx (keyToksAll (x :: xs)) (keyToksAll (y :: ys)) = lx (keyToksAll xs) (keyToksAll ys) := by
  rw [tk_cons, tk_cons, (toks_of x y hx hy).1 e]
  exact lx_eq.trans (lex_pre (keyToks y) (keyToksAll xs) (keyToksAll ys))
theorem lt_diff {x y : PyData} {xs ys : List PyData} (hx : sk x = true) (hy : sk y = true) (e : PyData.eqv x y = false) : lx (keyToksAll (x :: xs)) (keyToksAll (y :: ys)) = dataLt x y := by
  rw [tk_cons, tk_cons]
  exact lx_eq.trans ((toks_of x y hx hy).2 e _ _)
theorem lt_end {ys : List PyData} : lx (keyToksAll []) (keyToksAll ys) = decide (0 < ys.length) := by
  cases ys with
  | nil => exact lex_irrefl (O := itemOrd) _
  | cons y ys =>
    rw [tk_cons, tk_nil, lx_ne (by simp)]
    exact (lex_one _ _).trans (by simp [itemLt])
theorem lt_end2 {x : PyData} {xs : List PyData} : lx (keyToksAll (x :: xs)) (keyToksAll []) = false := by
  rw [tk_cons, tk_nil, lx_ne (by simp)]
  exact (lex_one _ _).trans (by simp [itemLt])
/-! ### less, for values that read as such data -/
mutual
theorem rcLt_of : ∀ (x y : PyData) (A : Around) (s : Shared) (u v : Value) (as bs : List Addr), Reads s.heap u x as → Reads s.heap v y bs → sk x = true → sk y = true → fit x y = true → A.units + min x.depth y.depth < cLine → RcLt A s u v (dataLt x y)
  | .str x, y, A, s, u, v, as, bs, ru, rv, h1, h2, hf, room => by
    cases y with
    | str z =>
      cases ru
      cases rv
      intro prog w E Q good
      rw [dataLt_str] at good
      exact P.lt_str good
    | _ => cases hf
  | .tuple xs, y, A, s, u, v, as, bs, ru, rv, h1, h2, hf, room => by
    cases y with
    | tuple ys =>
      cases ru with
      | @tuple p o us m _ _ a1 a2 a3 a4 =>
        cases rv with
        | @tuple q o' vs n _ _ b1 b2 b3 b4 =>
          rw [dataLt_tuple]
          refine RcLt_tups ⟨_, a1, a2, _, a3⟩ ⟨_, b1, b2, _, b3⟩ (room_here room) ?_
          have n1 : us.size = xs.length := by simpa using ReadsAll.length _ _ _ a4
          have n2 : vs.size = ys.length := by simpa using ReadsAll.length _ _ _ b4
          rw [n1, n2]
          exact fl_of xs ys A.in1 s _ _ _ _ a4 b4 h1 h2 hf (room_in room)
    | _ => cases hf
  | .none, _, _, _, _, _, _, _, _, _, h1, _, _, _ => by cases h1
  | .bool _, _, _, _, _, _, _, _, _, _, h1, _, _, _ => by cases h1
  | .int _, _, _, _, _, _, _, _, _, _, h1, _, _, _ => by cases h1
  | .list _, _, _, _, _, _, _, _, _, _, h1, _, _, _ => by cases h1
  | .dict _, _, _, _, _, _, _, _, _, _, h1, _, _, _ => by cases h1
theorem fl_of : ∀ (xs ys : List PyData) (A : Around) (s : Shared) (us vs : List Value) (as bs : List Addr), ReadsAll s.heap us xs as → ReadsAll s.heap vs ys bs → skL xs = true → skL ys = true → fitL xs ys = true →
    A.units + min (PyData.depthAll xs) (PyData.depthAll ys) < cLine → FL A s (decide (xs.length < ys.length)) (us.zip vs) (lx (keyToksAll xs) (keyToksAll ys))
  | [], ys, A, s, us, vs, as, bs, ru, rv, _, _, _, _ => by
    cases ru
    rw [List.zip_nil_left, lt_end]
    exact .nil
  | x :: xs, [], A, s, us, vs, as, bs, ru, rv, _, _, _, _ => by
    cases rv
    rw [List.zip_nil_right, lt_end2, show decide ((x :: xs).length < ([] : List PyData).length) = false from by simp]
    exact .nil
  | x :: xs, y :: ys, A, s, us, vs, as, bs, ru, rv, h1, h2, hf, room => by
    cases ru with
    | cons r rs =>
      cases rv with
      | cons r' rs' =>
        obtain ⟨s1, s2⟩ := skL_cons h1
        obtain ⟨t1, t2⟩ := skL_cons h2
        rw [List.zip_cons_cons]
        have he := eqAt_reads x y A s _ _ _ _ r r' (sk_lay s1) (sk_lay t1) (room_head room)
        have hf : (if PyData.eqv x y = true then fitL xs ys else fit x y) = true := hf
        have hl : decide ((x :: xs).length < (y :: ys).length) = decide (xs.length < ys.length) := by simp
        rw [hl]
        cases c : PyData.eqv x y with
        | true =>
          rw [c] at he
          rw [if_pos c] at hf
          rw [lt_same s1 t1 c]
          exact .same he (fl_of xs ys A s _ _ _ _ rs rs' s2 t2 hf (room_tail room))
        | false =>
          rw [c] at he
          rw [if_neg (by rw [c]; decide)] at hf
          rw [lt_diff s1 t1 c]
          exact .diff he (rcLt_of x y A s _ _ _ _ r r' s1 t1 hf (room_head room))
end
mutual
theorem one_of {h : Heap} : ∀ (x y : PyData) (v : Value) (as bs : List Addr), sk x = true → sk y = true → Reads h v x as → Reads h v y bs → x = y
  | .str _, y, _, _, _, _, h2, r, r' => by
    cases r
    cases r' with
    | str => rfl
  | .tuple xs, y, _, _, _, h1, h2, r, r' => by
    cases r with
    | tuple a1 a2 a3 a4 =>
      cases r' with
      | tuple b1 b2 b3 b4 =>
        rw [a1] at b1
        cases b1
        rw [a3] at b3
        cases b3
        rw [oneL_of xs _ _ _ _ h1 h2 a4 b4]
      | list b1 b2 b3 b4 => cases h2
      | dict b1 b2 b3 b4 b5 => cases h2
theorem oneL_of {h : Heap} : ∀ (xs ys : List PyData) (vs : List Value) (as bs : List Addr), skL xs = true → skL ys = true → ReadsAll h vs xs as → ReadsAll h vs ys bs → xs = ys
  | [], _, _, _, _, _, _, r, r' => by
    cases r
    cases r'
    rfl
  | x :: xs, ys, _, _, _, h1, h2, r, r' => by
    cases r with
    | cons a1 a2 =>
      cases r' with
      | cons b1 b2 => rw [one_of x _ _ _ _ (skL_cons h1).1 (skL_cons h2).1 a1 b1, oneL_of xs _ _ _ _ (skL_cons h1).2 (skL_cons h2).2 a2 b2]
end
/-! ### such values can be sorted -/
def Heads (ds : List PyData) : Prop := ∀ d ∈ ds, ∃ t r, d = .tuple (.str t :: r)
def Fits (ds : List PyData) : Prop := (∀ d ∈ ds, sk d = true) ∧ ∀ d ∈ ds, ∀ e ∈ ds, fit d e = true
theorem kind_of {h : Heap} {ds : List PyData} (hs : ∀ d ∈ ds, sk d = true) {v : Value} {d : PyData} {as : List Addr} (hd : d ∈ ds) (r : Reads h v d as) : (dataKind h ds).keyOf v = some (keyToks d) := by
  have q : ∃ d, d ∈ ds ∧ ∃ as, Reads h v d as := ⟨d, hd, as, r⟩
  have e : (dataKind h ds).keyOf v = some (keyToks q.choose) := dif_pos q
  obtain ⟨h1, bs, h2⟩ := q.choose_spec
  rw [e, one_of _ _ _ _ _ (hs _ h1) (hs _ hd) h2 r]
section
variable {prog : Program} {w : World} {A : Around} {E : Value → Shared → Prop} {s : Shared}
theorem oneLt_of {f : Bool} {x y : PyData} {u v : Value} {as bs : List Addr} {Q : Bool → Shared → Prop} (hf : f = true → ∃ t, x = .str t) (ru : Reads s.heap u x as) (rv : Reads s.heap v y bs) (h1 : sk x = true) (h2 : sk y = true) (h3 : fit x y = true)
    (room : A.units + min x.depth y.depth < cLine) (good : Q (dataLt x y) s) : wpAny (model prog w) A (oneLt' f u v) Q E s := by
  cases f with
  | false =>
    rw [oneLt'_eq]
    simp only [Bool.false_eq_true, if_false]
    exact wpAny_bind (rcLt_of x y A s u v as bs ru rv h1 h2 h3 room prog w E _ (wpAny_truthy_bool good))
  | true =>
    obtain ⟨t, rfl⟩ := hf rfl
    cases y with
    | str z =>
      cases ru
      cases rv
      rw [dataLt_str] at good
      exact oneLt_str good
    | _ => cases h3
theorem lex_of {b : Bool} {Q : Bool → Shared → Prop} : ∀ (xs ys : List PyData) (i : Nat) (us vs : List Value) (as bs : List Addr), ReadsAll s.heap us xs as → ReadsAll s.heap vs ys bs → skL xs = true → skL ys = true → fitL xs ys = true →
    A.units + min (PyData.depthAll xs) (PyData.depthAll ys) < cLine → (i = 0 → ∃ t r, xs = .str t :: r) → Q (lx (keyToksAll xs) (keyToksAll ys)) s → KatLex prog w A b (decide (xs.length < ys.length)) Q (us.zip vs) i s
  | [], ys, i, us, vs, as, bs, ru, rv, _, _, _, _, _, good => by
    cases ru
    rw [lt_end] at good
    rw [List.zip_nil_left]
    exact kat_nil good
  | x :: xs, [], i, us, vs, as, bs, ru, rv, _, _, _, _, _, good => by
    cases rv
    rw [lt_end2] at good
    rw [List.zip_nil_right]
    exact kat_nil (by simpa using good)
  | x :: xs, y :: ys, i, us, vs, as, bs, ru, rv, h1, h2, hf, room, hi, good => by
    cases ru with
    | cons r rs =>
      cases rv with
      | cons r' rs' =>
        obtain ⟨s1, s2⟩ := skL_cons h1
        obtain ⟨t1, t2⟩ := skL_cons h2
        rw [List.zip_cons_cons]
        have hf : (if PyData.eqv x y = true then fitL xs ys else fit x y) = true := hf
        have hl : decide ((x :: xs).length < (y :: ys).length) = decide (xs.length < ys.length) := by simp
        rw [hl]
        refine kat_cons (eqAt_reads x y A s _ _ _ _ r r' (sk_lay s1) (sk_lay t1) (room_head room) prog w _ _ ?_)
        cases c : PyData.eqv x y with
        | true =>
          rw [if_pos c] at hf
          rw [lt_same s1 t1 c] at good
          exact kat_yes (lex_of xs ys (i + 1) _ _ _ _ rs rs' s2 t2 hf (room_tail room) (fun z => absurd z (Nat.succ_ne_zero i)) good)
        | false =>
          rw [if_neg (by rw [c]; decide)] at hf
          rw [lt_diff s1 t1 c] at good
          refine kat_no (oneLt_of (fun z => ?_) r r' s1 t1 hf (room_head room) good)
          rw [Bool.and_eq_true] at z
          obtain ⟨t, q, e⟩ := hi (by simpa using z.2)
          cases e
          exact ⟨t, rfl⟩
theorem sorts {vs : List Value} {ds : List PyData} (e : EachIs (fun v d => ∃ as, Reads s.heap v d as) vs ds) (hh : Heads ds) (hf : Fits ds) (room : ∀ d ∈ ds, A.units + d.depth < cLine) : SortsAt prog w A s (dataKind s.heap ds) vs := by
  have room2 : ∀ {d d' : PyData}, d ∈ ds → A.units + min d.depth d'.depth < cLine := fun {d d'} hd => by
    have := room d hd
    omega
  refine ⟨fun v hv => ?_, ?_⟩
  · obtain ⟨d, hd, as, r⟩ := e.left v hv
    exact ⟨_, kind_of hf.1 hd r⟩
  · cases ds with
    | nil =>
      cases e
      refine ⟨general', fun E x y a b Q ha _ _ => ?_, fun h2 => absurd h2 (by simp)⟩
      obtain ⟨d, _, hd, _⟩ := dataKind_inv ha
      cases hd
    | cons d0 rest =>
      obtain ⟨t0, r0, e0⟩ := hh d0 List.mem_cons_self
      refine ⟨tuples' (Value.type "str" != Value.type "tuple"), fun E x y a b Q ha hb good => ?_, fun h2 E Q good => ?_⟩
      · obtain ⟨d, as, hd, ra, rfl⟩ := dataKind_inv ha
        obtain ⟨d', bs, hd', rb, rfl⟩ := dataKind_inv hb
        have hdd := hf.2 d hd d' hd'
        have k1 := hf.1 d hd
        have k2 := hf.1 d' hd'
        have rm := room2 (d' := d') hd
        obtain ⟨t1, r1, rfl⟩ := hh d hd
        obtain ⟨t2, r2, rfl⟩ := hh d' hd'
        have good : Q (dataLt (.tuple (.str t1 :: r1)) (.tuple (.str t2 :: r2))) s := good
        rw [dataLt_tuple] at good
        cases ra with
        | @tuple l o us n _ _ a1 a2 a3 a4 =>
          cases rb with
          | @tuple l' o' ws n' _ _ b1 b2 b3 b4 =>
            have n1 : us.size = (PyData.str t1 :: r1).length := by simpa using ReadsAll.length _ _ _ a4
            have n2 : ws.size = (PyData.str t2 :: r2).length := by simpa using ReadsAll.length _ _ _ b4
            refine kat_lt a1 a3 b1 b3 ?_
            rw [n1, n2]
            have rm2 := room_in rm
            exact lex_of _ _ 0 _ _ _ _ a4 b4 k1 k2 hdd (by have q : A.in1.units = A.units + 1 := rfl; omega) (fun _ => ⟨_, _, rfl⟩) good
      · obtain ⟨fs, q1, q2, q3⟩ := each_katTups e fun d hd => by
          obtain ⟨t, r, z⟩ := hh d hd
          exact ⟨_, _, z⟩
        refine kat_kind (T := Value.type "str") q1 (by omega) (fun f hf' => ?_) (beq_self_eq_true _) good
        obtain ⟨x, r, as, m1, m2⟩ := q3 f hf'
        obtain ⟨t, r', z⟩ := hh _ m1
        cases z
        exact looks_reads m2
end
end Sd

set_option autoImplicit false
set_option linter.all false
set_option maxRecDepth 100000
namespace Sd
open PySem PySem.W PySem.Calls PyProof.Rows
section
variable {prog : Program} {w : World} {A : Around} {E : Value → Shared → Prop} {s : Shared}
/-- the items of a tuple, gathered -/
theorem gather_tup {l : Addr} {vs : List Value} {Q : List Value → Shared → Prop} (hl : s.heap.IsTuple l vs.toArray) (hsz : vs.length ≤ sizeLine)
    (good : Q vs { s with heap := (s.heap.push (seqObj "list" #[] 0)).update s.heap.objs.size (Obj.mapSeq (· ++ vs.toArray)) }) : wpAny (model prog w) A (collect (.ref l)) Q E s := by
  obtain ⟨o, ho, hc, n, hd⟩ := id hl
  unfold collect
  refine wpAny_bind (wpAny_runValue (codeAny_builtin entry_proto_collect' ?_))
  show wpAny _ _ (do again (.builtin "list.__iadd__" ⟨[← newList [], .ref l], []⟩)) _ _ s
  refine wpAny_bind (wpAny_newList (wpAny_pure ⟨Code.quiet_builtin _ (by decide +kernel), codeAny_builtin entry_list_iadd' ?_⟩))
  show wpAny _ _ (Builtin.List.listExtendWith (.ref s.heap.objs.size) (.ref l) (.ref s.heap.objs.size)) _ _ { s with heap := s.heap.push (seqObj "list" #[] 0) }
  unfold Builtin.List.listExtendWith
  have there : (s.heap.push (seqObj "list" #[] 0)).get? l = some o := Heap.get?_push_of_some _ ho
  refine wpAny_bind (wpAny_typeOf (T := "tuple") ⟨o, there, hc⟩ ?_)
  rw [if_pos (by simp)]
  refine wpAny_bind (listItems_at there hd ?_)
  refine wpAny_bind (listItems_at (xs := #[]) (n := 0) (Heap.get?_push_size _ rfl) rfl ?_)
  rw [if_neg (by simp)]
  have few : ((#[] : Array Value) ++ vs.toArray).size ≤ sizeLine + 1 := by
    simp only [Array.size_append, List.size_toArray, List.length_nil]
    omega
  refine wpAny_bind (listUpdate_at (xs := #[]) (n := 0) (Heap.get?_push_size _ rfl) rfl ?_ (Nat.zero_le _) few)
  refine wpAny_pure ?_
  show wpAny (model prog w) A (load s.heap.objs.size >>= fun o => match o.data with
      | .seq xs _ => pure xs.toList
      | _ => unsupported "internal:collect") Q E { s with heap := (s.heap.push (seqObj "list" #[] 0)).update s.heap.objs.size (Obj.mapSeq (· ++ vs.toArray)) }
  refine wpAny_bind (wpAny_load (get?_update_seq (Heap.get?_push_size _ rfl) _) ?_)
  have e : ((#[] : Array Value) ++ vs.toArray).toList = vs := by simp
  show wpAny _ _ (pure ((#[] : Array Value) ++ vs.toArray).toList) Q E _
  rw [e]
  exact wpAny_pure good
/-- sorted(a list or a tuple): the one sorted list -/
theorem sorted_seq {κ : PyProof.Rows.KeyKind} {l : Addr} {vs : List Value} {Q : Value → Shared → Prop} (hl : s.heap.IsList l vs.toArray ∨ s.heap.IsTuple l vs.toArray) (hsz : vs.length ≤ sizeLine)
    (S : SortsAt prog w A.in1.in1 { s with heap := sortingHeap (copyHeap s.heap vs) (s.heap.objs.size + 1) vs } κ vs)
    (good : Q (.ref (s.heap.objs.size + 1)) { s with heap := sortedAll s.heap vs (sortVals κ false vs vs).toArray }) : wpAny (model prog w) A (call (.builtin "sorted") [.ref l]) Q E s := by
  rcases hl with hl | hl
  · exact sorted_vals hl S hsz good
  · refine call_function_entry_kw kind_sorted plain_sorted entry_sorted (args_sorted1 _) ?_
    unfold Builtin.«sorted»
    refine wpAny_bind (m := checkCount "sorted" 1 1 _) (wpAny_pure ?_)
    refine wpAny_bind (gather_tup hl hsz ?_)
    refine wpAny_bind (wpAny_newList ?_ hsz)
    have grown : ((s.heap.push (seqObj "list" #[] 0)).update s.heap.objs.size (Obj.mapSeq (· ++ vs.toArray))).objs.size = s.heap.objs.size + 1 := by
      rw [Heap.size_update, size_push']
    show wpAny _ _ _ _ _ { s with heap := copyHeap s.heap vs }
    rw [grown]
    refine wpAny_bind (wpAny_holding (wpAny_call_entry_kw slot_list_sort ⟨_, copyHeap_at s.heap vs, rfl⟩ entry_list_sort ?inner (args_list_sort _)))
    case inner =>
      show wpAny (model prog w) A.in1.in1 (Builtin.«list.sort» ⟨[.ref (s.heap.objs.size + 1)], []⟩) _ _ _
      exact list_sort_vals (s := { s with heap := copyHeap s.heap vs }) (copyHeap_at s.heap vs) S hsz ⟨.none, rfl, wpAny_pure ⟨_, rfl, good⟩⟩
end
end Sd
namespace L2
open PySem PySem.Spec PySem.W PyProof.Rows
theorem vals_each {zs : List (V × PyData)} : ∀ {out : List Value}, EachIs (fun v z => RelV z.1 v) out zs → Vals (zs.map Prod.fst) out := by
  induction zs with
  | nil => intro out h; cases h; exact .nil
  | cons z zs ih =>
    intro out h
    cases h with
    | cons h1 t => exact .cons h1 (ih t)
theorem each_vals {zs : List (V × PyData)} : ∀ {out : List Value}, Vals (zs.map Prod.fst) out → EachIs (fun v z => RelV z.1 v) out zs := by
  induction zs with
  | nil => intro out h; cases h; exact .nil
  | cons z zs ih =>
    intro out h
    cases h with
    | cons h1 t => exact .cons h1 (ih t)
/-- the order of sorted -/
def sdLe (z z' : V × PyData) : Bool := sortLe (listOrd itemOrd) false (fun z : V × PyData => keyToks z.2) z z'
def rSortD (K : PySem.W.Frag) : List V → Hp → VK → Prop := fun vs H Q => ∃ (a : Addr) (zs : List (V × PyData)), vs = [V.ref a] ∧ (SqL K H a (zs.map Prod.fst) ∨ SqT K H a (zs.map Prod.fst)) ∧
  (∀ z ∈ zs, Dp K H z.1 z.2) ∧ Sd.Heads (zs.map Prod.snd) ∧ Sd.Fits (zs.map Prod.snd) ∧ (∀ z ∈ zs, z.2.depth ≤ 60) ∧ ∀ p, H p = none → Q (.ref p) (upd H p (.lst ((zs.mergeSort sdLe).map Prod.fst)))
section
variable {X : Cx}
theorem each_sel {α β : Type} {R P : α → β → Prop} : ∀ {as : List α} {bs : List β}, EachIs R as bs → (∀ a, ∀ b ∈ bs, R a b → P a b) → EachIs P as bs
  | _, _, .nil, _ => .nil
  | _, _, .cons h t, k => .cons (k _ _ List.mem_cons_self h) (each_sel t fun a b hb => k a b (List.mem_cons_of_mem _ hb))
theorem each_snd {R : Value → PyData → Prop} : ∀ {as : List Value} {zs : List (V × PyData)}, EachIs (fun v z => R v z.2) as zs → EachIs R as (zs.map Prod.snd)
  | _, _, .nil => .nil
  | _, _, .cons h t => .cons h (each_snd t)
theorem call_sortD (hu : X.A.units + 65 < cLine) : CallR X (.builtin "sorted") (rSortD X.K) := by
  intro pins s σ H vs us Q I r h
  obtain ⟨a, zs, rfl, hs, hd, hh, hf, h60, q⟩ := h
  rw [Vals.ref1 r]
  obtain ⟨its, rv, hl, hz⟩ : ∃ its : List Value, Vals (zs.map Prod.fst) its ∧ (s.heap.IsList a its.toArray ∨ s.heap.IsTuple a its.toArray) ∧ (zs.map Prod.fst).length ≤ sizeLine := by
    rcases hs with hs | hs
    · obtain ⟨its, rv, hl, hz⟩ := I.list hs
      exact ⟨its, rv, .inl hl.isList, hz⟩
    · obtain ⟨its, rv, ht, hz⟩ := I.tuple hs
      exact ⟨its, rv, .inr ht, hz⟩
  have hlen := rv.length
  have er := each_vals rv
  have rd : EachIs (fun v z => ∃ as, Reads s.heap v z.2 as) its zs := each_sel er fun v z hz hr => Dp.reads I z.2 z.1 v (hd z hz) hr
  have rd2 : EachIs (fun v z => ∃ as, Reads (sortingHeap (copyHeap s.heap its) (s.heap.objs.size + 1) its) v z.2 as) its zs := rd.mono fun _ _ ⟨as, r⟩ => ⟨as, PyProof.Rows.Reads.keeps (fun _ _ => sorting_copy_old) r⟩
  refine Sd.sorted_seq hl (by omega) (Sd.sorts (s := { s with heap := sortingHeap (copyHeap s.heap its) (s.heap.objs.size + 1) its }) (each_snd rd2) hh hf fun d hd => ?_) ?_
  · obtain ⟨z, hz, rfl⟩ := List.mem_map.mp hd
    have := h60 z hz
    show X.A.units + 1 + 1 + z.2.depth < cLine
    omega
  · have out := sortVals_each (rev := false) (κ := dataKind (sortingHeap (copyHeap s.heap its) (s.heap.objs.size + 1) its) (zs.map Prod.snd)) (fun z : V × PyData => keyToks z.2) er
      (each_sel rd2 fun v z hz ⟨as, r⟩ => Sd.kind_of hf.1 (List.mem_map_of_mem hz) r)
    have ov : Vals ((zs.mergeSort sdLe).map Prod.fst) _ := vals_each out
    obtain ⟨ep, he⟩ := PyProof.Rows.sortedAll_at s.heap its (sortVals (dataKind (sortingHeap (copyHeap s.heap its) (s.heap.objs.size + 1) its) (zs.map Prod.snd)) false its its).toArray
    have hn : ((zs.mergeSort sdLe).map Prod.fst).length ≤ sizeLine := by
      rw [List.length_map, List.length_mergeSort]
      rw [List.length_map] at hz
      exact hz
    exact ⟨.ref _, upd H (s.heap.objs.size + 1) (.lst ((zs.mergeSort sdLe).map Prod.fst)), I.laid (t' := s.toks) (fun _ _ => PyProof.Rows.sortedAll_old) (Nat.le_succ _) ⟨hn, _, ep, ov, he⟩, rfl, q _ (I.hok.fresh (Nat.le_succ _))⟩
end
end L2

set_option autoImplicit false
set_option linter.all false
namespace EV
open PySem

/-! ### values -/
inductive D where
  | non | bl (b : Bool) | int (i : Int) | str (s : Str)
  | tup (ds : List D) | lst (ds : List D)
  | dic (ks vs : List D)
  | kon (ks vs : List D)
  | ins (c : Str) (fs : List Str) (vs : List D)
  /-- an exception: its class and those above it, by name; its fields -/
  | exn (cs : List Str) (fs : List Str) (vs : List D)
  | ref (n : Nat) | loc (i : Nat)
  deriving Repr, Inhabited

/-! ### the terms -/
inductive BOp where
  | add | sub | mul | mod | fdiv | pow
  deriving Repr, DecidableEq
inductive COp where
  | eq | ne | lt | le | gt | ge | isin | notin | is | isnot
  deriving Repr, DecidableEq
inductive Ty where
  | int | bool | str | tuple | list | dict | cls (c : Str)
  deriving Repr, DecidableEq
inductive Blt where
  | len | list | tuple | int | str | repr | sum | all | any | max2 | min2 | max1 | min1 | sorted | sortedset | listrev | tuprev | dict
  deriving Repr, DecidableEq
inductive BM where
  | append | pop0 | pop1 | extend | remove | insert | clear | reverse | join | split | get1 | get2 | index | count | find2 | replace2 | replace3 | strip | upper | rfind
  deriving Repr, DecidableEq
inductive TG where
  | slot (i : Nat) (p : Bool) | tup (l : List TG)
  deriving Repr
mutual
inductive TE where
  | con (d : D) | slot (i : Nat) | glob (x : Str)
  | bin (o : BOp) (a b : TE) | neg (a : TE) | not (a : TE) | and (a b : TE) | or (a b : TE)
  | cmp (o : COp) (a b : TE) | chain (o p : COp) (a b c : TE) | chain3 (o p q : COp) (a b c d : TE) | ite (t a b : TE)
  | tup (l : TL) | lst (l : TL) | dic (l : TL)
  | idx (a b : TE) | sli (a : TE) (lo hi : TO) | rev (a : TE)
  | fld (a : TE) (f : Str)
  | call (f : Str) (l : TL) | make (c : Str) (l : TL) | meth (a : TE) (m : Str) (l : TL)
  | blt (b : Blt) (l : TL) | bm (b : BM) (a : TE) (l : TL)
  | comp (elt : TE) (tg : TG) (src : TI) (ifs : TL) (own : List Nat)
  | isi (a : TE) (tys : List Ty)
  /-- an exception made, C() of a class without own __init__ -/
  | exc0 (cs : List Str)
  /-- C(e) of a class whose __init__ keeps its argument in one field (and writes it, where k) -/
  | exc1 (cs : List Str) (f : Str) (k : Bool) (a : TE)
inductive TL where
  | nil | cons (a : TE) (l : TL)
inductive TO where
  | none | some (a : TE)
inductive TI where
  | val (a : TE) | range (l : TL) | enum (a : TE) | zip (a b : TE) | rev (a : TE)
end
mutual
inductive TS where
  | asg (tg : TG) (e : TE)
  | par (is : List Nat) (es : TL)
  | sub (o i e : TE) | attr (o : TE) (f : Str) (e : TE)
  | augattr (o : TE) (f : Str) (op : BOp) (e : TE)
  | augsub (o i : TE) (op : BOp) (e : TE)
  | expr (e : TE)
  | ret (e : TE) | retn
  | ite (t : TE) (a b : TB)
  | for_ (tg : TG) (src : TI) (b : TB)
  | while_ (t : TE) (b : TB)
  | brk | cont | pass
  /-- raise C(), raise C("..") of a class without own __init__ -/
  | raise (cs : List Str)
  /-- raise C(e), as exc1 -/
  | raise1 (cs : List Str) (f : Str) (k : Bool) (e : TE)
  /-- try: b; except t as i: j = i -/
  | try_ (b : TB) (t : Str) (i j : Nat)
inductive TB where
  | nil | cons (s : TS) (b : TB)
end

/-! ### equality and order of values -/
mutual
def D.eqv : D → D → Bool
  | .non, .non => true
  | .bl a, .bl b => a == b
  | .bl a, .int i => (if a then 1 else 0) == i
  | .int i, .bl a => i == (if a then 1 else 0)
  | .int i, .int j => i == j
  | .str a, .str b => decide (a = b)
  | .tup a, .tup b => D.eqvL a b
  | .lst a, .lst b => D.eqvL a b
  | _, _ => false
def D.eqvL : List D → List D → Bool
  | [], [] => true
  | a :: l, b :: m => D.eqv a b && D.eqvL l m
  | _, _ => false
end
mutual
/-- nothing but None, bools, ints, texts, tuples, lists -/
def D.pure : D → Bool
  | .non => true | .bl _ => true | .int _ => true | .str s => s.cps.all (· < 0x110000)
  | .tup l => D.pureL l | .lst l => D.pureL l
  | _ => false
def D.pureL : List D → Bool
  | [] => true
  | a :: l => D.pure a && D.pureL l
end
mutual
/-- nothing but None, ints, texts, tuples -/
def D.key : D → Bool
  | .non => true | .int _ => true | .str _ => true
  | .tup l => D.keyL l
  | _ => false
def D.keyL : List D → Bool
  | [] => true
  | a :: l => D.key a && D.keyL l
end
mutual
def D.depth : D → Nat
  | .tup l => D.depthL l + 1
  | .lst l => D.depthL l + 1
  | _ => 0
def D.depthL : List D → Nat
  | [] => 0
  | a :: l => Nat.max (D.depth a) (D.depthL l)
end
def D.ok (d : D) : Bool := d.pure && decide (d.depth ≤ 60)
def D.kok (d : D) : Bool := d.key && decide (d.depth ≤ 60)
/-- a dict's key -/
def D.fk : D → Bool
  | .int _ => true | .str _ => true
  | _ => false
def D.flat : D → Bool
  | .non => true | .bl _ => true | .int _ => true | .str _ => true
  | _ => false
def D.scal2 : D → D → Bool
  | .bl _, .int _ => false
  | .int _, .bl _ => false
  | a, b => a.flat && b.flat

def strLt (a b : Str) : Bool := decide (a.cps.toList < b.cps.toList)
def D.rank : D → Nat
  | .non => 0 | .bl _ => 1 | .int _ => 2 | .str _ => 3 | .tup _ => 4 | .lst _ => 5 | .dic .. => 6 | .kon .. => 10 | .ins .. => 7 | .exn .. => 11 | .ref _ => 8 | .loc _ => 9
mutual
/-- a linear order (of None, bools, ints, texts, tuples, lists of such) -/
def D.cmp : D → D → Ordering
  | .bl a, .bl b => compare a.toNat b.toNat
  | .int i, .int j => compare i j
  | .str a, .str b => if strLt a b then .lt else if strLt b a then .gt else .eq
  | .tup a, .tup b => D.cmpL a b
  | .lst a, .lst b => D.cmpL a b
  | a, b => compare a.rank b.rank
def D.cmpL : List D → List D → Ordering
  | [], [] => .eq
  | [], _ :: _ => .lt
  | _ :: _, [] => .gt
  | a :: l, b :: m => match D.cmp a b with
    | .eq => D.cmpL l m
    | o => o
end
mutual
/-- the value as Python data -/
def D.py : D → PyData
  | .bl b => .bool b
  | .int i => .int i
  | .str s => .str s
  | .tup l => .tuple (D.pyL l)
  | .lst l => .list (D.pyL l)
  | _ => .none
def D.pyL : List D → List PyData
  | [] => []
  | a :: l => D.py a :: D.pyL l
end
def D.headS : D → Bool
  | .tup (.str _ :: _) => true
  | _ => false
/-- a tuple of texts and such tuples, a text first -/
def D.sortable (d : D) : Bool := d.headS && Sd.sk d.py && decide (d.py.depth ≤ 60)
def D.le (a b : D) : Bool := W.sortLe (PyProof.Rows.listOrd PyProof.Rows.itemOrd) false W.keyToks a.py b.py
def sortD (ds : List D) : List D := ds.mergeSort D.le
def sortOk (ds : List D) : Bool := ds.all fun a => a.sortable && ds.all fun b => Sd.fit a.py b.py
def inD (d : D) (ds : List D) : Bool := ds.any fun z => D.eqv z d
def dedup : List D → List D
  | [] => []
  | a :: l => a :: (dedup l).filter fun b => !D.eqv a b

/-! ### the state and the monad -/
/-- how a name holds its value: shared, its own, its own and walked by a loop, lent by the caller -/
inductive Own where
  | sh | own | lock | bor
  deriving Repr, DecidableEq
abbrev Slot := Option (D × Own)
structure W where
  ρ : List Slot
  S : List D
/-- an error: its class, its fields -/
structure Ex where
  c : List Str
  fs : List Str
  vs : List D
inductive Res (σ α : Type) where
  | ok (a : α) (s : σ) | exc (x : Ex) (s : σ) | stuck
abbrev M (α : Type) := W → Res W α
abbrev Hd := D × Bool
def M.pure {α : Type} (a : α) : M α := fun s => .ok a s
def M.bind {α β : Type} (m : M α) (f : α → M β) : M β := fun s =>
  match m s with
  | .ok a s' => f a s'
  | .exc x s' => .exc x s'
  | .stuck => .stuck
instance : Monad M where
  pure := M.pure
  bind := M.bind
def stuck {α : Type} : M α := fun _ => .stuck
def chk (b : Bool) : M Unit := if b then M.pure () else stuck
def liftO {α : Type} : Option α → M α
  | some a => M.pure a
  | none => stuck

def D.mutable : D → Bool
  | .lst _ => true | .dic .. => true | .ins .. => true
  | _ => false

/-- a name read -/
def slotH (i : Nat) : M Hd := fun s =>
  match s.ρ[i]? with
  | some (some (d, .sh)) => .ok (d, false) s
  | some (some (_, _)) => .ok (.loc i, false) s
  | _ => .stuck
/-- a value handed on: a local object is shared from then on -/
def esc : Hd → M Hd
  | (.loc i, _) => fun s =>
    match s.ρ[i]? with
    | some (some (d, .own)) => .ok (d, false) { s with ρ := s.ρ.set i (some (d, .sh)) }
    | _ => .stuck
  | h => M.pure h
/-- a value returned: a local object goes to the caller -/
def give : Hd → M Hd
  | (.loc i, _) => fun s =>
    match s.ρ[i]? with
    | some (some (d, .own)) => .ok (d, true) { s with ρ := s.ρ.set i none }
    | _ => .stuck
  | h => M.pure h
/-- what a value holds, to be looked at -/
def peek : Hd → M D
  | (.loc i, _) => fun s =>
    match s.ρ[i]? with
    | some (some (d, .sh)) => .stuck
    | some (some (d, _)) => .ok d s
    | _ => .stuck
  | (.ref n, _) => fun s =>
    match s.S[n]? with
    | some d => .ok d s
    | none => .stuck
  | (d, _) => M.pure d
/-- an object that others may change -/
def toCell : Hd → M Hd
  | (.loc i, _) => fun s =>
    match s.ρ[i]? with
    | some (some (d, .own)) => .ok (.ref s.S.length, false) { ρ := s.ρ.set i (some (.ref s.S.length, .sh)), S := s.S ++ [d] }
    | _ => .stuck
  | (d, true) => fun s => if d.mutable then .ok (.ref s.S.length, false) { s with S := s.S ++ [d] } else .ok (d, false) s
  | h => M.pure h
/-- an object changed: f gives the answer and the new content -/
def change (h : Hd) (f : D → Option (D × D)) : M Hd :=
  match h with
  | (.loc i, _) => fun s =>
    match s.ρ[i]? with
    | some (some (d, .own)) =>
      match f d with
      | some (r, d') => .ok (r, false) { s with ρ := s.ρ.set i (some (d', .own)) }
      | none => .stuck
    | _ => .stuck
  | (.ref n, _) => fun s =>
    match s.S[n]? with
    | some d =>
      match f d with
      | some (r, d') => .ok (r, false) { s with S := s.S.set n d' }
      | none => .stuck
    | none => .stuck
  | _ => stuck
def isLock : Option Slot → Bool
  | some (some (_, .lock)) => true
  | _ => false
def isNone1 : Option Slot → Bool
  | some none => true
  | _ => false
def setSlot (i : Nat) (p : Bool) (h : Hd) : M Unit := fun s =>
  if i < s.ρ.length && !isLock s.ρ[i]? then
    match h with
    | (.loc _, _) => .stuck
    | (d, fr) =>
      if fr && d.mutable then
        if p then .ok () { ρ := s.ρ.set i (some (.ref s.S.length, .sh)), S := s.S ++ [d] }
        else .ok () { s with ρ := s.ρ.set i (some (d, .own)) }
      else .ok () { s with ρ := s.ρ.set i (some (d, .sh)) }
  else .stuck
/-- what a loop walks: a local object is not changed meanwhile -/
def lockH : Hd → M (D × List Nat)
  | (.loc i, _) => fun s =>
    match s.ρ[i]? with
    | some (some (d, .own)) => .ok (d, [i]) { s with ρ := s.ρ.set i (some (d, .lock)) }
    | some (some (d, .lock)) => .ok (d, []) s
    | some (some (d, .bor)) => .ok (d, []) s
    | _ => .stuck
  | (.ref _, _) => stuck
  | (d, _) => M.pure (d, [])
def unlock : List Nat → M Unit
  | [] => M.pure ()
  | i :: l => fun s =>
    match s.ρ[i]? with
    | some (some (d, .lock)) => unlock l { s with ρ := s.ρ.set i (some (d, .own)) }
    | _ => unlock l s

/-! ### operations on values -/
def line : Nat := 16777216
def b2i (b : Bool) : Int := if b then 1 else 0
def small (i : Int) : Bool := decide (-(2 ^ 64) < i) && decide (i < 2 ^ 64)
def rep {α : Type} (l : List α) : Nat → List α
  | 0 => []
  | n + 1 => l ++ rep l n
def binop : BOp → D → D → Option Hd
  | .add, .int i, .int j => some (.int (i + j), false)
  | .add, .str s, .str t => if s.length + t.length ≤ line then some (.str (s ++ t), false) else none
  | .add, .lst l, .lst m => if l.length + m.length ≤ line then some (.lst (l ++ m), true) else none
  | .add, .tup l, .tup m => if l.length + m.length ≤ line then some (.tup (l ++ m), false) else none
  | .sub, .int i, .int j => some (.int (i - j), false)
  | .mul, .int i, .int j => if small i || small j then some (.int (i * j), false) else none
  | .mul, .lst l, .int j => if l.length * j.toNat ≤ line && decide (-(2 ^ 62) ≤ j) && decide (j < 2 ^ 62) then some (.lst (rep l j.toNat), true) else none
  | .mul, .tup l, .int j => if !l.isEmpty && decide (l.length ≤ 1000) && decide (0 ≤ j) && decide (j ≤ 1000) then some (.tup (rep l j.toNat), false) else none
  | .mul, .str s, .int j => if decide (s.length ≤ 1000) && decide (0 ≤ j) && decide (j ≤ 1000) then some (.str ⟨(rep s.cps.toList j.toNat).toArray⟩, false) else none
  | .mod, .int i, .int j => if 0 < j then some (.int (i % j), false) else none
  | .fdiv, .int i, .int j => if 0 < j && decide (j < 1073741824) then some (.int (i / j), false) else none
  | .pow, .int i, .int j => if 0 ≤ j && decide (j ≤ 1000) && small i then some (.int (i ^ j.toNat), false) else none
  | _, _, _ => none
def D.isNon : D → Bool
  | .non => true
  | _ => false
/-- += , -= of ints -/
def augI : BOp → D → D → Option D
  | .add, .int i, .int j => some (.int (i + j))
  | .sub, .int i, .int j => some (.int (i - j))
  | _, _, _ => none
def isD : D → D → Option Bool
  | x, .non => some x.isNon
  | .bl a, .bl b => some (a == b)
  | _, _ => none
def D.isInt : D → Bool
  | .int _ => true
  | _ => false
def D.isStr : D → Bool
  | .str _ => true
  | _ => false
def hasKey (ks : List D) (k : D) : Bool := ks.any fun z => D.eqv z k
def inOp (x y : D) : Option Bool :=
  match y with
  | .lst l => if (x.flat && l.all D.flat) || (x.ok && (D.lst l).ok) then some (inD x l) else none
  | .tup l => if (x.flat && l.all D.flat) || (x.ok && (D.tup l).ok) then some (inD x l) else none
  | .dic ks _ => if x.fk then some (hasKey ks x) else none
  | .kon ks _ => if x.isStr then some (hasKey ks x) else none
  | .str t => match x with
    | .str s => some (!(Builtin.Str.occurrences t s 0 t.length 1).isEmpty)
    | _ => none
  | _ => none
def ltOp (x y : D) : Option Bool :=
  match x, y with
  | .int i, .int j => some (decide (i < j))
  | .str a, .str b => some (strLt a b)
  | _, _ => none
def ordOp (f : Int → Int → Bool) (x y : D) : Option Bool :=
  match x, y with
  | .int i, .int j => some (f i j)
  | _, _ => none
def eqOk (x y : D) : Bool := D.scal2 x y || (x.ok && y.ok)
def cmpop : COp → D → D → Option Bool
  | .eq, x, y => if eqOk x y then some (D.eqv x y) else none
  | .ne, x, y => if eqOk x y then some (!D.eqv x y) else none
  | .lt, x, y => ltOp x y
  | .gt, x, y => ordOp (fun i j => decide (j < i)) x y
  | .le, x, y => ordOp (fun i j => decide (i ≤ j)) x y
  | .ge, x, y => ordOp (fun i j => decide (j ≤ i)) x y
  | .isin, x, y => inOp x y
  | .notin, x, y => (inOp x y).map (!·)
  | .is, x, y => isD x y
  | .isnot, x, y => (isD x y).map (!·)
def truth : D → Option Bool
  | .non => some false
  | .bl b => some b
  | .int i => some (i != 0)
  | .str s => if s.length ≤ line then some (s.length != 0) else none
  | .tup l => some (!l.isEmpty)
  | .lst l => some (!l.isEmpty)
  | .dic ks _ => some (!ks.isEmpty)
  | _ => none
/-- an item's place -/
def at? {α : Type} (l : List α) (i : Int) : Option α := L2.atI l i
def look : List D → List D → D → Option D
  | k :: ks, v :: vs, x => if D.eqv k x then some v else look ks vs x
  | _, _, _ => none
def idxop : D → D → Option D
  | .lst l, .int i => at? l i
  | .tup l, .int i => at? l i
  | .str s, .int i => if s.length ≤ line then (at? s.cps.toList i).map fun c => .str ⟨#[c]⟩ else none
  | .dic ks vs, k => if k.fk then look ks vs k else none
  | .kon ks vs, k => if k.isStr then look ks vs k else none
  | _, _ => none
def cut {α : Type} (l : List α) (lo hi : Option Int) : List α := (l.drop (HT.sIx l.length 0 lo)).take (HT.sIx l.length l.length hi - HT.sIx l.length 0 lo)
def sliop (x : D) (lo hi : Option Int) : Option Hd :=
  match x with
  | .lst l => some (.lst (cut l lo hi), true)
  | .tup l => some (.tup (cut l lo hi), false)
  | .str s => if s.length ≤ line then some (.str ⟨(cut s.cps.toList lo hi).toArray⟩, false) else none
  | _ => none
def revop : D → Option Hd
  | .lst l => some (.lst l.reverse, true)
  | _ => none
def fldop (ok : Str → Str → Bool) (x : D) (f : Str) : Option D :=
  match x with
  | .ins c fs vs => if ok c f then (fs.zip vs).lookup f else none
  | .exn cs fs vs => if ok (cs.headD Str.empty) f then (fs.zip vs).lookup f else none
  | _ => none
/-- of an object of an own class alone -/
def fldopI (ok : Str → Str → Bool) (x : D) (f : Str) : Option D := match x with
  | .ins c fs vs => fldop ok (.ins c fs vs) f
  | _ => none
/-- what an exception's own __init__ takes -/
def xarg (k : Bool) (d : D) : Bool := match d with
  | .int i => k && decide (0 ≤ i) && decide (i < 1000000000)
  | .str _ => !k
  | _ => false
def putFld : List Str → List D → Str → D → List Str × List D
  | g :: gs, v :: vs, f, d => if g = f then (g :: gs, d :: vs) else let r := putFld gs vs f d; (g :: r.1, v :: r.2)
  | _, _, f, d => ([f], [d])
def putVals : List D → List D → D → D → List D
  | k :: ks, v :: vs, x, d => (if D.eqv k x then d else v) :: putVals ks vs x d
  | _, _, _, _ => []
def putKey (ks vs : List D) (x d : D) : List D × List D := if hasKey ks x then (ks, putVals ks vs x d) else (ks ++ [x], vs ++ [d])
def setAt (l : List D) (i : Int) (d : D) : Option (List D) := (L2.ixN l.length i).map fun j => l.set j d
def storeAt (k v : D) (c : D) : Option (D × D) :=
  match c with
  | .lst l => match k with
    | .int i => (setAt l i v).map fun l' => (.non, .lst l')
    | _ => none
  | .dic ks vs => if k.fk && decide (ks.length < line) then let r := putKey ks vs k v; some (.non, .dic r.1 r.2) else none
  | _ => none
def storeFld (ok : Str → Str → Bool) (f : Str) (v : D) (c : D) : Option (D × D) :=
  match c with
  | .ins n fs vs => if ok n f && decide (fs.length < 1000) then let r := putFld fs vs f v; some (.non, .ins n r.1 r.2) else none
  | _ => none
/-- of one class -/
def sameC : D → D → Bool
  | .ins c _ _, .ins c' _ _ => decide (c = c')
  | _, _ => false
def intsD : List D → Option (List Int)
  | [] => some []
  | .int i :: l => (intsD l).map (i :: ·)
  | _ => none
def boolsD : List D → Option (List Bool)
  | [] => some []
  | .bl b :: l => (boolsD l).map (b :: ·)
  | _ => none
def strsD : List D → Option (List Str)
  | [] => some []
  | .str b :: l => (strsD l).map (b :: ·)
  | _ => none
def items? : D → Option (List D)
  | .lst l => some l
  | .tup l => some l
  | .dic ks _ => some ks
  | .str s => some (s.cps.toList.map fun c => .str ⟨#[c]⟩)
  | _ => none
/-- what a loop may walk -/
def walk? : D → Option (List D)
  | .lst l => some l
  | .tup l => some l
  | .str s => some (s.cps.toList.map fun c => .str ⟨#[c]⟩)
  | _ => none
def onlyL : D → Option (List D)
  | .lst l => some l
  | _ => none
def zip? : D → D → Option (List D × List D)
  | .lst l, .lst m => some (l, m)
  | .tup l, .tup m => some (l, m)
  | _, _ => none
def seq? : D → Option (List D)
  | .lst l => some l
  | .tup l => some l
  | _ => none
def pairs : List D → Option (List D × List D)
  | [] => some ([], [])
  | .tup [k, v] :: l => (pairs l).map fun r => (k :: r.1, v :: r.2)
  | _ => none
def putAll : List D → List D → List D → List D → List D × List D
  | ks, vs, k :: l, v :: m => let r := putKey ks vs k v; putAll r.1 r.2 l m
  | ks, vs, _, _ => (ks, vs)
def joinC (sep : List Nat) : List (List Nat) → List Nat
  | [] => []
  | [x] => x
  | x :: y :: l => x ++ sep ++ joinC sep (y :: l)
def quote (s : Str) : Str := ⟨(39 :: s.cps.toList ++ [39]).toArray⟩
def plainSign (c : Nat) : Bool := decide (32 ≤ c) && decide (c ≤ 126) && decide (c ≠ 39) && decide (c ≠ 92)
mutual
def reprL : D → Option (List Nat)
  | .non => some ("None".toList.map Char.toNat)
  | .bl true => some ("True".toList.map Char.toNat)
  | .bl false => some ("False".toList.map Char.toNat)
  | .int i => some ((toString i).toList.map Char.toNat)
  | .str s => if s.cps.toList.all plainSign then some (39 :: s.cps.toList ++ [39]) else none
  | .tup l => match reprs l with
    | some [] => some [40, 41]
    | some [x] => some (40 :: x ++ [44, 41])
    | some xs => some (40 :: joinC [44, 32] xs ++ [41])
    | none => none
  | .lst l => match reprs l with
    | some xs => some (91 :: joinC [44, 32] xs ++ [93])
    | none => none
  | _ => none
def reprs : List D → Option (List (List Nat))
  | [] => some []
  | a :: l => match reprL a, reprs l with
    | some x, some xs => some (x :: xs)
    | _, _ => none
end
/-- what repr answers -/
def reprD : D → Option Str
  | .non => some (Str.ofString "None")
  | .int i => if i.natAbs.log2 < 1920 then some (Str.ofString (toString i)) else none
  | .str s => if (reprText s).length ≤ line then some (reprText s) else none
  | _ => none
def bltop : Blt → List D → Option Hd
  | .len, [.lst l] => some (.int l.length, false)
  | .len, [.tup l] => some (.int l.length, false)
  | .len, [.dic ks _] => some (.int ks.length, false)
  | .len, [.str s] => if s.length ≤ line then some (.int s.length, false) else none
  | .list, [x] => (seq? x).map fun l => (.lst l, true)
  | .tuple, [x] => (seq? x).map fun l => (.tup l, false)
  | .int, [.int i] => some (.int i, false)
  | .int, [.bl b] => some (.int (b2i b), false)
  | .int, [.str s] => if s.length ≤ 640 then (PySem.intText? s).map fun n => (.int n, false) else none
  | .str, [.int i] => if i.natAbs.log2 < 1920 then some (.str (Str.ofString (toString i)), false) else none
  | .repr, [x] => (reprD x).map fun l => (.str l, false)
  | .sum, [.lst l] => (intsD l).map fun l => (.int l.sum, false)
  | .all, [.lst l] => (boolsD l).map fun l => (.bl (l.all id), false)
  | .any, [.lst l] => (boolsD l).map fun l => (.bl (l.any id), false)
  | .max2, [.int i, .int j] => some (.int (if j > i then j else i), false)
  | .min2, [.int i, .int j] => some (.int (if j < i then j else i), false)
  | .sorted, [x] => (seq? x).bind fun l => if sortOk l then some (.lst (sortD l), true) else none
  | .sortedset, [x] => (seq? x).bind fun l => if sortOk l then some (.lst (sortD (dedup l)), true) else none
  | .listrev, [.lst l] => some (.lst l.reverse, true)
  | .tuprev, [.lst l] => some (.tup l.reverse, false)
  | .dict, [x] => (seq? x).bind fun l => (pairs l).bind fun r => if r.1.all D.fk then let q := putAll [] [] r.1 r.2; some (.dic q.1 q.2, true) else none
  | _, _ => none
/-- what has the method -/
def bmTy : BM → D → Bool
  | .append, .lst _ => true | .pop0, .lst _ => true | .pop1, .lst _ => true | .extend, .lst _ => true | .remove, .lst _ => true | .insert, .lst _ => true | .clear, .lst _ => true | .reverse, .lst _ => true
  | .index, .lst _ => true | .count, .lst _ => true
  | .join, .str _ => true | .split, .str _ => true | .find2, .str _ => true | .replace2, .str _ => true | .strip, .str _ => true | .upper, .str _ => true | .rfind, .str _ => true | .count, .str _ => true
  | .get1, .dic .. => true | .get2, .dic .. => true
  | _, _ => false
/-- methods that leave the object as it is -/
def bmop : BM → D → List D → Option Hd
  | .join, .str s, [x] => (seq? x).bind strsD |>.bind fun l => if (l.map (·.length)).sum + l.length * s.length ≤ line then some (.str (Txt.join s l), false) else none
  | .split, .str s, [.str t] => if t.length ≠ 0 && decide (s.length + 2 ≤ line) then some (.lst ((Txt.split s t).map .str), true) else none
  | .get1, .dic ks vs, [k] => if k.fk then some ((look ks vs k).getD .non, false) else none
  | .get2, .dic ks vs, [k, d] => if k.fk then some ((look ks vs k).getD d, false) else none
  | .index, .lst l, [x] => if x.ok && (D.lst l).ok then (l.findIdx? fun z => D.eqv z x).map fun (i : Nat) => (.int (i : Int), false) else none
  | .count, .lst l, [x] => if x.ok && (D.lst l).ok then some (.int (l.countP fun z => D.eqv z x), false) else none
  | .count, .str s, [.str t] => some (.int (Txt.count s t), false)
  | .find2, .str s, [.str t, .int i] => some (.int (Txt.find3 s t i), false)
  | .replace2, .str s, [.str t, .str u] => if s.length + (s.length + 1) * u.length ≤ line then some (.str (Txt.replace s t u), false) else none
  | .strip, .str s, [] => if s.length ≤ line then some (.str (Txt.strip s), false) else none
  | .upper, .str s, [] => if s.length ≤ 5592405 then some (.str (Txt.upper s), false) else none
  | .rfind, .str s, [.str t] => some (.int (Txt.rfind s t), false)
  | _, _, _ => none
/-- methods that change it -/
def bmch : BM → List D → Option (D → Option (D × D))
  | .append, [x] => some fun c => match c with
    | .lst l => if l.length < line then some (.non, .lst (l ++ [x])) else none
    | _ => none
  | .pop0, [] => some fun c => match c with
    | .lst l => l.getLast?.map fun y => (y, .lst l.dropLast)
    | _ => none
  | .pop1, [.int i] => some fun c => match c with
    | .lst l => if 0 ≤ i && decide (i < 2 ^ 62) then l[i.toNat]?.map fun y => (y, .lst (l.eraseIdx i.toNat)) else none
    | _ => none
  | .extend, [.lst m] => some fun c => match c with
    | .lst l => if l.length + m.length ≤ line then some (.non, .lst (l ++ m)) else none
    | _ => none
  | .remove, [x] => some fun c => match c with
    | .lst l => if x.ok && (D.lst l).ok then (l.findIdx? fun z => D.eqv z x).map fun i => (.non, .lst (l.eraseIdx i)) else none
    | _ => none
  | .insert, [.int i, x] => some fun c => match c with
    | .lst l => if 0 ≤ i && decide (i < 2 ^ 62) && decide (l.length < line) then some (.non, .lst (l.take i.toNat ++ [x] ++ l.drop i.toNat)) else none
    | _ => none
  | .clear, [] => some fun c => match c with
    | .lst l => some (.non, .lst [])
    | _ => none
  | .reverse, [] => some fun c => match c with
    | .lst l => some (.non, .lst l.reverse)
    | _ => none
  | _, _ => none
/-- the built-in type of a value -/
def D.tyS : D → Option String
  | .non => some "NoneType" | .bl _ => some "bool" | .int _ => some "int" | .str _ => some "str" | .tup _ => some "tuple" | .lst _ => some "list" | .dic .. => some "dict" | .kon .. => some "dict"
  | _ => none
def Ty.s : Ty → Option String
  | .int => some "int" | .bool => some "bool" | .str => some "str" | .tuple => some "tuple" | .list => some "list" | .dict => some "dict"
  | .cls _ => none
def tyOk0 (d : D) (t : Ty) : Option Bool := d.tyS.bind fun a => t.s.map fun b => decide (a = b) || (decide (a = "bool") && decide (b = "int"))
/-- of an own class of exceptions (or ValueError) -/
def tyX : D → Str → Option Bool
  | .exn cs _ _, x => some (cs.contains x)
  | d, _ => d.tyS.map fun _ => false
def tyOk (d : D) : Ty → Option Bool
  | .cls x => tyX d x
  | t => tyOk0 d t
def tyAny (d : D) : List Ty → Option Bool
  | [] => some false
  | t :: ts => match tyOk d t with
    | some true => some true
    | some false => tyAny d ts
    | none => none

/-! ### what a loop walks -/
def rangeD (lo hi : Int) : List D := (List.range (hi - lo).toNat).map fun (k : Nat) => .int (lo + k)
def bnd (i : Int) : Bool := decide (-(2 ^ 62) ≤ i) && decide (i < 2 ^ 62)
def rangeop : List D → Option (List D)
  | [.int j] => if bnd j then some (rangeD 0 j) else none
  | [.int i, .int j] => if bnd i && bnd j then some (rangeD i j) else none
  | [.int i, .int j, .int c] => if bnd i && bnd j && decide (c = -1) then some ((List.range (i - j).toNat).map fun (k : Nat) => .int (i - k)) else none
  | _ => none
def enumD (n : Nat) : List D → List D
  | [] => []
  | a :: l => .tup [.int n, a] :: enumD (n + 1) l
def zipD : List D → List D → List D
  | a :: l, b :: m => .tup [a, b] :: zipD l m
  | _, _ => []

/-! ### the evaluator -/
/-- an argument as a def gets it -/
abbrev Ar := D × Own
/-- how an argument is handed: shared, by a cell, lent -/
inductive Mode where
  | val | ref | lend
  deriving Repr, DecidableEq
structure Cfg where
  G : Str → Option D
  call : Str → List Ar → List D → Res (List D) Hd
  mode : Str → Nat → Mode
  flds : Str → Str → Bool
  W : Nat
/-- a call of a def, the names kept -/
def Cfg.run (X : Cfg) (f : Str) (as : List Ar) : M Hd := fun s =>
  match X.call f as s.S with
  | .ok h S => .ok h { s with S := S }
  | .exc x S => .exc x { s with S := S }
  | .stuck => .stuck
/-- the arguments as they stand at the call -/
def argsAt (ρ : List Slot) : List Hd → Option (List Ar)
  | [] => some []
  | (.loc i, _) :: l => match ρ[i]? with
    | some (some (d, .sh)) => (argsAt ρ l).map ((d, .sh) :: ·)
    | some (some (d, _)) => (argsAt ρ l).map ((d, .bor) :: ·)
    | _ => none
  | (d, fr) :: l => (argsAt ρ l).map ((d, if fr && d.mutable then .own else .sh) :: ·)
def arL (n : Nat) (hs : List Hd) : M (List Ar) := fun s => match argsAt s.ρ hs with
  | some l => if l.length = n then .ok l s else .stuck
  | none => .stuck
def TL.len : TL → Nat
  | .nil => 0
  | .cons _ l => l.len + 1
mutual
def hasRef (L : Nat) : D → Bool
  | .ref n => decide (L ≤ n)
  | .loc _ => true
  | .tup l => hasRefL L l
  | .lst l => hasRefL L l
  | .dic _ v => hasRefL L v
  | .kon _ v => hasRefL L v
  | .ins _ _ v => hasRefL L v
  | .exn _ _ v => hasRefL L v
  | _ => false
def hasRefL (L : Nat) : List D → Bool
  | [] => false
  | a :: l => hasRef L a || hasRefL L l
end
/-- cells that nobody can reach are dropped behind a call -/
def gc (L : Nat) (h : Hd) (S : List D) : Hd × List D :=
  if hasRef L h.1 || hasRefL L (S.take L) then (h, S) else (h, S.take L)
/-- a new object: where nobody else can reach it, it is a value on the way -/
def gcNew (L : Nat) (S : List D) : Hd × List D :=
  match S[L]? with
  | some d => if S.length = L + 1 && !hasRef L d && !hasRefL L (S.take L) then ((d, true), S.take L) else ((.ref L, false), S)
  | none => ((.ref L, false), S)
def tagS (c : Nat) (x : Str) : Str := ⟨(c :: x.cps.toList).toArray⟩
/-- a method's name in the table: with a dot ahead; and back -/
def dotS (x : Str) : Str := tagS 46 x
def undot (x : Str) : Str := ⟨(x.cps.toList.drop 1).toArray⟩
def methOk (ok : Str → Str → Bool) (m : Str) (d : D) : Bool := match d with
  | .ins c fs _ => ok c m && !fs.contains (undot m)
  | _ => false
def wipeS (ρ : List Slot) : List Nat → List Slot
  | [] => ρ
  | i :: l => (wipeS ρ l).set i none
/-- the locks that were not there before -/
def fresh (s0 : W) (is : List Nat) : List Nat := is.filter fun j => !isLock s0.ρ[j]?
/-- a block's names hold nothing of their own -/
def ownFree (ρ : List Slot) (own : List Nat) : Bool := own.all fun i => match ρ[i]? with
  | some none => true
  | some (some (_, .sh)) => true
  | _ => false
/-- behind a block: its own names as they were, of the others what was handed on is shared -/
def unwipe (ρ ρ' : List Slot) : List Nat → List Slot
  | [] => ρ'
  | i :: l => (unwipe ρ ρ' l).set i (ρ[i]?.getD none)
def slotsG : TG → List Nat
  | .slot i _ => [i]
  | .tup l => slotsL l
where
  slotsL : List TG → List Nat
    | [] => []
    | .slot i _ :: l => i :: slotsL l
    | _ :: l => slotsL l
def assignL : List TG → List D → M Unit
  | .slot i p :: l, d :: ds => do
    setSlot i p (d, false)
    assignL l ds
  | [], [] => M.pure ()
  | _, _ => stuck
def tupD : D → Option (List D)
  | .tup ds => some ds
  | .lst ds => some ds
  | _ => none
def assignG : TG → Hd → M Unit
  | .slot i p, h => setSlot i p h
  | .tup l, h => do
    let d ← peek h
    let ds ← liftO (tupD d)
    let _ ← chk (decide (ds.length = l.length))
    assignL l ds
/-- a comprehension's turns -/
def compLoop (tg : TG) (own : List Nat) (tests : M Bool) (elt : M Hd) : List D → List D → M (List D)
  | [], acc => M.pure acc
  | d :: ds, acc => do
    (fun s => .ok () { s with ρ := wipeS s.ρ own } : M Unit)
    assignG tg (d, false)
    let b ← tests
    if b then
      let h ← elt
      let h ← esc h
      if acc.length < line then compLoop tg own tests elt ds (acc ++ [h.1]) else stuck
    else compLoop tg own tests elt ds acc
/-- an error may not leave a comprehension -/
def noexc {α : Type} (m : M α) : M α := fun s => match m s with
  | .exc _ _ => .stuck
  | r => r
def peekL : List Hd → M (List D)
  | [] => M.pure []
  | h :: hs => do
    let x ← peek h
    let xs ← peekL hs
    M.pure (x :: xs)
/-- a value as a test -/
def plain (m : M Hd) : M Hd × M Bool := (m, do
  let h ← m
  let x ← peek h
  liftO (truth x))
section
variable (X : Cfg)
mutual
/-- a term's value; as a test -/
def evB : TE → M Hd × M Bool
  | .con d => plain (M.pure (d, false))
  | .slot i => plain (slotH i)
  | .glob x => plain (do let d ← liftO (X.G x); M.pure (d, false))
  | .bin o a b => plain (do
    let h ← (evB a).1
    let k ← (evB b).1
    let x ← peek h
    let y ← peek k
    liftO (binop o x y))
  | .neg a => plain (do
    let h ← (evB a).1
    let x ← peek h
    match x with
    | .int i => M.pure (.int (-i), false)
    | _ => stuck)
  | .not a => (do
    let h ← (evB a).1
    let x ← peek h
    match x with
    | .bl b => M.pure (.bl (!b), false)
    | _ => stuck, do
    let r ← (evB a).2
    M.pure (!r))
  | .and a b => (do
    let h ← (evB a).1
    match h.1 with
    | .bl true => (evB b).1
    | .bl false => M.pure (.bl false, false)
    | _ => stuck, do
    let r ← (evB a).2
    if r then (evB b).2 else M.pure false)
  | .or a b => (do
    let h ← (evB a).1
    match h.1 with
    | .bl true => M.pure (.bl true, false)
    | .bl false => (evB b).1
    | _ => stuck, do
    let r ← (evB a).2
    if r then M.pure true else (evB b).2)
  | .cmp o a b => plain (do
    let h ← (evB a).1
    let k ← (evB b).1
    let x ← peek h
    let y ← peek k
    let r ← liftO (cmpop o x y)
    M.pure (.bl r, false))
  | .chain o p a b c => plain (do
    let h ← (evB a).1
    let k ← (evB b).1
    let x ← peek h
    let y ← peek k
    let r ← liftO (cmpop o x y)
    if r then
      let l ← (evB c).1
      let y ← peek k
      let z ← peek l
      let r ← liftO (cmpop p y z)
      M.pure (.bl r, false)
    else M.pure (.bl false, false))
  | .chain3 o p q a b c d => plain (do
    let h ← (evB a).1
    let k ← (evB b).1
    let x ← peek h
    let y ← peek k
    let r ← liftO (cmpop o x y)
    if r then
      let l ← (evB c).1
      let y ← peek k
      let z ← peek l
      let r ← liftO (cmpop p y z)
      if r then
        let m ← (evB d).1
        let z ← peek l
        let u ← peek m
        let r ← liftO (cmpop q z u)
        M.pure (.bl r, false)
      else M.pure (.bl false, false)
    else M.pure (.bl false, false))
  | .ite t a b => (do
    let r ← (evB t).2
    if r then (evB a).1 else (evB b).1, do
    let r ← (evB t).2
    if r then (evB a).2 else (evB b).2)
  | .tup l => plain (do
    let ds ← evL l
    if ds.length ≤ line then M.pure (.tup ds, false) else stuck)
  | .lst l => plain (do
    let ds ← evL l
    if ds.length ≤ line then M.pure (.lst ds, true) else stuck)
  | .dic l => plain (do
    let r ← evP l
    if r.1.all D.fk && decide (r.1.length ≤ 15) then
      let q := putAll [] [] r.1 r.2
      M.pure (.dic q.1 q.2, true)
    else stuck)
  | .idx a b => plain (do
    let h ← (evB a).1
    let k ← (evB b).1
    let x ← peek h
    let y ← peek k
    let d ← liftO (idxop x y)
    M.pure (d, false))
  | .sli a lo hi => plain (do
    let h ← (evB a).1
    let i ← evO lo
    let j ← evO hi
    let x ← peek h
    liftO (sliop x i j))
  | .rev a => plain (do
    let h ← (evB a).1
    let x ← peek h
    liftO (revop x))
  | .fld a f => plain (do
    let h ← (evB a).1
    let x ← peek h
    let d ← liftO (fldop X.flds x f)
    M.pure (d, false))
  | .call f l => plain (do
    let hs ← evA f 0 l
    let as ← arL l.len hs
    X.run f as)
  | .make c l => plain (do
    let hs ← evA c 1 l
    let as ← arL l.len hs
    fun s => match X.call c ((.ref s.S.length, .sh) :: as) (s.S ++ [.ins c [] []]) with
      | .ok (.non, _) S => .ok (gcNew s.S.length S).1 { s with S := (gcNew s.S.length S).2 }
      | .ok _ _ => .stuck
      | .exc x S => .exc x { s with S := S }
      | .stuck => .stuck)
  | .meth a m l => plain (do
    let h ← (evB a).1
    let h ← toCell h
    let x ← peek h
    let _ ← chk (methOk X.flds m x)
    let hs ← evA m 1 l
    let as ← arL (l.len + 1) (h :: hs)
    X.run m as)
  | .blt b l => plain (do
    let hs ← evH l
    let ds ← peekL hs
    liftO (bltop b ds))
  | .bm b a l => plain (do
    let h ← (evB a).1
    let x ← peek h
    let _ ← chk (bmTy b x)
    match b with
    | .append | .pop0 | .pop1 | .remove | .insert | .clear | .reverse => do
      let ds ← evL l
      let f ← liftO (bmch b ds)
      change h f
    | .extend => do
      let hs ← evH l
      let ds ← peekL hs
      let f ← liftO (bmch b ds)
      change h f
    | .get2 => do
      let ds ← evL l
      let x ← peek h
      liftO (bmop b x ds)
    | _ => do
      let hs ← evH l
      let ds ← peekL hs
      let x ← peek h
      liftO (bmop b x ds))
  | .comp elt tg src ifs own => plain (fun s0 => (do
    let items ← evI src
    fun s => if ownFree s.ρ own then (match compLoop tg own (noexc (evTs ifs)) (noexc (evB elt).1) items.1 [] s with
      | .ok acc s' => (do unlock (fresh s0 items.2); M.pure (.lst acc, true) : M Hd) { s' with ρ := unwipe s.ρ s'.ρ own }
      | _ => .stuck) else .stuck : M Hd) s0)
  | .isi a tys => plain (do
    let h ← (evB a).1
    let x ← peek h
    let r ← liftO (tyAny x tys)
    M.pure (.bl r, false))
  | .exc0 cs => plain (M.pure (.exn cs [] [], false))
  | .exc1 cs f k a => plain (do
    let h ← (evB a).1
    let h ← esc h
    let _ ← chk (xarg k h.1)
    M.pure (.exn cs [f] [h.1], false))
def evTs : TL → M Bool
  | .nil => M.pure true
  | .cons a l => do
    let r ← (evB a).2
    if r then evTs l else M.pure false
/-- values that are handed on -/
def evL : TL → M (List D)
  | .nil => M.pure []
  | .cons a l => do
    let h ← (evB a).1
    let h ← esc h
    let ds ← evL l
    M.pure (h.1 :: ds)
def evP : TL → M (List D × List D)
  | .cons a (.cons b l) => do
    let h ← (evB a).1
    let h ← esc h
    let k ← (evB b).1
    let k ← (match h.1 with
      | .str x => if X.mode (tagS 35 x) 0 = .ref then toCell k else esc k
      | _ => esc k)
    let r ← evP l
    M.pure (h.1 :: r.1, k.1 :: r.2)
  | .nil => M.pure ([], [])
  | _ => stuck
/-- values that are looked at -/
def evH : TL → M (List Hd)
  | .nil => M.pure []
  | .cons a l => do
    let h ← (evB a).1
    let hs ← evH l
    M.pure (h :: hs)
/-- a def's arguments -/
def evA (f : Str) (j : Nat) : TL → M (List Hd)
  | .nil => M.pure []
  | .cons a l => do
    let h ← (evB a).1
    let h ← (match X.mode f j with
      | .val => esc h
      | .ref => toCell h
      | .lend => M.pure h)
    let hs ← evA f (j + 1) l
    M.pure (h :: hs)
def evO : TO → M (Option Int)
  | .none => M.pure none
  | .some a => do
    let h ← (evB a).1
    match h.1 with
    | .int i => M.pure (some i)
    | _ => stuck
def evI : TI → M (List D × List Nat)
  | .val a => do
    let h ← (evB a).1
    let r ← lockH h
    let l ← liftO (walk? r.1)
    M.pure (l, r.2)
  | .range l => do
    let ds ← evL l
    let l ← liftO (rangeop ds)
    M.pure (l, [])
  | .enum a => do
    let h ← (evB a).1
    let r ← lockH h
    let l ← liftO (onlyL r.1)
    M.pure (enumD 0 l, r.2)
  | .zip a b => do
    let h ← (evB a).1
    let k ← (evB b).1
    let r ← lockH h
    let q ← lockH k
    let l ← liftO (zip? r.1 q.1)
    M.pure (zipD l.1 l.2, r.2 ++ q.2)
  | .rev a => do
    let h ← (evB a).1
    let r ← lockH h
    let l ← liftO (onlyL r.1)
    M.pure (l.reverse, r.2)
end
def evE (e : TE) : M Hd := (evB X e).1
def evT (e : TE) : M Bool := (evB X e).2
inductive Fl where
  | next | ret (h : Hd) | brk | cont
def forLoop (tg : TG) (body : M Fl) : List D → M Fl
  | [] => M.pure .next
  | d :: ds => do
    assignG tg (d, false)
    let f ← body
    match f with
    | .ret h => M.pure (.ret h)
    | .brk => M.pure .next
    | _ => forLoop tg body ds
def whileLoop (test : M Bool) (body : M Fl) : Nat → M Fl
  | 0 => stuck
  | n + 1 => do
    let b ← test
    if b then
      let f ← body
      match f with
      | .ret h => M.pure (.ret h)
      | .brk => M.pure .next
      | _ => whileLoop test body n
    else M.pure .next
mutual
def exS : TS → M Fl
  | .asg tg e => do
    let h ← evE X e
    let h ← esc h
    assignG tg h
    M.pure .next
  | .par _ _ => stuck
  | .sub o i e => do
    let v ← evE X e
    let v ← esc v
    let h ← evE X o
    let k ← evE X i
    let k ← esc k
    let _ ← change h (storeAt k.1 v.1)
    M.pure .next
  | .attr o f e => do
    let v ← evE X e
    let v ← (if X.mode (tagS 64 f) 0 = .ref then toCell v else esc v : M Hd)
    let h ← evE X o
    let _ ← change h (storeFld X.flds f v.1)
    M.pure .next
  | .augattr o f op e => do
    let h ← evE X o
    let x ← peek h
    let d ← liftO (fldopI X.flds x f)
    let k ← evE X e
    let y ← peek k
    let r ← liftO (augI op d y)
    let _ ← change h fun c => if sameC x c then storeFld X.flds f r c else none
    M.pure .next
  | .augsub _ _ _ _ => stuck
  | .expr e => do
    let _ ← evE X e
    M.pure .next
  | .ret e => do
    let h ← evE X e
    let h ← give h
    M.pure (.ret h)
  | .retn => M.pure (.ret (.non, false))
  | .ite t a b => do
    let r ← evT X t
    if r then exB a else exB b
  | .for_ tg src b => fun s0 => (do
    let items ← evI X src
    let f ← forLoop tg (exB b) items.1
    unlock (fresh s0 items.2)
    M.pure f : M Fl) s0
  | .while_ t b => whileLoop (evT X t) (exB b) X.W
  | .brk => M.pure .brk
  | .cont => M.pure .cont
  | .pass => M.pure .next
  | .raise cs => fun s => .exc ⟨cs, [], []⟩ s
  | .raise1 cs f k e => do
    let h ← evE X e
    let h ← esc h
    let _ ← chk (xarg k h.1)
    fun s => .exc ⟨cs, [f], [h.1]⟩ s
  | .try_ b t i j => fun s =>
    match exB b s with
    | .exc x s' => if x.c.contains t then
        (if decide (i ≠ j) && isNone1 s'.ρ[i]? then
          match setSlot j false (.exn x.c x.fs x.vs, false) s' with
          | .ok _ s'' => .ok .next s''
          | .exc _ _ => .stuck
          | .stuck => .stuck
        else .stuck)
      else .exc x s'
    | .ok f s' => .ok f s'
    | .stuck => .stuck
def exB : TB → M Fl
  | .nil => M.pure .next
  | .cons s b => do
    let f ← exS s
    match f with
    | .next => exB b
    | f => M.pure f
end
end

/-! ### defs -/
structure Def where
  ps : Nat          -- parameters
  n : Nat           -- names
  dfl : List D      -- defaults of the last parameters

  body : TB
structure Prog where
  G : Str → Option D
  defs : Str → Option Def
  mode : Str → Nat → Mode
  flds : Str → Str → Bool
  W : Nat
def startS (n : Nat) (as : List Ar) : List Slot := as.map some ++ List.replicate (n - as.length) none
def callN (P : Prog) : Nat → Str → List Ar → List D → Res (List D) Hd
  | 0, _, _, _ => .stuck
  | k + 1, f, as, S =>
    match P.defs f with
    | none => .stuck
    | some d =>
      let more := d.ps - as.length
      if as.length ≤ d.ps && decide (more ≤ d.dfl.length) then
        let as := as ++ (d.dfl.drop (d.dfl.length - more)).map fun x => (x, .sh)
        match exB ⟨P.G, callN P k, P.mode, P.flds, P.W⟩ d.body ⟨startS d.n as, S⟩ with
        | .ok (.ret h) s => .ok (gc S.length h s.S).1 (gc S.length h s.S).2
        | .ok .next s => .ok (gc S.length (.non, false) s.S).1 (gc S.length (.non, false) s.S).2
        | .ok _ _ => .stuck
        | .exc x s => .exc x s.S
        | .stuck => .stuck
      else .stuck
end EV

set_option autoImplicit false
set_option linter.all false
namespace EV
open PySem

/-! ### the given text as terms -/
structure SC where
  N : List Str
  sc : Scope
  st : Scope
  fns : List Str
  clss : List Str
  meths : List Str
  prom : Str → Bool
  /-- own classes of exceptions that may be asked for, that may be raised -/
  xty : List Str := []
  xcs : List (Str × List Str × Option (Str × Bool)) := []
  /-- a def's own text, no block's -/
  top : Bool := true
def visC (sc : Scope) (x : Str) : Bool := match sc.names.lookup x with
  | some .local => true
  | some .cell => true
  | some .free => true
  | _ => false
def locC (sc : Scope) (x : Str) : Bool := match sc.names.lookup x with
  | some .local => true
  | some .cell => true
  | _ => false
def globC (sc : Scope) (x : Str) : Bool := match sc.names.lookup x with
  | some .globalImplicit => true
  | _ => false
def slotOf (c : SC) (x : Str) : Option Nat := if visC c.sc x then c.N.findIdx? (· == x) else none
def constD : Const → Option D
  | .none => some .non
  | .bool b => some (.bl b)
  | .int i => some (.int i)
  | .str s => some (.str s)
  | _ => none
def bopOf : Operator → Option BOp
  | .Add => some .add | .Sub => some .sub | .Mult => some .mul | .Mod => some .mod | .FloorDiv => some .fdiv | .Pow => some .pow
  | _ => none
def copOf : CmpOp → COp
  | .Eq => .eq | .NotEq => .ne | .Lt => .lt | .LtE => .le | .Gt => .gt | .GtE => .ge | .Is => .is | .IsNot => .isnot | .In => .isin | .NotIn => .notin
def bltTab : List ((Str × Nat) × Blt) := [(("len", 1), .len), (("list", 1), .list), (("tuple", 1), .tuple), (("int", 1), .int), (("str", 1), .str), (("repr", 1), .repr), (("sum", 1), .sum), (("all", 1), .all), (("any", 1), .any),
  (("max", 2), .max2), (("min", 2), .min2), (("max", 1), .max1), (("min", 1), .min1), (("sorted", 1), .sorted), (("dict", 1), .dict)]
def bmTab : List ((Str × Nat) × BM) := [(("append", 1), .append), (("pop", 0), .pop0), (("pop", 1), .pop1), (("extend", 1), .extend), (("remove", 1), .remove), (("insert", 2), .insert), (("clear", 0), .clear), (("reverse", 0), .reverse),
  (("join", 1), .join), (("split", 1), .split), (("get", 1), .get1), (("get", 2), .get2), (("index", 1), .index), (("count", 1), .count), (("find", 2), .find2), (("replace", 2), .replace2), (("replace", 3), .replace3), (("strip", 0), .strip), (("upper", 0), .upper), (("rfind", 1), .rfind)]
def tyTab : List (Str × Ty) := [("int", .int), ("bool", .bool), ("str", .str), ("tuple", .tuple), ("list", .list), ("dict", .dict)]
/-- the name of a call, its arguments -/
def nameCall : Expr → Option (Str × List Expr)
  | .Call (.Name f _) args [] _ => some (f, args)
  | _ => none
def relC (scope sc : Scope) : Scope := L2.relS scope sc
def ownOf (N : List Str) (scope : Scope) : List (Str × Nat) := scope.names.filterMap fun y => match y.2 with
  | .local => (N.findIdx? (· == y.1)).map fun i => (y.1, i)
  | .cell => (N.findIdx? (· == y.1)).map fun i => (y.1, i)
  | _ => none
def tyE (c : SC) : Expr → Option Ty
  | .Name x _ => if globC c.sc x then (if c.clss.contains x then some (.cls x) else if c.fns.contains x then none else tyTab.lookup x) else none
  | _ => none
def tyEs (c : SC) : Expr → Option (List Ty)
  | .Tuple es _ _ => es.mapM (tyE c)
  | e => (tyE c e).map fun t => [t]
def cG (c : SC) : Nat → Expr → Option TG
  | n + 1, .Name x _ => if locC c.st x then (c.N.findIdx? (· == x)).map fun i => .slot i (c.prom x) else none
  | n + 1, .Tuple es _ _ => (es.mapM (cG c n)).map .tup
  | _, _ => none
def isGlob (c : SC) (x : Str) : Bool := globC c.sc x && !c.fns.contains x && !c.clss.contains x
mutual
def cE : Nat → SC → Expr → Option TE
  | 0, _, _ => none
  | n + 1, c, e => match e with
    | .Constant k _ _ => (constD k).map .con
    | .Name x _ => if visC c.sc x then (c.N.findIdx? (· == x)).map .slot else if isGlob c x then some (.glob x) else none
    | .BinOp a o b _ => do
      let o ← bopOf o
      let a ← cE n c a
      let b ← cE n c b
      some (.bin o a b)
    | .UnaryOp .USub a _ => (cE n c a).map .neg
    | .UnaryOp .Not a _ => (cE n c a).map .not
    | .BoolOp o es _ => cBool n c o es
    | .Compare a [o] [b] _ => do
      let a ← cE n c a
      let b ← cE n c b
      some (.cmp (copOf o) a b)
    | .Compare a [o, p] [b, d] _ => do
      let a ← cE n c a
      let b ← cE n c b
      let d ← cE n c d
      some (.chain (copOf o) (copOf p) a b d)
    | .IfExp t a b _ => do
      let t ← cE n c t
      let a ← cE n c a
      let b ← cE n c b
      some (.ite t a b)
    | .Tuple es _ _ => (cL n c es).map .tup
    | .List es _ => (cL n c es).map .lst
    | .Dict ks vs _ => (cD n c ks vs).map .dic
    | .Subscript a (.Slice lo hi none _) _ => do
      let a ← cE n c a
      let lo ← cO n c lo
      let hi ← cO n c hi
      some (.sli a lo hi)
    | .Subscript a (.Slice none none (some (.UnaryOp .USub (.Constant (.int 1) _ _) _)) _) _ => (cE n c a).map .rev
    | .Subscript a b _ => do
      let a ← cE n c a
      let b ← cE n c b
      some (.idx a b)
    | .Attribute a f _ => (cE n c a).map fun a => .fld a f
    | .Call (.Name f _) args [] _ =>
      if globC c.sc f then
        if c.fns.contains f then (cL n c args).map (.call f)
        else if c.clss.contains f then (cL n c args).map (.make f)
        else if f == ("isinstance" : Str) then
          match args with
          | [a, t] => do
            let a ← cE n c a
            let t ← tyEs c t
            some (.isi a t)
          | _ => none
        else match args with
          | [a] =>
            match (match nameCall a with
              | some (g, [b]) =>
                if globC c.sc g && !c.fns.contains g then
                  if f == ("sorted" : Str) && g == ("set" : Str) then some (Blt.sortedset, b)
                  else if f == ("list" : Str) && g == ("reversed" : Str) then some (Blt.listrev, b)
                  else if f == ("tuple" : Str) && g == ("reversed" : Str) then some (Blt.tuprev, b)
                  else none
                else none
              | _ => none) with
            | some (o, b) => do
              let b ← cE n c b
              some (.blt o (.cons b .nil))
            | none => do
              let o ← bltTab.lookup (f, 1)
              let a ← cE n c a
              some (.blt o (.cons a .nil))
          | _ => do
            let o ← bltTab.lookup (f, args.length)
            let l ← cL n c args
            some (.blt o l)
      else none
    | .Call (.Attribute a m _) args [] _ =>
      if c.meths.contains m then do
        let a ← cE n c a
        let l ← cL n c args
        some (.meth a (tagS 46 m) l)
      else do
        let o ← bmTab.lookup (m, args.length)
        let a ← cE n c a
        let l ← cL n c args
        some (.bm o a l)
    | .ListComp elt [⟨tg, iter, ifs, 0⟩] scope _ => do
      let src ← cI n c iter
      let own := ownOf c.N scope
      let c' := { c with sc := relC scope c.sc, st := scope, prom := fun _ => false }
      let tg ← cG c' 3 tg
      let ifs ← cL n c' ifs
      let elt ← cE n c' elt
      some (.comp elt tg src ifs (own.map (·.2)))
    | _ => none
def cBool : Nat → SC → BoolOp → List Expr → Option TE
  | 0, _, _, _ => none
  | n + 1, c, o, es => match es with
    | [a] => cE n c a
    | a :: es => do
      let a ← cE n c a
      let r ← cBool n c o es
      match o with
      | .And => some (.and a r)
      | .Or => some (.or a r)
    | [] => none
def cL : Nat → SC → List Expr → Option TL
  | 0, _, _ => none
  | n + 1, c, es => match es with
    | [] => some .nil
    | a :: es => do
      let a ← cE n c a
      let l ← cL n c es
      some (.cons a l)
def cD : Nat → SC → List (Option Expr) → List Expr → Option TL
  | 0, _, _, _ => none
  | n + 1, c, ks, vs => match ks, vs with
    | [], [] => some .nil
    | some k :: ks, v :: vs => do
      let k ← cE n c k
      let v ← cE n c v
      let l ← cD n c ks vs
      some (.cons k (.cons v l))
    | _, _ => none
def cO : Nat → SC → Option Expr → Option TO
  | 0, _, _ => none
  | n + 1, c, o => match o with
    | none => some .none
    | some a => (cE n c a).map .some
def cI : Nat → SC → Expr → Option TI
  | 0, _, _ => none
  | n + 1, c, e => match e with
    | .Call (.Name f _) args [] _ =>
      if globC c.sc f && !c.fns.contains f && !c.clss.contains f then
        if f == ("range" : Str) then (cL n c args).map .range
        else if f == ("enumerate" : Str) then match args with
          | [a] => (cE n c a).map .enum
          | _ => none
        else if f == ("reversed" : Str) then match args with
          | [a] => (cE n c a).map .rev
          | _ => none
        else if f == ("zip" : Str) then match args with
          | [a, b] => do
            let a ← cE n c a
            let b ← cE n c b
            some (.zip a b)
          | _ => none
        else (cE n c e).map .val
      else (cE n c e).map .val
    | .Call (.Attribute a m _) [] [] _ =>
      if c.meths.contains m then (cE n c e).map .val
      else (cE n c e).map .val
    | e => (cE n c e).map .val
end
mutual
def cS : Nat → SC → Stmt → Option TS
  | 0, _, _ => none
  | n + 1, c, s => match s with
    | .Assign [.Subscript o i _] e _ => do
      let o ← cE n c o
      let i ← cE n c i
      let e ← cE n c e
      some (.sub o i e)
    | .Assign [.Attribute o f _] e _ => do
      let o ← cE n c o
      let e ← cE n c e
      some (.attr o f e)
    | .Assign [tg] e _ => do
      let tg' ← cG c 3 tg
      match tg', e with
      | .tup l, .Tuple es _ _ => do
        let is ← l.mapM fun | .slot i _ => some i | _ => none
        let es ← cL n c es
        some (.par is es)
      | tg', e => do
        let e ← cE n c e
        some (.asg tg' e)
    | .AugAssign (.Attribute o f _) op e _ => do
      let o ← cE n c o
      let op ← bopOf op
      let e ← cE n c e
      some (.augattr o f op e)
    | .AugAssign (.Subscript o i _) op e _ => do
      let o ← cE n c o
      let i ← cE n c i
      let op ← bopOf op
      let e ← cE n c e
      some (.augsub o i op e)
    | .Expr (.Constant (.str _) _ _) _ => some .pass
    | .Expr e _ => (cE n c e).map .expr
    | .Return (some e) _ => (cE n c e).map .ret
    | .Return none _ => some .retn
    | .If t a b _ => do
      let t ← cE n c t
      let a ← cB n c a
      let b ← cB n c b
      some (.ite t a b)
    | .For tg iter b [] _ => do
      let tg ← cG c 3 tg
      let src ← cI n c iter
      let b ← cB n c b
      some (.for_ tg src b)
    | .While t b [] _ => do
      let t ← cE n c t
      let b ← cB n c b
      some (.while_ t b)
    | .Break _ => some .brk
    | .Continue _ => some .cont
    | .Pass _ => some .pass
    | _ => none
def cB : Nat → SC → List Stmt → Option TB
  | 0, _, _ => none
  | n + 1, c, ss => match ss with
    | [] => some .nil
    | s :: ss => do
      let s ← cS n c s
      let b ← cB n c ss
      some (.cons s b)
end
end EV

set_option autoImplicit false
set_option linter.all false
namespace EV
open PySem L2

/-! ### how values stand in the heap -/
def keyD : Key → D
  | .inl i => .int i
  | .inr s => .str s
/-- what is told of the text's own classes and tables -/
structure Env where
  K : PySem.W.Frag
  cls : Str → Option Addr
  /-- the top's own dicts -/
  kd : Addr → List (Key × V) → Prop
  /-- the classes of exceptions, by their names and those above -/
  xc : List Str → Option Addr := fun _ => none
  /-- classes that are asked for, by name -/
  xt : Str → Option Value := fun _ => none
  xtl : List Str := []
  /-- classes that are raised: name, itself and those above -/
  xcl : List (Str × List Str × Option (Str × Bool)) := []
/-- an exception that is kept: its object's class and dict -/
def exv (a : Addr) (C : Addr) (d : Option Addr) : HO := .ext fun h => ∃ (oe : Obj) (fv : Array Value), h.get? a = some oe ∧ Zc (.ref C) d oe ∧ oe.data = .fields fv
def LsF (E : Env) (H : Hp) (F : Addr → Prop) (a : Addr) (xs : List V) : Prop := Rd H a (.lst xs) ∧ ¬ F a
def DcF (E : Env) (H : Hp) (F : Addr → Prop) (a : Addr) (kvs : List (Key × V)) : Prop := H a = some (.dK kvs) ∧ ¬ F a
section
variable (E : Env) (H : Hp) (F : Addr → Prop) (ι : List Addr)
mutual
def Is : D → V → Prop
  | .non, v => v = .non
  | .bl b, v => v = .bl b
  | .int i, v => v = .int i
  | .str s, v => v = .str s
  | .tup ds, v => ∃ a xs, v = .ref a ∧ SqT E.K H a xs ∧ IsL ds xs
  | .lst ds, v => ∃ a xs, v = .ref a ∧ LsF E H F a xs ∧ IsL ds xs
  | .dic ks vs, v => ∃ a kvs, v = .ref a ∧ DcF E H F a kvs ∧ ks = kvs.map (fun p => keyD p.1) ∧ IsL vs (kvs.map (·.2))
  | .kon ks vs, v => ∃ a kvs, v = .ref a ∧ E.kd a kvs ∧ ks = kvs.map (fun p => keyD p.1) ∧ IsL vs (kvs.map (·.2))
  | .ins c fs vs, v => ∃ a C dx xs, v = .ref a ∧ ¬ F a ∧ H a = some (.ins C dx (fs.zip xs)) ∧ E.cls c = some C ∧ fs.length = xs.length ∧ IsL vs xs
  | .exn cs fs vs, v => ∃ a C d, v = .ref a ∧ H a = some (exv a C d) ∧ E.xc cs = some C ∧ ((fs = [] ∧ vs = [] ∧ d = none) ∨ fs ≠ [] ∧ ∃ dx xs, d = some dx ∧ H dx = some (.xd (fs.zip xs)) ∧ fs.length = xs.length ∧ IsL vs xs)
  | .ref n, v => ∃ a, ι[n]? = some a ∧ v = .ref a
  | .loc _, _ => False
def IsL : List D → List V → Prop
  | [], xs => xs = []
  | d :: ds, xs => ∃ x r, xs = x :: r ∧ Is d x ∧ IsL ds r
end
/-- what stands at the address of a cell, of a local object -/
def Cell (a : Addr) : D → Prop
  | .lst ds => ∃ xs, H a = some (.lst xs) ∧ IsL E H F ι ds xs
  | .dic ks vs => ∃ kvs, H a = some (.dK kvs) ∧ ks = kvs.map (fun p => keyD p.1) ∧ IsL E H F ι vs (kvs.map (·.2))
  | .ins c fs vs => ∃ C dx xs, H a = some (.ins C dx (fs.zip xs)) ∧ E.cls c = some C ∧ fs.length = xs.length ∧ IsL E H F ι vs xs
  | _ => False
/-- a value looked at: its outmost object may be a cell's -/
def Pk : D → V → Prop
  | .lst ds, v => ∃ a xs, v = .ref a ∧ Rd H a (.lst xs) ∧ IsL E H F ι ds xs
  | .dic ks vs, v => ∃ a kvs, v = .ref a ∧ H a = some (.dK kvs) ∧ ks = kvs.map (fun p => keyD p.1) ∧ IsL E H F ι vs (kvs.map (·.2))
  | .ins c fs vs, v => ∃ a C dx xs, v = .ref a ∧ H a = some (.ins C dx (fs.zip xs)) ∧ E.cls c = some C ∧ fs.length = xs.length ∧ IsL E H F ι vs xs
  | d, v => Is E H F ι d v
end

section
variable {E : Env} {H H' : Hp} {F F' : Addr → Prop} {ι ι' : List Addr}
theorem LsF.sq {a : Addr} {xs : List V} (h : LsF E H F a xs) : Rd H a (.lst xs) := h.1
theorem IsL.nil {xs : List V} (h : IsL E H F ι [] xs) : xs = [] := h
theorem IsL.length : ∀ {ds : List D} {xs : List V}, IsL E H F ι ds xs → xs.length = ds.length
  | [], _, h => by rw [IsL.nil h]; rfl
  | _ :: _, _, h => by
    obtain ⟨x, r, rfl, _, h⟩ := h
    simp [IsL.length h]
theorem IsL.get : ∀ {ds : List D} {xs : List V} {i : Nat} {d : D}, IsL E H F ι ds xs → ds[i]? = some d → ∃ x, xs[i]? = some x ∧ Is E H F ι d x
  | [], _, _, _, _, e => by simp at e
  | _ :: _, _, 0, d, h, e => by
    obtain ⟨x, r, rfl, h1, h⟩ := h
    simp at e
    subst e
    exact ⟨x, rfl, h1⟩
  | _ :: _, _, i + 1, d, h, e => by
    obtain ⟨x, r, rfl, h1, h⟩ := h
    obtain ⟨y, e1, h2⟩ := IsL.get (i := i) (d := d) h (by simpa using e)
    exact ⟨y, by simpa using e1, h2⟩
theorem IsL.get' : ∀ {ds : List D} {xs : List V} {i : Nat} {x : V}, IsL E H F ι ds xs → xs[i]? = some x → ∃ d, ds[i]? = some d ∧ Is E H F ι d x
  | [], _, _, _, h, e => by rw [IsL.nil h] at e; simp at e
  | _ :: _, _, 0, _, h, e => by
    obtain ⟨y, r, rfl, h1, h⟩ := h
    simp at e
    subst e
    exact ⟨_, rfl, h1⟩
  | _ :: _, _, i + 1, _, h, e => by
    obtain ⟨y, r, rfl, h1, h⟩ := h
    obtain ⟨d, e1, h2⟩ := IsL.get' (i := i) h (by simpa using e)
    exact ⟨d, by simpa using e1, h2⟩
theorem IsL.append : ∀ {ds es : List D} {xs ys : List V}, IsL E H F ι ds xs → IsL E H F ι es ys → IsL E H F ι (ds ++ es) (xs ++ ys)
  | [], _, _, _, h, k => by rw [IsL.nil h]; exact k
  | _ :: _, _, _, _, h, k => by
    obtain ⟨x, r, rfl, h1, h⟩ := h
    exact ⟨x, _, rfl, h1, IsL.append h k⟩
theorem IsL.one {d : D} {x : V} (h : Is E H F ι d x) : IsL E H F ι [d] [x] := ⟨x, [], rfl, h, rfl⟩
theorem IsL.set : ∀ {ds : List D} {xs : List V} (i : Nat) {d : D} {x : V}, IsL E H F ι ds xs → Is E H F ι d x → IsL E H F ι (ds.set i d) (xs.set i x)
  | [], _, _, _, _, h, _ => by rw [IsL.nil h]; rfl
  | _ :: _, _, 0, _, _, h, k => by
    obtain ⟨y, r, rfl, h1, h⟩ := h
    exact ⟨_, r, rfl, k, h⟩
  | _ :: _, _, i + 1, _, _, h, k => by
    obtain ⟨y, r, rfl, h1, h⟩ := h
    exact ⟨y, _, rfl, h1, IsL.set i h k⟩
theorem IsL.take : ∀ {ds : List D} {xs : List V} (n : Nat), IsL E H F ι ds xs → IsL E H F ι (ds.take n) (xs.take n)
  | [], _, n, h => by rw [IsL.nil h]; simp [IsL]
  | _ :: _, _, 0, h => by simp [IsL]
  | _ :: _, _, n + 1, h => by
    obtain ⟨y, r, rfl, h1, h⟩ := h
    exact ⟨y, _, rfl, h1, IsL.take n h⟩
theorem IsL.drop : ∀ {ds : List D} {xs : List V} (n : Nat), IsL E H F ι ds xs → IsL E H F ι (ds.drop n) (xs.drop n)
  | [], _, n, h => by rw [IsL.nil h]; simp [IsL]
  | _ :: _, _, 0, h => h
  | _ :: _, _, n + 1, h => by
    obtain ⟨y, r, rfl, h1, h⟩ := h
    exact IsL.drop n h
theorem IsL.split : ∀ {ds es : List D} {xs : List V}, IsL E H F ι (ds ++ es) xs → ∃ ys zs, xs = ys ++ zs ∧ IsL E H F ι ds ys ∧ IsL E H F ι es zs
  | [], _, xs, h => ⟨[], xs, rfl, rfl, h⟩
  | _ :: _, _, _, h => by
    obtain ⟨x, r, rfl, h1, h⟩ := h
    obtain ⟨ys, zs, rfl, h2, h3⟩ := IsL.split h
    exact ⟨x :: ys, zs, rfl, ⟨x, ys, rfl, h1, h2⟩, h3⟩
theorem IsL.reverse : ∀ {ds : List D} {xs : List V}, IsL E H F ι ds xs → IsL E H F ι ds.reverse xs.reverse
  | [], _, h => by rw [IsL.nil h]; rfl
  | _ :: _, _, h => by
    obtain ⟨y, r, rfl, h1, h⟩ := h
    rw [List.reverse_cons, List.reverse_cons]
    exact (IsL.reverse h).append (.one h1)
theorem IsL.eraseIdx : ∀ {ds : List D} {xs : List V} (n : Nat), IsL E H F ι ds xs → IsL E H F ι (ds.eraseIdx n) (xs.eraseIdx n)
  | [], _, n, h => by rw [IsL.nil h]; simp [IsL]
  | _ :: _, _, 0, h => by
    obtain ⟨y, r, rfl, h1, h⟩ := h
    exact h
  | _ :: _, _, n + 1, h => by
    obtain ⟨y, r, rfl, h1, h⟩ := h
    exact ⟨y, _, rfl, h1, IsL.eraseIdx n h⟩
theorem IsL.dropLast {ds : List D} {xs : List V} (h : IsL E H F ι ds xs) : IsL E H F ι ds.dropLast xs.dropLast := by
  rw [List.dropLast_eq_take, List.dropLast_eq_take, h.length]
  exact h.take _

/-- the same values in another heap: what is told of tuples and shared objects stays -/
structure Kp (E : Env) (H : Hp) (F : Addr → Prop) (ι : List Addr) (H' : Hp) (F' : Addr → Prop) (ι' : List Addr) : Prop where
  tup : ∀ a xs, Rd H a (.tup xs) → Rd H' a (.tup xs)
  lst : ∀ a xs, Rd H a (.lst xs) → ¬ F a → Rd H' a (.lst xs) ∧ ¬ F' a
  dK : ∀ a kvs, H a = some (.dK kvs) → ¬ F a → H' a = some (.dK kvs) ∧ ¬ F' a
  ins : ∀ a C dx fs, H a = some (.ins C dx fs) → ¬ F a → H' a = some (.ins C dx fs) ∧ ¬ F' a
  ref : ∀ (n : Nat) (a : Addr), ι[n]? = some a → ι'[n]? = some a
  ext : ∀ a φ, H a = some (.ext φ) → H' a = some (.ext φ)
  xd : ∀ a fs, H a = some (.xd fs) → H' a = some (.xd fs)
theorem Kp.refl : Kp E H F ι H F ι := ⟨fun _ _ h => h, fun _ _ h n => ⟨h, n⟩, fun _ _ h n => ⟨h, n⟩, fun _ _ _ _ h n => ⟨h, n⟩, fun _ _ h => h, fun _ _ h => h, fun _ _ h => h⟩
theorem Kp.trans {H'' : Hp} {F'' : Addr → Prop} {ι'' : List Addr} (k : Kp E H F ι H' F' ι') (l : Kp E H' F' ι' H'' F'' ι'') : Kp E H F ι H'' F'' ι'' :=
  ⟨fun a xs h => l.tup a xs (k.tup a xs h), fun a xs h n => let z := k.lst a xs h n; l.lst a xs z.1 z.2, fun a xs h n => let z := k.dK a xs h n; l.dK a xs z.1 z.2,
    fun a C dx fs h n => let z := k.ins a C dx fs h n; l.ins a C dx fs z.1 z.2, fun n a h => l.ref n a (k.ref n a h), fun a φ h => l.ext a φ (k.ext a φ h), fun a fs h => l.xd a fs (k.xd a fs h)⟩
theorem Kp.sqt (k : Kp E H F ι H' F' ι') {a : Addr} {xs : List V} (h : SqT E.K H a xs) : SqT E.K H' a xs := by
  rcases h with h | h
  · exact .inl (k.tup a xs h)
  · exact .inr h
theorem Kp.lsf (k : Kp E H F ι H' F' ι') {a : Addr} {xs : List V} (h : LsF E H F a xs) : LsF E H' F' a xs := by
  exact k.lst a xs h.1 h.2
theorem Kp.dcf (k : Kp E H F ι H' F' ι') {a : Addr} {kvs : List (Key × V)} (h : DcF E H F a kvs) : DcF E H' F' a kvs := by
  exact k.dK a kvs h.1 h.2
mutual
theorem Kp.is (k : Kp E H F ι H' F' ι') : ∀ {d : D} {v : V}, Is E H F ι d v → Is E H' F' ι' d v
  | .non, _, h => h
  | .bl _, _, h => h
  | .int _, _, h => h
  | .str _, _, h => h
  | .tup ds, _, ⟨a, xs, e, h, l⟩ => ⟨a, xs, e, k.sqt h, k.isL l⟩
  | .lst ds, _, ⟨a, xs, e, h, l⟩ => ⟨a, xs, e, k.lsf h, k.isL l⟩
  | .dic ks vs, _, ⟨a, kvs, e, h, q, l⟩ => ⟨a, kvs, e, k.dcf h, q, k.isL l⟩
  | .kon ks vs, _, ⟨a, kvs, e, h, q, l⟩ => ⟨a, kvs, e, h, q, k.isL l⟩
  | .ins c fs vs, _, ⟨a, C, dx, xs, e, n, h, c1, c2, l⟩ => ⟨a, C, dx, xs, e, (k.ins a C dx _ h n).2, (k.ins a C dx _ h n).1, c1, c2, k.isL l⟩
  | .exn cs fs vs, _, ⟨a, C, d, e, h, c1, q⟩ => ⟨a, C, d, e, k.ext a _ h, c1, match q with
    | .inl q => .inl q
    | .inr ⟨ne, dx, xs, e1, h1, c2, l⟩ => .inr ⟨ne, dx, xs, e1, k.xd dx _ h1, c2, k.isL l⟩⟩
  | .ref n, _, ⟨a, h, e⟩ => ⟨a, k.ref n a h, e⟩
  | .loc _, _, h => h.elim
theorem Kp.isL (k : Kp E H F ι H' F' ι') : ∀ {ds : List D} {xs : List V}, IsL E H F ι ds xs → IsL E H' F' ι' ds xs
  | [], _, h => h
  | _ :: _, _, ⟨x, r, e, h1, h2⟩ => ⟨x, r, e, k.is h1, k.isL h2⟩
end
theorem Kp.cell (k : Kp E H F ι H' F' ι') {a : Addr} (ha : H' a = H a) : ∀ {d : D}, Cell E H F ι a d → Cell E H' F' ι' a d
  | .lst _, ⟨xs, h, l⟩ => ⟨xs, ha.trans h, k.isL l⟩
  | .dic _ _, ⟨xs, h, e, l⟩ => ⟨xs, ha.trans h, e, k.isL l⟩
  | .ins _ _ _, ⟨C, dx, xs, h, e1, e2, l⟩ => ⟨C, dx, xs, ha.trans h, e1, e2, k.isL l⟩
/-- fewer addresses are barred -/
theorem Kp.less (h : ∀ a, F' a → F a) : Kp E H F ι H F' ι :=
  ⟨fun _ _ h => h, fun _ _ q n => ⟨q, fun z => n (h _ z)⟩, fun _ _ q n => ⟨q, fun z => n (h _ z)⟩, fun _ _ _ _ q n => ⟨q, fun z => n (h _ z)⟩, fun _ _ h => h, fun _ _ h => h, fun _ _ h => h⟩
/-- an object laid at a free address; it may be barred -/
theorem Kp.laid {p : Addr} {o : HO} (hp : H p = none) (hF : ∀ a, F' a → F a ∨ a = p) : Kp E H F ι (upd H p o) F' ι := by
  have ne : ∀ a u, H a = some u → a ≠ p := fun a u h => ne_of_none h hp
  have nF : ∀ a u, H a = some u → ¬ F a → ¬ F' a := fun a u h n z => (hF a z).elim n (ne a u h)
  have rd : ∀ a u, Rd H a u → Rd (upd H p o) a u := fun a u h => by
    rcases h with h | ⟨q, h⟩
    · exact .inl (by rw [upd_ne (ne _ _ h)]; exact h)
    · exact .inr ⟨q, by rw [upd_ne (ne _ _ h)]; exact h⟩
  refine ⟨fun a xs h => rd a _ h, fun a xs h n => ⟨rd a _ h, ?_⟩, fun a xs h n => ⟨by rw [upd_ne (ne _ _ h)]; exact h, nF _ _ h n⟩, fun a C dx fs h n => ⟨by rw [upd_ne (ne _ _ h)]; exact h, nF _ _ h n⟩, fun _ _ h => h, fun a φ h => by rw [upd_ne (ne _ _ h)]; exact h, fun a fs h => by rw [upd_ne (ne _ _ h)]; exact h⟩
  rcases h with h | ⟨q, h⟩
  · exact nF _ _ h n
  · exact nF _ _ h n
def notTup : HO → Prop
  | .tup _ => False
  | .frz _ _ => False
  | .ext _ => False
  | .xd _ => False
  | _ => True
/-- a barred object changed -/
theorem Kp.upd {a : Addr} {u o : HO} (ha : H a = some u) (hu : notTup u) (hF : F a) : Kp E H F ι (upd H a o) F ι := by
  have rd : ∀ b xs, Rd H b (.tup xs) → Rd (L2.upd H a o) b (.tup xs) := fun b xs h => by
    rcases h with h | ⟨q, h⟩
    · refine .inl ?_
      rw [upd_ne (fun e => by subst e; rw [ha] at h; cases h; exact hu)]
      exact h
    · refine .inr ⟨q, ?_⟩
      rw [upd_ne (fun e => by subst e; rw [ha] at h; cases h; exact hu)]
      exact h
  have ne : ∀ b, ¬ F b → b ≠ a := fun b n e => n (by rw [e]; exact hF)
  refine ⟨rd, fun b xs h n => ⟨?_, n⟩, fun b xs h n => ⟨by rw [upd_ne (ne b n)]; exact h, n⟩, fun b C dx fs h n => ⟨by rw [upd_ne (ne b n)]; exact h, n⟩, fun _ _ h => h, fun b φ h => by rw [upd_ne (fun e => by subst e; rw [ha] at h; cases h; exact hu)]; exact h, fun b fs h => by rw [upd_ne (fun e => by subst e; rw [ha] at h; cases h; exact hu)]; exact h⟩
  rcases h with h | ⟨q, h⟩
  · exact .inl (by rw [upd_ne (ne b n)]; exact h)
  · exact .inr ⟨q, by rw [upd_ne (ne b n)]; exact h⟩
theorem Kp.more {a : Addr} : Kp E H F ι H F (ι ++ [a]) :=
  ⟨fun _ _ h => h, fun _ _ h n => ⟨h, n⟩, fun _ _ h n => ⟨h, n⟩, fun _ _ _ _ h n => ⟨h, n⟩, fun n b h => by
    rw [List.getElem?_append_left (List.getElem?_eq_some_iff.mp h).1]
    exact h, fun _ _ h => h, fun _ _ h => h⟩
theorem Cell.there : ∀ {d : D} {a : Addr}, Cell E H F ι a d → ∃ u, H a = some u ∧ notTup u
  | .lst _, _, ⟨_, h, _⟩ => ⟨_, h, trivial⟩
  | .dic _ _, _, ⟨_, h, _⟩ => ⟨_, h, trivial⟩
  | .ins _ _ _, _, ⟨_, _, _, h, _⟩ => ⟨_, h, trivial⟩
theorem Cell.pk : ∀ {d : D} {a : Addr}, Cell E H F ι a d → Pk E H F ι d (.ref a)
  | .lst _, a, ⟨xs, h, l⟩ => ⟨a, xs, rfl, .inl h, l⟩
  | .dic _ _, a, ⟨kvs, h, e, l⟩ => ⟨a, kvs, rfl, h, e, l⟩
  | .ins _ _ _, a, ⟨C, dx, xs, h, e1, e2, l⟩ => ⟨a, C, dx, xs, rfl, h, e1, e2, l⟩
theorem Cell.is : ∀ {d : D} {a : Addr}, Cell E H F ι a d → ¬ F a → Is E H F ι d (.ref a)
  | .lst _, a, ⟨xs, h, l⟩, n => ⟨a, xs, rfl, ⟨.inl h, n⟩, l⟩
  | .dic _ _, a, ⟨kvs, h, e, l⟩, n => ⟨a, kvs, rfl, ⟨h, n⟩, e, l⟩
  | .ins _ _ _, a, ⟨C, dx, xs, h, e1, e2, l⟩, n => ⟨a, C, dx, xs, rfl, n, h, e1, e2, l⟩
theorem Is.pk : ∀ {d : D} {v : V}, Is E H F ι d v → Pk E H F ι d v
  | .non, _, h => h
  | .bl _, _, h => h
  | .int _, _, h => h
  | .str _, _, h => h
  | .tup _, _, h => h
  | .lst _, _, ⟨a, xs, e, h, l⟩ => ⟨a, xs, e, h.sq, l⟩
  | .dic _ _, _, ⟨a, kvs, e, h, q, l⟩ => ⟨a, kvs, e, h.1, q, l⟩
  | .ins _ _ _, _, ⟨a, C, dx, xs, e, n, h, c1, c2, l⟩ => ⟨a, C, dx, xs, e, h, c1, c2, l⟩
  | .kon _ _, _, h => h
  | .exn _ _ _, _, h => h
  | .ref _, _, h => h
  | .loc _, _, h => h.elim
end
end EV

set_option autoImplicit false
set_option linter.all false
namespace EV
open PySem L2

/-! ### the state and the heap -/
/-- the barred addresses: the callers', values on the way, cells, local objects -/
def FF (Fo Tm : Addr → Prop) (ι : List Addr) (ω : List (Option Addr)) : Addr → Prop := fun a => Fo a ∨ Tm a ∨ a ∈ ι ∨ ∃ i : Nat, ω[i]? = some (some a)
def SlotOk (E : Env) (H : Hp) (F Fo : Addr → Prop) (ι : List Addr) (oa : Option (Option Addr)) (ov : Option (Option V)) : Slot → Prop
  | none => oa = some none
  | some (d, .sh) => oa = some none ∧ ∃ v, ov = some (some v) ∧ Is E H F ι d v
  | some (d, .bor) => oa = some none ∧ ∃ a, ov = some (some (.ref a)) ∧ Fo a ∧ Cell E H F ι a d
  | some (d, _) => ∃ a, oa = some (some a) ∧ ov = some (some (.ref a)) ∧ Cell E H F ι a d
structure Rel (E : Env) (Fo Tm : Addr → Prop) (ι : List Addr) (ω : List (Option Addr)) (σ : St) (H : Hp) (st : W) : Prop where
  nι : ι.length = st.S.length
  nρ : σ.length = st.ρ.length
  nω : ω.length = st.ρ.length
  iι : ∀ (m n : Nat) (a : Addr), ι[m]? = some a → ι[n]? = some a → m = n
  iω : ∀ (m n : Nat) (a : Addr), ω[m]? = some (some a) → ω[n]? = some (some a) → m = n
  oT : ∀ a, Fo a → ¬ Tm a
  oι : ∀ a, Fo a → a ∉ ι
  oω : ∀ a, Fo a → ∀ (i : Nat), ω[i]? ≠ some (some a)
  tι : ∀ a, Tm a → a ∉ ι
  tω : ∀ a, Tm a → ∀ (i : Nat), ω[i]? ≠ some (some a)
  cω : ∀ a, a ∈ ι → ∀ (i : Nat), ω[i]? ≠ some (some a)
  th : ∀ a, FF Fo Tm ι ω a → ∃ u, H a = some u ∧ notTup u
  cells : ∀ (n : Nat) c, st.S[n]? = some c → ∃ a, ι[n]? = some a ∧ Cell E H (FF Fo Tm ι ω) ι a c
  slots : ∀ (i : Nat) s, st.ρ[i]? = some s → SlotOk E H (FF Fo Tm ι ω) Fo ι ω[i]? σ[i]? s
/-- a value on the way: a name's own object, a new object (at T), or a shared value -/
def Hk (E : Env) (H : Hp) (F : Addr → Prop) (ι : List Addr) (σ : St) (T : Addr → Prop) : Hd → V → Prop
  | (.loc i, _), v => (∀ a, ¬ T a) ∧ σ[i]? = some (some v)
  | (d, fr), v => if fr = true ∧ d.mutable = true then ∃ a, (∀ b, T b ↔ b = a) ∧ v = .ref a ∧ Cell E H F ι a d else (∀ a, ¬ T a) ∧ Is E H F ι d v
/-- what a loop walks stays -/
def Lk (st : W) (ω : List (Option Addr)) (st' : W) (ω' : List (Option Addr)) : Prop := ∀ (i : Nat) d, st.ρ[i]? = some (some (d, .lock)) → st'.ρ[i]? = st.ρ[i]? ∧ ω'[i]? = ω[i]?
theorem Lk.refl {st : W} {ω : List (Option Addr)} : Lk st ω st ω := fun _ _ _ => ⟨rfl, rfl⟩
theorem Lk.set {st st' : W} {ω : List (Option Addr)} {i : Nat} {s t : Slot} {oa : Option Addr} (hs : st.ρ[i]? = some s) (hn : ∀ d, s ≠ some (d, .lock)) (e : st'.ρ = st.ρ.set i t) : Lk st ω st' (ω.set i oa) := fun j d h => by
  have ej : i ≠ j := fun z => by
    subst z
    rw [hs] at h
    exact hn d (Option.some.inj h)
  rw [e, List.getElem?_set_ne ej, List.getElem?_set_ne ej]
  exact ⟨rfl, rfl⟩
def orP (T Tm : Addr → Prop) : Addr → Prop := fun a => T a ∨ Tm a
abbrev noP : Addr → Prop := fun _ => False

section
variable {E : Env} {Fo Tm Tm' T : Addr → Prop} {ι ι' : List Addr} {ω ω' : List (Option Addr)} {σ : St} {H H' : Hp} {st st' : W} {F F' : Addr → Prop}

theorem SlotOk.keep {oa : Option (Option Addr)} {ov : Option (Option V)} (k : Kp E H F ι H' F' ι') (ho : ∀ a, Fo a → H' a = H a) (hw : ∀ a, oa = some (some a) → H' a = H a) : ∀ {s : Slot}, SlotOk E H F Fo ι oa ov s → SlotOk E H' F' Fo ι' oa ov s
  | none, h => h
  | some (d, .sh), ⟨e, v, h1, h2⟩ => ⟨e, v, h1, k.is h2⟩
  | some (d, .bor), ⟨e, a, h1, h2, h3⟩ => ⟨e, a, h1, h2, k.cell (ho a h2) h3⟩
  | some (d, .own), ⟨a, e, h1, h3⟩ => ⟨a, e, h1, k.cell (hw a e) h3⟩
  | some (d, .lock), ⟨a, e, h1, h3⟩ => ⟨a, e, h1, k.cell (hw a e) h3⟩
theorem Hk.keep (k : Kp E H F ι H' F' ι') (ho : ∀ a, T a → H' a = H a) {h : Hd} {v : V} (q : Hk E H F ι σ T h v) : Hk E H' F' ι' σ T h v := by
  have gen : ∀ {d : D} {fr : Bool}, (if fr = true ∧ d.mutable = true then ∃ a, (∀ b, T b ↔ b = a) ∧ v = .ref a ∧ Cell E H F ι a d else (∀ a, ¬ T a) ∧ Is E H F ι d v) →
      (if fr = true ∧ d.mutable = true then ∃ a, (∀ b, T b ↔ b = a) ∧ v = .ref a ∧ Cell E H' F' ι' a d else (∀ a, ¬ T a) ∧ Is E H' F' ι' d v) := fun {d fr} q => by
    split at q
    · rename_i c
      rw [if_pos c]
      obtain ⟨a, t, e, z⟩ := q
      exact ⟨a, t, e, k.cell (ho a ((t a).mpr rfl)) z⟩
    · rename_i c
      rw [if_neg c]
      exact ⟨q.1, k.is q.2⟩
  obtain ⟨d, fr⟩ := h
  cases d with
  | loc i => exact q
  | _ => exact gen q
/-- values on the way are dropped -/
theorem Rel.less (R : Rel E Fo Tm ι ω σ H st) (h : ∀ a, Tm' a → Tm a) : Rel E Fo Tm' ι ω σ H st := by
  have k : Kp E H (FF Fo Tm ι ω) ι H (FF Fo Tm' ι ω) ι := Kp.less fun a z => by
    rcases z with z | z | z
    · exact .inl z
    · exact .inr (.inl (h a z))
    · exact .inr (.inr z)
  refine ⟨R.nι, R.nρ, R.nω, R.iι, R.iω, fun a z w => R.oT a z (h a w), R.oι, R.oω, fun a z => R.tι a (h a z), fun a z => R.tω a (h a z), R.cω, fun a z => R.th a ?_, fun n c e => ?_, fun i s e => ?_⟩
  · rcases z with z | z | z
    · exact .inl z
    · exact .inr (.inl (h a z))
    · exact .inr (.inr z)
  · obtain ⟨a, e1, e2⟩ := R.cells n c e
    exact ⟨a, e1, k.cell rfl e2⟩
  · exact (R.slots i s e).keep k (fun _ _ => rfl) fun _ _ => rfl
theorem FF.less (h : ∀ a, Tm' a → Tm a) {a : Addr} (z : FF Fo Tm' ι ω a) : FF Fo Tm ι ω a := by
  rcases z with z | z | z
  · exact .inl z
  · exact .inr (.inl (h a z))
  · exact .inr (.inr z)
/-- the heap is another one, all that is told stays -/
theorem Rel.heap (R : Rel E Fo Tm ι ω σ H st) (k : Kp E H (FF Fo Tm ι ω) ι H' (FF Fo Tm ι ω) ι) (e : ∀ a, FF Fo Tm ι ω a → H' a = H a) : Rel E Fo Tm ι ω σ H' st := by
  refine ⟨R.nι, R.nρ, R.nω, R.iι, R.iω, R.oT, R.oι, R.oω, R.tι, R.tω, R.cω, fun a z => by rw [e a z]; exact R.th a z, fun n c q => ?_, fun i s q => ?_⟩
  · obtain ⟨a, e1, e2⟩ := R.cells n c q
    exact ⟨a, e1, k.cell (e a (.inr (.inr (.inl (List.mem_of_getElem? e1))))) e2⟩
  · exact (R.slots i s q).keep k (fun a z => e a (.inl z)) fun a z => e a (.inr (.inr (.inr ⟨i, z⟩)))
/-- an object laid; its address is kept as that of a value on the way -/
theorem Rel.laid {p : Addr} {o : HO} (R : Rel E Fo Tm ι ω σ H st) (hp : H p = none) (ho : notTup o) : Rel E Fo (orP (fun a => a = p) Tm) ι ω σ (upd H p o) st ∧ Kp E H (FF Fo Tm ι ω) ι (upd H p o) (FF Fo (orP (fun a => a = p) Tm) ι ω) ι := by
  have nF : ¬ FF Fo Tm ι ω p := fun z => by
    obtain ⟨u, e, _⟩ := R.th p z
    rw [hp] at e
    cases e
  have ne : ∀ a, FF Fo Tm ι ω a → upd H p o a = H a := fun a z => upd_ne fun e => nF (e ▸ z)
  have k : Kp E H (FF Fo Tm ι ω) ι (upd H p o) (FF Fo (orP (fun a => a = p) Tm) ι ω) ι := Kp.laid hp fun a z => by
    rcases z with z | (z | z) | z
    · exact .inl (.inl z)
    · exact .inr z
    · exact .inl (.inr (.inl z))
    · exact .inl (.inr (.inr z))
  refine ⟨⟨R.nι, R.nρ, R.nω, R.iι, R.iω, fun a z w => ?_, R.oι, R.oω, fun a z => ?_, fun a z => ?_, R.cω, fun a z => ?_, fun n c q => ?_, fun i s q => ?_⟩, k⟩
  · rcases w with w | w
    · exact nF (.inl (w ▸ z))
    · exact R.oT a z w
  · rcases z with z | z
    · exact fun w => nF (.inr (.inr (.inl (z ▸ w))))
    · exact R.tι a z
  · rcases z with z | z
    · exact fun i w => nF (.inr (.inr (.inr ⟨i, z ▸ w⟩)))
    · exact R.tω a z
  · by_cases e : a = p
    · subst e
      exact ⟨o, upd_same, ho⟩
    · have z' : FF Fo Tm ι ω a := by
        rcases z with z | (z | z) | z
        · exact .inl z
        · exact absurd z e
        · exact .inr (.inl z)
        · exact .inr (.inr z)
      rw [ne a z']
      exact R.th a z'
  · obtain ⟨a, e1, e2⟩ := R.cells n c q
    exact ⟨a, e1, k.cell (ne a (.inr (.inr (.inl (List.mem_of_getElem? e1))))) e2⟩
  · exact (R.slots i s q).keep k (fun a z => ne a (.inl z)) fun a z => ne a (.inr (.inr (.inr ⟨i, z⟩)))
/-- a tuple laid -/
theorem Rel.laidT {p : Addr} {o : HO} (R : Rel E Fo Tm ι ω σ H st) (hp : H p = none) : Rel E Fo Tm ι ω σ (upd H p o) st ∧ Kp E H (FF Fo Tm ι ω) ι (upd H p o) (FF Fo Tm ι ω) ι := by
  have k : Kp E H (FF Fo Tm ι ω) ι (upd H p o) (FF Fo Tm ι ω) ι := Kp.laid hp fun a z => .inl z
  refine ⟨R.heap k fun a z => upd_ne fun e => ?_, k⟩
  obtain ⟨u, e1, _⟩ := R.th a z
  rw [e, hp] at e1
  cases e1

/-! ### looks and changes -/
theorem peek_ok (R : Rel E Fo Tm ι ω σ H st) {h : Hd} {v : V} {d : D} (q : Hk E H (FF Fo Tm ι ω) ι σ T h v) (e : peek h st = .ok d st') : st' = st ∧ Pk E H (FF Fo Tm ι ω) ι d v := by
  obtain ⟨d0, fr⟩ := h
  have gen : (if fr = true ∧ d0.mutable = true then ∃ a, (∀ b, T b ↔ b = a) ∧ v = .ref a ∧ Cell E H (FF Fo Tm ι ω) ι a d0 else (∀ a, ¬ T a) ∧ Is E H (FF Fo Tm ι ω) ι d0 v) → Pk E H (FF Fo Tm ι ω) ι d0 v := fun q => by
    split at q
    · obtain ⟨a, _, rfl, z⟩ := q
      exact z.pk
    · exact q.2.pk
  cases d0 with
  | loc i =>
    have q : (∀ a, ¬ T a) ∧ σ[i]? = some (some v) := q
    simp only [peek] at e
    cases hs : st.ρ[i]? with
    | none => rw [hs] at e; cases e
    | some s =>
      rw [hs] at e
      have sl := R.slots i s hs
      match s, sl, e with
      | some (x, .own), ⟨a, e1, e2, e3⟩, e =>
        cases e
        rw [q.2] at e2
        cases e2
        exact ⟨rfl, e3.pk⟩
      | some (x, .lock), ⟨a, e1, e2, e3⟩, e =>
        cases e
        rw [q.2] at e2
        cases e2
        exact ⟨rfl, e3.pk⟩
      | some (x, .bor), ⟨e0, a, e1, e2, e3⟩, e =>
        cases e
        rw [q.2] at e1
        cases e1
        exact ⟨rfl, e3.pk⟩
  | ref n =>
    have z := gen q
    obtain ⟨a, e1, rfl⟩ := z
    simp only [peek] at e
    cases hs : st.S[n]? with
    | none => rw [hs] at e; cases e
    | some c =>
      rw [hs] at e
      cases e
      obtain ⟨b, e2, e3⟩ := R.cells n _ hs
      rw [e1] at e2
      cases e2
      exact ⟨rfl, e3.pk⟩
  | _ =>
    cases e
    exact ⟨rfl, gen q⟩
theorem own_mem {i : Nat} {a b : Addr} (h : (ω.set i none)[b]? = some (some a)) : ω[b]? = some (some a) := by
  by_cases e : i = b
  · subst e
    rw [List.getElem?_set] at h
    simp at h
  · rw [List.getElem?_set_ne e] at h
    exact h
/-- a local object is shared from now on -/
theorem Rel.shared (R : Rel E Fo Tm ι ω σ H st) {i : Nat} {d : D} (hs : st.ρ[i]? = some (some (d, .own))) :
    Rel E Fo Tm ι (ω.set i none) σ H { st with ρ := st.ρ.set i (some (d, .sh)) } ∧ Kp E H (FF Fo Tm ι ω) ι H (FF Fo Tm ι (ω.set i none)) ι ∧ ∀ v, σ[i]? = some (some v) → Is E H (FF Fo Tm ι (ω.set i none)) ι d v := by
  have sub : ∀ a, FF Fo Tm ι (ω.set i none) a → FF Fo Tm ι ω a := fun a z => by
    rcases z with z | z | z | ⟨j, z⟩
    · exact .inl z
    · exact .inr (.inl z)
    · exact .inr (.inr (.inl z))
    · exact .inr (.inr (.inr ⟨j, own_mem z⟩))
  have k : Kp E H (FF Fo Tm ι ω) ι H (FF Fo Tm ι (ω.set i none)) ι := Kp.less sub
  obtain ⟨a, e1, e2, e3⟩ := R.slots i _ hs
  have hi : i < st.ρ.length := (List.getElem?_eq_some_iff.mp hs).1
  have na : ¬ FF Fo Tm ι (ω.set i none) a := fun z => by
    rcases z with z | z | z | ⟨j, z⟩
    · exact R.oω a z i e1
    · exact R.tω a z i e1
    · exact R.cω a z i e1
    · have := R.iω i j a e1 (own_mem z)
      subst this
      rw [List.getElem?_set] at z
      simp at z
  have his : Is E H (FF Fo Tm ι (ω.set i none)) ι d (.ref a) := (k.cell rfl e3).is na
  refine ⟨⟨R.nι, by simpa using R.nρ, by simpa using R.nω, R.iι, fun m n b x y => R.iω m n b (own_mem x) (own_mem y), R.oT, R.oι, fun b z j w => R.oω b z j (own_mem w), R.tι, fun b z j w => R.tω b z j (own_mem w), fun b z j w => R.cω b z j (own_mem w), fun b z => R.th b (sub b z), fun n c q => ?_, fun j s q => ?_⟩, k, fun v ev => ?_⟩
  · obtain ⟨b, x, y⟩ := R.cells n c q
    exact ⟨b, x, k.cell rfl y⟩
  · by_cases ej : i = j
    · subst ej
      have q' : (st.ρ.set i (some (d, .sh)))[i]? = some s := q
      rw [List.getElem?_set_self hi] at q'
      cases q'
      have hw : i < ω.length := by rw [R.nω]; exact hi
      exact ⟨by rw [List.getElem?_set_self hw], _, e2, his⟩
    · have q' : (st.ρ.set i (some (d, .sh)))[j]? = some s := q
      rw [List.getElem?_set_ne ej] at q'
      have z := (R.slots j s q').keep k (fun _ _ => rfl) fun _ _ => rfl
      rw [List.getElem?_set_ne ej]
      exact z
  · rw [e2] at ev
    cases ev
    exact his
theorem esc_ok (R : Rel E Fo (orP T Tm) ι ω σ H st) {h h' : Hd} {v : V} (q : Hk E H (FF Fo (orP T Tm) ι ω) ι σ T h v) (nT : ∀ a, T a → ¬ Tm a) (e : esc h st = .ok h' st') :
    ∃ ω', Rel E Fo Tm ι ω' σ H st' ∧ Kp E H (FF Fo (orP T Tm) ι ω) ι H (FF Fo Tm ι ω') ι ∧ Is E H (FF Fo Tm ι ω') ι h'.1 v ∧ Lk st ω st' ω' := by
  obtain ⟨d0, fr⟩ := h
  have sub : ∀ a, Tm a → orP T Tm a := fun a z => .inr z
  have gen : (if fr = true ∧ d0.mutable = true then ∃ a, (∀ b, T b ↔ b = a) ∧ v = .ref a ∧ Cell E H (FF Fo (orP T Tm) ι ω) ι a d0 else (∀ a, ¬ T a) ∧ Is E H (FF Fo (orP T Tm) ι ω) ι d0 v) → Is E H (FF Fo Tm ι ω) ι d0 v := fun q => by
    have k : Kp E H (FF Fo (orP T Tm) ι ω) ι H (FF Fo Tm ι ω) ι := Kp.less fun a z => FF.less sub z
    split at q
    · obtain ⟨a, t, rfl, z⟩ := q
      have ta : T a := (t a).mpr rfl
      refine (k.cell rfl z).is fun w => ?_
      rcases w with w | w | w | ⟨j, w⟩
      · exact R.oT a w (.inl ta)
      · exact nT a ta w
      · exact R.tι a (.inl ta) w
      · exact R.tω a (.inl ta) j w
    · exact k.is q.2
  cases d0 with
  | loc i =>
    obtain ⟨q1, q2⟩ : (∀ a, ¬ T a) ∧ σ[i]? = some (some v) := q
    simp only [esc] at e
    cases hs : st.ρ[i]? with
    | none => rw [hs] at e; cases e
    | some s =>
      rw [hs] at e
      match s, hs, e with
      | some (x, .own), hs, e =>
        cases e
        obtain ⟨R', k, z⟩ := (R.less sub).shared hs
        refine ⟨_, R', Kp.trans (Kp.less fun a z => FF.less sub z) k, z v q2, Lk.set hs (fun d z => by cases z) rfl⟩
  | _ =>
    cases e
    exact ⟨ω, R.less sub, Kp.less fun a z => FF.less sub z, gen q, Lk.refl⟩
end
end EV

set_option autoImplicit false
set_option linter.all false
namespace EV
open PySem L2

section
variable {E : Env} {Fo Tm Tm' T : Addr → Prop} {ι ι' : List Addr} {ω ω' : List (Option Addr)} {σ σ' : St} {H H' : Hp} {st st' : W} {F F' : Addr → Prop}

theorem FF.set_sub {i : Nat} {oa : Option Addr} (hT : ∀ a, Tm' a → Tm a) (h : ∀ a, oa = some a → FF Fo Tm ι ω a) {a : Addr} (z : FF Fo Tm' ι (ω.set i oa) a) : FF Fo Tm ι ω a := by
  rcases z with z | z | z | ⟨j, z⟩
  · exact .inl z
  · exact .inr (.inl (hT a z))
  · exact .inr (.inr (.inl z))
  · by_cases e : i = j
    · subst e
      rw [List.getElem?_set] at z
      simp only [↓reduceIte] at z
      split at z
      · injection z with z
        exact h a z
      · cases z
    · rw [List.getElem?_set_ne e] at z
      exact .inr (.inr (.inr ⟨j, z⟩))
/-- a name's slot is stored anew -/
theorem Rel.put {i : Nat} {s : Slot} {oa : Option Addr} (R : Rel E Fo Tm ι ω σ H st) (hi : i < st.ρ.length) (hσ : σ'.length = σ.length) (hσo : ∀ j, j ≠ i → σ'[j]? = σ[j]?) (hT : ∀ a, Tm' a → Tm a)
    (ha : ∀ a, oa = some a → FF Fo Tm ι ω a ∧ ¬ Fo a ∧ ¬ Tm' a ∧ a ∉ ι ∧ ∀ j, j ≠ i → ω[j]? ≠ some (some a)) (hs : SlotOk E H (FF Fo Tm' ι (ω.set i oa)) Fo ι (some oa) σ'[i]? s) :
    Rel E Fo Tm' ι (ω.set i oa) σ' H { st with ρ := st.ρ.set i s } ∧ Kp E H (FF Fo Tm ι ω) ι H (FF Fo Tm' ι (ω.set i oa)) ι := by
  have sub : ∀ a, FF Fo Tm' ι (ω.set i oa) a → FF Fo Tm ι ω a := fun a z => FF.set_sub hT (fun a e => (ha a e).1) z
  have k : Kp E H (FF Fo Tm ι ω) ι H (FF Fo Tm' ι (ω.set i oa)) ι := Kp.less sub
  have hiω : i < ω.length := by rw [R.nω]; exact hi
  have look : ∀ (j : Nat) (a : Addr), (ω.set i oa)[j]? = some (some a) → (j = i ∧ oa = some a) ∨ (j ≠ i ∧ ω[j]? = some (some a)) := fun j a z => by
    by_cases e : i = j
    · subst e
      rw [List.getElem?_set_self hiω] at z
      injection z with z
      exact .inl ⟨rfl, z⟩
    · rw [List.getElem?_set_ne e] at z
      exact .inr ⟨Ne.symm e, z⟩
  refine ⟨⟨R.nι, by rw [hσ]; simpa using R.nρ, by simpa using R.nω, R.iι, fun m n a x y => ?_, fun a z w => R.oT a z (hT a w), R.oι, fun a z j w => ?_, fun a z => R.tι a (hT a z), fun a z j w => ?_, fun a z j w => ?_, fun a z => R.th a (sub a z), fun n c e => ?_, fun j t e => ?_⟩, k⟩
  · rcases look m a x with ⟨e1, x⟩ | ⟨e1, x⟩
    · rcases look n a y with ⟨e2, y⟩ | ⟨e2, y⟩
      · rw [e1, e2]
      · exact absurd y ((ha a x).2.2.2.2 n e2)
    · rcases look n a y with ⟨e2, y⟩ | ⟨e2, y⟩
      · exact absurd x ((ha a y).2.2.2.2 m e1)
      · exact R.iω m n a x y
  · rcases look j a w with ⟨_, w⟩ | ⟨_, w⟩
    · exact (ha a w).2.1 z
    · exact R.oω a z j w
  · rcases look j a w with ⟨_, w⟩ | ⟨_, w⟩
    · exact (ha a w).2.2.1 z
    · exact R.tω a (hT a z) j w
  · rcases look j a w with ⟨_, w⟩ | ⟨_, w⟩
    · exact (ha a w).2.2.2.1 z
    · exact R.cω a z j w
  · obtain ⟨a, e1, e2⟩ := R.cells n c e
    exact ⟨a, e1, k.cell rfl e2⟩
  · have e : (st.ρ.set i s)[j]? = some t := e
    by_cases ej : i = j
    · subst ej
      rw [List.getElem?_set_self hi] at e
      cases e
      rw [List.getElem?_set_self hiω]
      exact hs
    · rw [List.getElem?_set_ne ej] at e
      rw [List.getElem?_set_ne ej, hσo j (Ne.symm ej)]
      exact (R.slots j t e).keep k (fun _ _ => rfl) fun _ _ => rfl
/-- an object becomes a cell -/
theorem Rel.push {a : Addr} {d : D} (R : Rel E Fo Tm ι ω σ H st) (hT : ∀ b, Tm' b → Tm b) (h1 : Tm a) (h2 : ¬ Tm' a) (hc : Cell E H (FF Fo Tm ι ω) ι a d) :
    Rel E Fo Tm' (ι ++ [a]) ω σ H { st with S := st.S ++ [d] } ∧ Kp E H (FF Fo Tm ι ω) ι H (FF Fo Tm' (ι ++ [a]) ω) (ι ++ [a]) := by
  have sub : ∀ b, FF Fo Tm' (ι ++ [a]) ω b → FF Fo Tm ι ω b := fun b z => by
    rcases z with z | z | z | z
    · exact .inl z
    · exact .inr (.inl (hT b z))
    · rcases List.mem_append.mp z with z | z
      · exact .inr (.inr (.inl z))
      · have e : b = a := by simpa using z
        subst e
        exact .inr (.inl h1)
    · exact .inr (.inr (.inr z))
  have k : Kp E H (FF Fo Tm ι ω) ι H (FF Fo Tm' (ι ++ [a]) ω) (ι ++ [a]) := (Kp.less sub).trans Kp.more
  have mem : ∀ b, b ∈ ι ++ [a] → b ∈ ι ∨ b = a := fun b z => by simpa using z
  refine ⟨⟨by simp [R.nι], R.nρ, R.nω, fun m n b x y => ?_, R.iω, fun b z w => R.oT b z (hT b w), fun b z w => ?_, R.oω, fun b z w => ?_, fun b z => R.tω b (hT b z), fun b z => ?_, fun b z => R.th b (sub b z), fun n c e => ?_, fun j t e => (R.slots j t e).keep k (fun _ _ => rfl) fun _ _ => rfl⟩, k⟩
  · have nm : a ∉ ι := R.tι a h1
    have lk : ∀ (m : Nat), (ι ++ [a])[m]? = some b → (m < ι.length ∧ ι[m]? = some b) ∨ (m = ι.length ∧ b = a) := fun m x => by
      by_cases hm : m < ι.length
      · rw [List.getElem?_append_left hm] at x
        exact .inl ⟨hm, x⟩
      · rw [List.getElem?_append_right (Nat.le_of_not_lt hm)] at x
        have h0 : m - ι.length = 0 := by
          have := (List.getElem?_eq_some_iff.mp x).1
          simp at this
          omega
        rw [h0] at x
        simp at x
        exact .inr ⟨by omega, x.symm⟩
    rcases lk m x with ⟨_, p⟩ | ⟨x1, x2⟩
    · rcases lk n y with ⟨_, r⟩ | ⟨y1, y2⟩
      · exact R.iι m n b p r
      · subst y2; exact absurd (List.mem_of_getElem? p) nm
    · rcases lk n y with ⟨_, r⟩ | ⟨y1, y2⟩
      · subst x2; exact absurd (List.mem_of_getElem? r) nm
      · rw [x1, y1]
  · rcases mem b w with w | w
    · exact R.oι b z w
    · subst w; exact R.oT b z h1
  · rcases mem b w with w | w
    · exact R.tι b (hT b z) w
    · subst w; exact h2 z
  · rcases mem b z with z | z
    · exact R.cω b z
    · subst z; exact R.tω b h1
  · have e : (st.S ++ [d])[n]? = some c := e
    by_cases hn : n < st.S.length
    · rw [List.getElem?_append_left hn] at e
      obtain ⟨b, e1, e2⟩ := R.cells n c e
      exact ⟨b, by rw [List.getElem?_append_left (by rw [R.nι]; exact hn)]; exact e1, k.cell rfl e2⟩
    · rw [List.getElem?_append_right (Nat.le_of_not_lt hn)] at e
      have h0 : n - st.S.length = 0 := by
        have := (List.getElem?_eq_some_iff.mp e).1
        simp at this
        omega
      rw [h0] at e
      simp at e
      subst e
      refine ⟨a, ?_, k.cell rfl hc⟩
      have : n = ι.length := by rw [R.nι]; omega
      rw [this, List.getElem?_append_right (Nat.le_refl _)]
      simp
/-- a local object is taken from its name -/
theorem Rel.take {i : Nat} {d : D} {s : Slot} (R : Rel E Fo Tm ι ω σ H st) (hs : st.ρ[i]? = some (some (d, .own))) :
    ∃ a, σ[i]? = some (some (.ref a)) ∧ ¬ Tm a ∧ Rel E Fo (orP (fun b => b = a) Tm) ι (ω.set i none) σ H { st with ρ := st.ρ.set i none } ∧ Kp E H (FF Fo Tm ι ω) ι H (FF Fo (orP (fun b => b = a) Tm) ι (ω.set i none)) ι ∧ Cell E H (FF Fo (orP (fun b => b = a) Tm) ι (ω.set i none)) ι a d ∧ (∀ j, j ≠ i → ω[j]? ≠ some (some a)) := by
  obtain ⟨a, e1, e2, e3⟩ := R.slots i _ hs
  have hi : i < st.ρ.length := (List.getElem?_eq_some_iff.mp hs).1
  have hiω : i < ω.length := by rw [R.nω]; exact hi
  have sub : ∀ b, FF Fo (orP (fun b => b = a) Tm) ι (ω.set i none) b → FF Fo Tm ι ω b := fun b z => by
    rcases z with z | (z | z) | z | ⟨j, z⟩
    · exact .inl z
    · exact .inr (.inr (.inr ⟨i, by rw [z]; exact e1⟩))
    · exact .inr (.inl z)
    · exact .inr (.inr (.inl z))
    · exact .inr (.inr (.inr ⟨j, own_mem z⟩))
  have k : Kp E H (FF Fo Tm ι ω) ι H (FF Fo (orP (fun b => b = a) Tm) ι (ω.set i none)) ι := Kp.less sub
  have nj : ∀ j, (ω.set i none)[j]? ≠ some (some a) := fun j z => by
    have := R.iω i j a e1 (own_mem z)
    subst this
    rw [List.getElem?_set_self hiω] at z
    cases z
  refine ⟨a, e2, fun z => R.tω a z i e1, ⟨R.nι, by simpa using R.nρ, by simpa using R.nω, R.iι, fun m n b x y => R.iω m n b (own_mem x) (own_mem y), fun b z w => ?_, R.oι, fun b z j w => R.oω b z j (own_mem w), fun b z => ?_, fun b z => ?_, fun b z j w => R.cω b z j (own_mem w), fun b z => R.th b (sub b z), fun n c q => ?_, fun j t q => ?_⟩, k, k.cell rfl e3, fun j hj z => hj (R.iω j i a z e1)⟩
  · rcases w with w | w
    · subst w; exact R.oω b z i e1
    · exact R.oT b z w
  · rcases z with z | z
    · subst z; exact fun w => R.cω b w i e1
    · exact R.tι b z
  · rcases z with z | z
    · subst z; exact nj
    · exact fun j w => R.tω b z j (own_mem w)
  · obtain ⟨b, x, y⟩ := R.cells n c q
    exact ⟨b, x, k.cell rfl y⟩
  · have q : (st.ρ.set i none)[j]? = some t := q
    by_cases ej : i = j
    · subst ej
      rw [List.getElem?_set_self hi] at q
      cases q
      rw [List.getElem?_set_self hiω]
      exact rfl
    · rw [List.getElem?_set_ne ej] at q
      rw [List.getElem?_set_ne ej]
      exact (R.slots j t q).keep k (fun _ _ => rfl) fun _ _ => rfl
theorem set_set_self {α : Type} (l : List α) (i : Nat) (x y : α) : (l.set i x).set i y = l.set i y := by simp
theorem set_get_self {α : Type} {l : List α} {i : Nat} {x : α} (h : l[i]? = some x) : l.set i x = l := by
  apply List.ext_getElem?
  intro j
  by_cases e : i = j
  · subst e
    rw [List.getElem?_set_self (List.getElem?_eq_some_iff.mp h).1, h]
  · rw [List.getElem?_set_ne e]
theorem toCell_ok (R : Rel E Fo (orP T Tm) ι ω σ H st) {h h' : Hd} {v : V} (q : Hk E H (FF Fo (orP T Tm) ι ω) ι σ T h v) (nT : ∀ a, T a → ¬ Tm a) (e : toCell h st = .ok h' st') :
    ∃ ι' ω', Rel E Fo Tm ι' ω' σ H st' ∧ Kp E H (FF Fo (orP T Tm) ι ω) ι H (FF Fo Tm ι' ω') ι' ∧ Is E H (FF Fo Tm ι' ω') ι' h'.1 v ∧ h'.2 = false ∧ Lk st ω st' ω' := by
  obtain ⟨d0, fr⟩ := h
  have sub : ∀ a, Tm a → orP T Tm a := fun a z => .inr z
  have gen : (if fr = true ∧ d0.mutable = true then ∃ a, (∀ b, T b ↔ b = a) ∧ v = .ref a ∧ Cell E H (FF Fo (orP T Tm) ι ω) ι a d0 else (∀ a, ¬ T a) ∧ Is E H (FF Fo (orP T Tm) ι ω) ι d0 v) →
      (if fr = true ∧ d0.mutable = true then (Res.ok (D.ref st.S.length, false) { st with S := st.S ++ [d0] } : Res W Hd) else .ok (d0, false) st) = .ok h' st' →
      ∃ ι' ω', Rel E Fo Tm ι' ω' σ H st' ∧ Kp E H (FF Fo (orP T Tm) ι ω) ι H (FF Fo Tm ι' ω') ι' ∧ Is E H (FF Fo Tm ι' ω') ι' h'.1 v ∧ h'.2 = false ∧ Lk st ω st' ω' := fun q e => by
    split at q
    · rename_i c
      rw [if_pos c] at e
      cases e
      obtain ⟨a, t, rfl, z⟩ := q
      have ta : T a := (t a).mpr rfl
      obtain ⟨R', k⟩ := R.push (Tm' := Tm) sub (.inl ta) (nT a ta) z
      refine ⟨_, ω, R', k, ⟨a, ?_, rfl⟩, rfl, fun _ _ _ => ⟨rfl, rfl⟩⟩
      rw [← R.nι, List.getElem?_append_right (Nat.le_refl _)]
      simp
    · rename_i c
      rw [if_neg c] at e
      cases e
      have k : Kp E H (FF Fo (orP T Tm) ι ω) ι H (FF Fo Tm ι ω) ι := Kp.less fun a z => FF.less sub z
      exact ⟨ι, ω, R.less sub, k, k.is q.2, rfl, Lk.refl⟩
  cases d0 with
  | loc i =>
    obtain ⟨q1, q2⟩ : (∀ a, ¬ T a) ∧ σ[i]? = some (some v) := q
    simp only [toCell] at e
    cases hs : st.ρ[i]? with
    | none => rw [hs] at e; cases e
    | some s =>
      rw [hs] at e
      match s, hs, e with
      | some (x, .own), hs, e =>
        cases e
        obtain ⟨a, ea, nm, R1, k1, c1, nj⟩ := (R.less sub).take (s := none) hs
        rw [q2] at ea
        cases ea
        obtain ⟨R2, k2⟩ := R1.push (Tm' := Tm) (fun b z => .inr z) (.inl rfl) nm c1
        have hi : i < st.ρ.length := (List.getElem?_eq_some_iff.mp hs).1
        have hiω : i < ω.length := by rw [R.nω]; exact hi
        have hisr : Is E H (FF Fo Tm (ι ++ [a]) (ω.set i none)) (ι ++ [a]) (.ref st.S.length) (.ref a) := ⟨a, by rw [← R.nι, List.getElem?_append_right (Nat.le_refl _)]; simp, rfl⟩
        obtain ⟨R3, k3⟩ := R2.put (i := i) (s := some (.ref st.S.length, .sh)) (oa := none) (σ' := σ) (Tm' := Tm) (by simpa using hi) rfl (fun _ _ => rfl) (fun _ z => z) (fun a z => by cases z)
          ⟨rfl, _, q2, by rw [set_set_self]; exact hisr⟩
        rw [set_set_self] at R3 k3
        refine ⟨_, _, ?_, ((Kp.less fun a z => FF.less sub z).trans k1).trans (k2.trans k3), k3.is hisr, rfl, Lk.set hs (fun d z => by cases z) rfl⟩
        simpa [set_set_self] using R3
  | ref n => cases fr <;> exact gen q (by simpa [toCell, M.pure, D.mutable] using e)
  | non => cases fr <;> exact gen q (by simpa [toCell, M.pure, D.mutable] using e)
  | bl _ => cases fr <;> exact gen q (by simpa [toCell, M.pure, D.mutable] using e)
  | int _ => cases fr <;> exact gen q (by simpa [toCell, M.pure, D.mutable] using e)
  | str _ => cases fr <;> exact gen q (by simpa [toCell, M.pure, D.mutable] using e)
  | tup _ => cases fr <;> exact gen q (by simpa [toCell, M.pure, D.mutable] using e)
  | lst _ => cases fr <;> exact gen q (by simpa [toCell, M.pure, D.mutable] using e)
  | dic _ _ => cases fr <;> exact gen q (by simpa [toCell, M.pure, D.mutable] using e)
  | kon _ _ => cases fr <;> exact gen q (by simpa [toCell, M.pure, D.mutable] using e)
  | ins _ _ _ => cases fr <;> exact gen q (by simpa [toCell, M.pure, D.mutable] using e)
  | exn _ _ _ => cases fr <;> exact gen q (by simpa [toCell, M.pure, D.mutable] using e)
/-- a barred object changed in place -/
theorem Rel.change {a : Addr} {o : HO} {u : HO} {st' : W} (R : Rel E Fo Tm ι ω σ H st) (ha : H a = some u) (hu : notTup u) (ho : notTup o) (hF : FF Fo Tm ι ω a) (nF : ¬ Fo a)
    (hcS : ∀ (n : Nat) c', st'.S[n]? = some c' → (st.S[n]? = some c' ∧ ι[n]? ≠ some a) ∨ (ι[n]? = some a ∧ Cell E (upd H a o) (FF Fo Tm ι ω) ι a c')) (hl : st'.S.length = st.S.length)
    (hρ : ∀ (i : Nat) s, st'.ρ[i]? = some s → (st.ρ[i]? = some s ∧ ω[i]? ≠ some (some a)) ∨ SlotOk E (upd H a o) (FF Fo Tm ι ω) Fo ι ω[i]? σ[i]? s) (hr : st'.ρ.length = st.ρ.length) :
    Rel E Fo Tm ι ω σ (upd H a o) st' ∧ Kp E H (FF Fo Tm ι ω) ι (upd H a o) (FF Fo Tm ι ω) ι := by
  have k : Kp E H (FF Fo Tm ι ω) ι (upd H a o) (FF Fo Tm ι ω) ι := Kp.upd ha hu hF
  refine ⟨⟨by rw [hl]; exact R.nι, by rw [hr]; exact R.nρ, by rw [hr]; exact R.nω, R.iι, R.iω, R.oT, R.oι, R.oω, R.tι, R.tω, R.cω, fun b z => ?_, fun n c e => ?_, fun i s e => ?_⟩, k⟩
  · by_cases eb : b = a
    · subst eb; exact ⟨o, upd_same, ho⟩
    · rw [upd_ne eb]; exact R.th b z
  · rcases hcS n c e with ⟨e1, e2⟩ | ⟨e1, e2⟩
    · obtain ⟨b, x, y⟩ := R.cells n c e1
      exact ⟨b, x, k.cell (upd_ne fun z => e2 (z ▸ x)) y⟩
    · exact ⟨a, e1, e2⟩
  · rcases hρ i s e with ⟨e1, e2⟩ | e1
    · exact (R.slots i s e1).keep k (fun b z => upd_ne fun w => nF (w ▸ z)) fun b z => upd_ne fun w => e2 (w ▸ z)
    · exact e1
/-- what a change of an object's content asks -/
def ChgOk (E : Env) (H : Hp) (F : Addr → Prop) (ι : List Addr) (a : Addr) (v : V) (r d' : D) (o : HO) : Prop := notTup o ∧ Is E (upd H a o) F ι r v ∧ Cell E (upd H a o) F ι a d'
theorem change_ok {f : D → Option (D × D)} (R : Rel E Fo (orP T Tm) ι ω σ H st) {h h' : Hd} {v : V} (q : Hk E H (FF Fo (orP T Tm) ι ω) ι σ T h v) (e : change h f st = .ok h' st') :
    ∃ a d r d', v = .ref a ∧ Cell E H (FF Fo (orP T Tm) ι ω) ι a d ∧ f d = some (r, d') ∧ h' = (r, false) ∧ (∀ b, ¬ T b) ∧ ¬ Fo a ∧ ¬ Tm a ∧ FF Fo (orP T Tm) ι ω a ∧ Lk st ω st' ω ∧ (∀ (i : Nat) d, st.ρ[i]? = some (some (d, .lock)) → ω[i]? ≠ some (some a)) ∧
      ∀ (o : HO) (w : V), ChgOk E H (FF Fo (orP T Tm) ι ω) ι a w r d' o → Rel E Fo (orP T Tm) ι ω σ (upd H a o) st' ∧ Kp E H (FF Fo (orP T Tm) ι ω) ι (upd H a o) (FF Fo (orP T Tm) ι ω) ι := by
  obtain ⟨d0, fr⟩ := h
  cases d0 with
  | loc i =>
    obtain ⟨q1, q2⟩ : (∀ a, ¬ T a) ∧ σ[i]? = some (some v) := q
    simp only [change] at e
    cases hs : st.ρ[i]? with
    | none => rw [hs] at e; cases e
    | some s =>
      rw [hs] at e
      match s, hs, e with
      | some (x, .own), hs, e =>
        simp only at e
        cases hf : f x with
        | none => rw [hf] at e; cases e
        | some p =>
          obtain ⟨r, d'⟩ := p
          rw [hf] at e
          cases e
          obtain ⟨a, e1, e2, e3⟩ := R.slots i _ hs
          rw [q2] at e2
          cases e2
          have hi : i < st.ρ.length := (List.getElem?_eq_some_iff.mp hs).1
          have fa : FF Fo (orP T Tm) ι ω a := .inr (.inr (.inr ⟨i, e1⟩))
          refine ⟨a, x, r, d', rfl, e3, hf, rfl, q1, fun z => R.oω a z i e1, fun z => R.tω a (.inr z) i e1, fa, ?_, fun j y hj z => ?_, fun o w hc => ?_⟩
          · have := Lk.set (ω := ω) (st' := { st with ρ := st.ρ.set i (some (d', .own)) }) (t := some (d', .own)) (oa := some a) hs (fun d z => by cases z) rfl
            rw [set_get_self e1] at this
            exact this
          · have := R.iω i j a e1 z
            subst this
            rw [hs] at hj
            cases hj
          obtain ⟨u, hu1, hu2⟩ := e3.there
          refine R.change hu1 hu2 hc.1 fa (fun z => R.oω a z i e1) (fun n c e => .inl ⟨e, fun z => R.cω a (List.mem_of_getElem? z) i e1⟩) rfl (fun j s e => ?_) (by simp)
          have e : (st.ρ.set i (some (d', .own)))[j]? = some s := e
          by_cases ej : i = j
          · subst ej
            rw [List.getElem?_set_self hi] at e
            cases e
            exact .inr ⟨a, e1, q2, hc.2.2⟩
          · rw [List.getElem?_set_ne ej] at e
            exact .inl ⟨e, fun z => ej (R.iω i j a e1 z)⟩
  | ref n =>
    have q' : (∀ a, ¬ T a) ∧ Is E H (FF Fo (orP T Tm) ι ω) ι (.ref n) v := by
      have q : (if fr = true ∧ (D.ref n).mutable = true then ∃ a, (∀ b, T b ↔ b = a) ∧ v = .ref a ∧ Cell E H (FF Fo (orP T Tm) ι ω) ι a (.ref n) else (∀ a, ¬ T a) ∧ Is E H (FF Fo (orP T Tm) ι ω) ι (.ref n) v) := q
      rw [if_neg (by simp [D.mutable])] at q
      exact q
    obtain ⟨q1, a, e1, rfl⟩ := q'
    simp only [change] at e
    cases hs : st.S[n]? with
    | none => rw [hs] at e; cases e
    | some x =>
      rw [hs] at e
      simp only at e
      cases hf : f x with
      | none => rw [hf] at e; cases e
      | some p =>
        obtain ⟨r, d'⟩ := p
        rw [hf] at e
        cases e
        obtain ⟨b, x1, x2⟩ := R.cells n _ hs
        rw [e1] at x1
        cases x1
        have ma : a ∈ ι := List.mem_of_getElem? e1
        have fa : FF Fo (orP T Tm) ι ω a := .inr (.inr (.inl ma))
        have hn : n < st.S.length := (List.getElem?_eq_some_iff.mp hs).1
        refine ⟨a, x, r, d', rfl, x2, hf, rfl, q1, fun z => R.oι a z ma, fun z => R.tι a (.inr z) ma, fa, Lk.refl, fun j y hj z => R.cω a ma j z, fun o w hc => ?_⟩
        obtain ⟨u, hu1, hu2⟩ := x2.there
        refine R.change hu1 hu2 hc.1 fa (fun z => R.oι a z ma) (fun m c e => ?_) (by simp) (fun j s e => .inl ⟨e, R.cω a ma j⟩) rfl
        have e : (st.S.set n d')[m]? = some c := e
        by_cases em : n = m
        · subst em
          rw [List.getElem?_set_self hn] at e
          cases e
          exact .inr ⟨e1, hc.2.2⟩
        · rw [List.getElem?_set_ne em] at e
          exact .inl ⟨e, fun z => em (R.iι n m a e1 z)⟩
  | _ => cases e
end
end EV

set_option autoImplicit false
set_option linter.all false
namespace EV
open PySem L2

theorem orP_no {Tm : Addr → Prop} : orP noP Tm = Tm := by
  funext a
  simp [orP, noP]
theorem orP_assoc {A B C : Addr → Prop} : orP (orP A B) C = orP A (orP B C) := by
  funext a
  simp [orP, or_assoc]

/-- from one state to a later one: what holds -/
structure Go (E : Env) (Fo Tm : Addr → Prop) (ι : List Addr) (ω : List (Option Addr)) (σ : St) (H : Hp) (st : W) (T : Addr → Prop) (ι' : List Addr) (ω' : List (Option Addr)) (σ' : St) (H' : Hp) (st' : W) : Prop where
  nT : ∀ a, T a → ¬ Tm a
  rel : Rel E Fo (orP T Tm) ι' ω' σ' H' st'
  kp : Kp E H (FF Fo Tm ι ω) ι H' (FF Fo (orP T Tm) ι' ω') ι'
  same : ∀ a, Fo a ∨ Tm a → H' a = H a
  lock : ∀ (i : Nat) d, st.ρ[i]? = some (some (d, .lock)) → st'.ρ[i]? = st.ρ[i]? ∧ σ'[i]? = σ[i]? ∧ ω'[i]? = ω[i]? ∧ ∀ a, ω[i]? = some (some a) → H' a = H a
/-- an error's class and dict -/
def ExIs (E : Env) (H : Hp) (F : Addr → Prop) (ι : List Addr) (x : Ex) (cls : Value) (d : Option Addr) : Prop :=
  ∃ C, cls = .ref C ∧ E.xc x.c = some C ∧ ((x.fs = [] ∧ x.vs = [] ∧ d = none) ∨ x.fs ≠ [] ∧ ∃ dx xs, d = some dx ∧ H dx = some (.xd (x.fs.zip xs)) ∧ x.fs.length = xs.length ∧ IsL E H F ι x.vs xs)
/-- what is wanted of an evaluation's answer, from a given state -/
def Fut {α : Type} (E : Env) (Wx : WX) (Sg : St → Prop) (Fo Tm : Addr → Prop) (ι : List Addr) (ω : List (Option Addr)) (σ : St) (H : Hp) (st : W) (r : Res W α)
    (G : α → (Addr → Prop) → List Addr → List (Option Addr) → St → Hp → W → Prop) : Prop :=
  match r with
  | .ok a st' => ∀ T ι' ω' σ' H', Sg σ' → Go E Fo Tm ι ω σ H st T ι' ω' σ' H' st' → G a T ι' ω' σ' H' st'
  | .exc x st' => ∀ T ι' ω' σ' H' cls d, Sg σ' → Go E Fo Tm ι ω σ H st T ι' ω' σ' H' st' → ExIs E H' (FF Fo (orP T Tm) ι' ω') ι' x cls d → Wx cls d σ' H'
  | .stuck => False

section
variable {E : Env} {Wx : WX} {Sg Sg' : St → Prop} {Fo Tm T T' : Addr → Prop} {ι ι' ι'' : List Addr} {ω ω' ω'' : List (Option Addr)} {σ σ' σ'' : St} {H H' H'' : Hp} {st st' st'' : W} {α β : Type}
  {G G' : α → (Addr → Prop) → List Addr → List (Option Addr) → St → Hp → W → Prop}

theorem Go.refl (R : Rel E Fo Tm ι ω σ H st) : Go E Fo Tm ι ω σ H st noP ι ω σ H st :=
  ⟨fun _ z => z.elim, by rw [orP_no]; exact R, by rw [orP_no]; exact Kp.refl, fun _ _ => rfl, fun _ _ _ => ⟨rfl, rfl, rfl, fun _ _ => rfl⟩⟩
theorem Go.trans (g : Go E Fo Tm ι ω σ H st T ι' ω' σ' H' st') (k : Go E Fo (orP T Tm) ι' ω' σ' H' st' T' ι'' ω'' σ'' H'' st'') : Go E Fo Tm ι ω σ H st (orP T' T) ι'' ω'' σ'' H'' st'' :=
  ⟨fun a z => z.elim (fun z w => k.nT a z (.inr w)) (g.nT a), by rw [orP_assoc]; exact k.rel, by rw [orP_assoc]; exact g.kp.trans k.kp,
    fun a z => (k.same a (z.imp id .inr)).trans (g.same a z), fun i d e => by
      obtain ⟨a1, a2, a3, a4⟩ := g.lock i d e
      obtain ⟨b1, b2, b3, b4⟩ := k.lock i d (a1.trans e)
      exact ⟨b1.trans a1, b2.trans a2, b3.trans a3, fun a z => (b4 a (a3.trans z)).trans (a4 a z)⟩⟩
/-- values on the way are dropped at the end -/
theorem Go.less {T1 : Addr → Prop} (g : Go E Fo Tm ι ω σ H st T ι' ω' σ' H' st') (h : ∀ a, T1 a → T a) : Go E Fo Tm ι ω σ H st T1 ι' ω' σ' H' st' :=
  ⟨fun a z => g.nT a (h a z), g.rel.less fun a z => z.imp (h a) id, g.kp.trans (Kp.less fun a z => FF.less (fun a z => z.imp (h a) id) z), g.same, g.lock⟩
theorem Go.drop (g : Go E Fo Tm ι ω σ H st T ι' ω' σ' H' st') : Go E Fo Tm ι ω σ H st noP ι' ω' σ' H' st' := g.less fun _ z => z.elim
/-- a step from the end, its values on the way of its own choice -/
theorem Go.next {T1 : Addr → Prop} (g : Go E Fo Tm ι ω σ H st T ι' ω' σ' H' st') (nT : ∀ a, T1 a → ¬ Tm a) (R : Rel E Fo (orP T1 Tm) ι'' ω'' σ'' H'' st'') (k : Kp E H' (FF Fo (orP T Tm) ι' ω') ι' H'' (FF Fo (orP T1 Tm) ι'' ω'') ι'')
    (same : ∀ a, Fo a ∨ Tm a → H'' a = H' a) (lock : ∀ (i : Nat) d, st'.ρ[i]? = some (some (d, .lock)) → st''.ρ[i]? = st'.ρ[i]? ∧ σ''[i]? = σ'[i]? ∧ ω''[i]? = ω'[i]? ∧ ∀ a, ω'[i]? = some (some a) → H'' a = H' a) :
    Go E Fo Tm ι ω σ H st T1 ι'' ω'' σ'' H'' st'' :=
  ⟨nT, R, g.kp.trans k, fun a z => (same a z).trans (g.same a z), fun i d e => by
      obtain ⟨a1, a2, a3, a4⟩ := g.lock i d e
      obtain ⟨b1, b2, b3, b4⟩ := lock i d (a1.trans e)
      exact ⟨b1.trans a1, b2.trans a2, b3.trans a3, fun a z => (b4 a (a3.trans z)).trans (a4 a z)⟩⟩
theorem Fut.bind0 {m : M α} {f : α → M β} {G : β → (Addr → Prop) → List Addr → List (Option Addr) → St → Hp → W → Prop} {st0 : W} (h : Fut E Wx Sg Fo Tm ι ω σ H st ((m >>= f) st0) G) (hS : ∀ s, Sg' s → Sg s) :
    Fut E Wx Sg' Fo Tm ι ω σ H st (m st0) fun a _ _ _ _ _ st' => Fut E Wx Sg Fo Tm ι ω σ H st (f a st') G := by
  have e : (m >>= f) st0 = (match m st0 with | .ok a s' => f a s' | .exc x s' => .exc x s' | .stuck => .stuck) := rfl
  rw [e] at h
  cases hm : m st0 with
  | ok a s => rw [hm] at h; exact fun _ _ _ _ _ _ _ => h
  | exc x s => rw [hm] at h; exact fun T ι' ω' σ' H' cls d hs g i => h T ι' ω' σ' H' cls d (hS _ hs) g i
  | stuck => rw [hm] at h; exact h
theorem Fut.mono {r : Res W α} (h : Fut E Wx Sg Fo Tm ι ω σ H st r G) (k : ∀ a T ι' ω' σ' H' st', Sg σ' → Go E Fo Tm ι ω σ H st T ι' ω' σ' H' st' → G a T ι' ω' σ' H' st' → G' a T ι' ω' σ' H' st') : Fut E Wx Sg Fo Tm ι ω σ H st r G' := by
  cases r with
  | ok a s => exact fun T ι' ω' σ' H' hs g => k a T ι' ω' σ' H' s hs g (h T ι' ω' σ' H' hs g)
  | exc x s => exact h
  | stuck => exact h
/-- told from a later state -/
theorem Fut.step {r : Res W α} (g : Go E Fo Tm ι ω σ H st T ι' ω' σ' H' st') (h : Fut E Wx Sg Fo Tm ι ω σ H st r G) :
    Fut E Wx Sg Fo (orP T Tm) ι' ω' σ' H' st' r fun a T' => G a (orP T' T) := by
  cases r with
  | ok a s => exact fun T' ι'' ω'' σ'' H'' hs k => h _ _ _ _ _ hs (g.trans k)
  | exc x s => exact fun T' ι'' ω'' σ'' H'' cls d hs k i => h _ _ _ _ _ cls d hs (g.trans k) (by rw [orP_assoc]; exact i)
  | stuck => exact h
theorem Fut.ok_use {a : α} {s : W} (h : Fut E Wx Sg Fo Tm ι ω σ H st (.ok a s) G) (hs : Sg σ') (g : Go E Fo Tm ι ω σ H st T ι' ω' σ' H' s) : G a T ι' ω' σ' H' s := h _ _ _ _ _ hs g
theorem Fut.pure_use {a : α} {s : W} (h : Fut E Wx Sg Fo Tm ι ω σ H st ((M.pure a : M α) s) G) (hs : Sg σ') (g : Go E Fo Tm ι ω σ H st T ι' ω' σ' H' s) : G a T ι' ω' σ' H' s := h _ _ _ _ _ hs g
theorem Fut.lift {o : Option α} {f : α → M β} {G : β → (Addr → Prop) → List Addr → List (Option Addr) → St → Hp → W → Prop} {s : W} (h : Fut E Wx Sg Fo Tm ι ω σ H st ((liftO o >>= f) s) G) : ∃ a, o = some a ∧ Fut E Wx Sg Fo Tm ι ω σ H st (f a s) G := by
  cases o with
  | none => exact False.elim h
  | some a => exact ⟨a, rfl, h⟩
theorem Fut.lift1 {o : Option α} {s : W} (h : Fut E Wx Sg Fo Tm ι ω σ H st (liftO o s) G) : ∃ a, o = some a ∧ Fut E Wx Sg Fo Tm ι ω σ H st ((M.pure a : M α) s) G := by
  cases o with
  | none => exact False.elim h
  | some a => exact ⟨a, rfl, h⟩
/-- an op that never raises -/
theorem Fut.op {m : M α} {f : α → M β} {G : β → (Addr → Prop) → List Addr → List (Option Addr) → St → Hp → W → Prop} {s : W} (h : Fut E Wx Sg Fo Tm ι ω σ H st ((m >>= f) s) G) (nx : ∀ x s', m s ≠ .exc x s') :
    ∃ a s', m s = .ok a s' ∧ Fut E Wx Sg Fo Tm ι ω σ H st (f a s') G := by
  have e : (m >>= f) s = (match m s with | .ok a s' => f a s' | .exc x s' => .exc x s' | .stuck => .stuck) := rfl
  rw [e] at h
  cases hm : m s with
  | ok a s' => rw [hm] at h; exact ⟨a, s', rfl, h⟩
  | exc x s' => exact absurd hm (nx x s')
  | stuck => rw [hm] at h; exact h.elim
theorem peek_nx (h : Hd) (s : W) (x : Ex) (s' : W) : peek h s ≠ .exc x s' := by
  obtain ⟨d, fr⟩ := h
  intro e
  cases d <;> cases fr <;> simp only [peek, M.pure] at e <;> (repeat' split at e) <;> cases e
theorem esc_nx (h : Hd) (s : W) (x : Ex) (s' : W) : esc h s ≠ .exc x s' := by
  obtain ⟨d, fr⟩ := h
  intro e
  cases d <;> cases fr <;> simp only [esc, M.pure] at e <;> (repeat' split at e) <;> cases e
theorem give_nx (h : Hd) (s : W) (x : Ex) (s' : W) : give h s ≠ .exc x s' := by
  obtain ⟨d, fr⟩ := h
  intro e
  cases d <;> cases fr <;> simp only [give, M.pure] at e <;> (repeat' split at e) <;> cases e
theorem toCell_nx (h : Hd) (s : W) (x : Ex) (s' : W) : toCell h s ≠ .exc x s' := by
  obtain ⟨d, fr⟩ := h
  intro e
  cases d <;> cases fr <;> simp only [toCell, M.pure] at e <;> (repeat' split at e) <;> cases e
theorem change_nx (h : Hd) (f : D → Option (D × D)) (s : W) (x : Ex) (s' : W) : change h f s ≠ .exc x s' := by
  obtain ⟨d, fr⟩ := h
  intro e
  cases d <;> cases fr <;> simp only [change, stuck] at e <;> (repeat' split at e) <;> cases e
end
end EV

set_option autoImplicit false
set_option linter.all false
namespace EV
open PySem L2

section
variable {E : Env} {Wx : WX} {Sg Sg' : St → Prop} {Fo Tm Tm' T T' T0 T1 : Addr → Prop} {ι ι' ι'' ι1 : List Addr} {ω ω' ω'' ω1 : List (Option Addr)} {σ σ' σ'' σ1 : St} {H H' H'' H1 : Hp} {st st' st'' st1 st2 : W}

theorem Hk.gen {h : Hd} {v : V} {F : Addr → Prop} (nl : ∀ i, h.1 ≠ .loc i) : Hk E H F ι σ T h v ↔ (if h.2 = true ∧ h.1.mutable = true then ∃ a, (∀ b, T b ↔ b = a) ∧ v = .ref a ∧ Cell E H F ι a h.1 else (∀ a, ¬ T a) ∧ Is E H F ι h.1 v) := by
  obtain ⟨d, fr⟩ := h
  cases d <;> first | exact Iff.rfl | exact absurd rfl (nl _)
theorem Hk.sh {d : D} {v : V} {F : Addr → Prop} {fr : Bool} (h : Is E H F ι d v) (e : fr = false ∨ d.mutable = false) : Hk E H F ι σ noP (d, fr) v := by
  have nl : ∀ i, (d, fr).1 ≠ .loc i := fun i z => by
    have z : d = .loc i := z
    subst z
    exact h
  rw [Hk.gen nl, if_neg (by rcases e with e | e <;> simp [e])]
  exact ⟨fun _ z => z, h⟩
theorem setSlot_ok {i : Nat} {p : Bool} {h : Hd} {v : V} {u : Unit} (R : Rel E Fo (orP T Tm) ι ω σ H st) (q : Hk E H (FF Fo (orP T Tm) ι ω) ι σ T h v) (nT : ∀ a, T a → ¬ Tm a) (e : setSlot i p h st = .ok u st') :
    ∃ ι' ω', Rel E Fo Tm ι' ω' (σ.set i (some v)) H st' ∧ Kp E H (FF Fo (orP T Tm) ι ω) ι H (FF Fo Tm ι' ω') ι' ∧ Lk st ω st' ω' ∧ (∀ (j : Nat) d, st.ρ[j]? = some (some (d, .lock)) → j ≠ i) := by
  obtain ⟨d0, fr⟩ := h
  have sub : ∀ a, Tm a → orP T Tm a := fun a z => .inr z
  unfold setSlot at e
  split at e
  case isFalse => cases e
  case isTrue c =>
  have hi : i < st.ρ.length := by
    simp only [Bool.and_eq_true, decide_eq_true_eq] at c
    exact c.1
  have hnl : isLock st.ρ[i]? = false := by
    simp only [Bool.and_eq_true, Bool.not_eq_true'] at c
    exact c.2
  have nlk : ∀ (j : Nat) d, st.ρ[j]? = some (some (d, .lock)) → j ≠ i := fun j d hj z => by
    subst z
    rw [hj] at hnl
    cases hnl
  have hs : st.ρ[i]? = some st.ρ[i] := List.getElem?_eq_getElem hi
  have nls : ∀ d, st.ρ[i] ≠ some (d, .lock) := fun d z => nlk i d (by rw [hs, z]) rfl
  have hiω : i < ω.length := by rw [R.nω]; exact hi
  have hiσ : i < σ.length := by rw [R.nρ]; exact hi
  have σi : (σ.set i (some v))[i]? = some (some v) := List.getElem?_set_self hiσ
  have σo : ∀ j, j ≠ i → (σ.set i (some v))[j]? = σ[j]? := fun j hj => List.getElem?_set_ne (Ne.symm hj)
  have shared : (∀ a, ¬ T a) → Is E H (FF Fo (orP T Tm) ι ω) ι d0 v → (Res.ok () { st with ρ := st.ρ.set i (some (d0, .sh)) } : Res W Unit) = .ok u st' →
      ∃ ι' ω', Rel E Fo Tm ι' ω' (σ.set i (some v)) H st' ∧ Kp E H (FF Fo (orP T Tm) ι ω) ι H (FF Fo Tm ι' ω') ι' ∧ Lk st ω st' ω' ∧ (∀ (j : Nat) d, st.ρ[j]? = some (some (d, .lock)) → j ≠ i) := fun nt is e => by
    cases e
    have k0 : Kp E H (FF Fo (orP T Tm) ι ω) ι H (FF Fo Tm ι (ω.set i none)) ι := Kp.less fun a z => FF.set_sub (fun a z => sub a z) (fun a z => by cases z) z
    obtain ⟨R', k⟩ := R.put (i := i) (s := some (d0, .sh)) (oa := none) (σ' := σ.set i (some v)) (Tm' := Tm) hi (by simp) σo sub (fun a z => by cases z) ⟨rfl, v, σi, k0.is is⟩
    exact ⟨ι, _, R', k, Lk.set hs nls rfl, nlk⟩
  have gen : (∀ i, d0 ≠ .loc i) → (if fr = true ∧ d0.mutable = true then ∃ a, (∀ b, T b ↔ b = a) ∧ v = .ref a ∧ Cell E H (FF Fo (orP T Tm) ι ω) ι a d0 else (∀ a, ¬ T a) ∧ Is E H (FF Fo (orP T Tm) ι ω) ι d0 v) →
      (if fr = true ∧ d0.mutable = true then (if p then (Res.ok () { ρ := st.ρ.set i (some (.ref st.S.length, .sh)), S := st.S ++ [d0] } : Res W Unit) else .ok () { st with ρ := st.ρ.set i (some (d0, .own)) }) else .ok () { st with ρ := st.ρ.set i (some (d0, .sh)) }) = .ok u st' →
      ∃ ι' ω', Rel E Fo Tm ι' ω' (σ.set i (some v)) H st' ∧ Kp E H (FF Fo (orP T Tm) ι ω) ι H (FF Fo Tm ι' ω') ι' ∧ Lk st ω st' ω' ∧ (∀ (j : Nat) d, st.ρ[j]? = some (some (d, .lock)) → j ≠ i) := fun nl q e => by
    split at q
    · rename_i cc
      rw [if_pos cc] at e
      obtain ⟨a, t, rfl, z⟩ := q
      have ta : T a := (t a).mpr rfl
      cases p with
      | true =>
        rw [if_pos rfl] at e
        cases e
        obtain ⟨R1, k1⟩ := R.push (Tm' := Tm) sub (.inl ta) (nT a ta) z
        have isr : Is E H (FF Fo Tm (ι ++ [a]) (ω.set i none)) (ι ++ [a]) (.ref st.S.length) (.ref a) := ⟨a, by rw [← R.nι, List.getElem?_append_right (Nat.le_refl _)]; simp, rfl⟩
        obtain ⟨R2, k2⟩ := R1.put (i := i) (s := some (.ref st.S.length, .sh)) (oa := none) (σ' := σ.set i (some (.ref a))) (Tm' := Tm) hi (by simp) σo (fun _ z => z) (fun a z => by cases z) ⟨rfl, _, σi, isr⟩
        exact ⟨_, _, R2, k1.trans k2, Lk.set hs nls rfl, nlk⟩
      | false =>
        rw [if_neg (by simp)] at e
        cases e
        have fa : FF Fo (orP T Tm) ι ω a := .inr (.inl (.inl ta))
        have k0 : Kp E H (FF Fo (orP T Tm) ι ω) ι H (FF Fo Tm ι (ω.set i (some a))) ι := Kp.less fun b z => FF.set_sub (fun a z => sub a z) (fun b z => by cases z; exact fa) z
        obtain ⟨R', k⟩ := R.put (i := i) (s := some (d0, .own)) (oa := some a) (σ' := σ.set i (some (.ref a))) (Tm' := Tm) hi (by simp) σo sub
          (fun b z => by cases z; exact ⟨fa, fun w => R.oT a w (.inl ta), nT a ta, R.tι a (.inl ta), fun j _ => R.tω a (.inl ta) j⟩) ⟨a, rfl, σi, k0.cell rfl z⟩
        exact ⟨ι, _, R', k, Lk.set hs nls rfl, nlk⟩
    · rename_i cc
      rw [if_neg cc] at e
      exact shared q.1 q.2 e
  cases d0 with
  | loc j => cases e
  | _ => exact gen (fun i z => by cases z) q (by simpa only [Bool.and_eq_true] using e)
/-- a value returned -/
theorem give_ok {h h' : Hd} {v : V} (R : Rel E Fo (orP T Tm) ι ω σ H st) (q : Hk E H (FF Fo (orP T Tm) ι ω) ι σ T h v) (nT : ∀ a, T a → ¬ Tm a) (e : give h st = .ok h' st') :
    ∃ ω' T', Rel E Fo (orP T' Tm) ι ω' σ H st' ∧ Kp E H (FF Fo (orP T Tm) ι ω) ι H (FF Fo (orP T' Tm) ι ω') ι ∧ (∀ a, T' a → ¬ Tm a) ∧ Hk E H (FF Fo (orP T' Tm) ι ω') ι σ T' h' v ∧ (∀ i, h'.1 ≠ .loc i) ∧ Lk st ω st' ω' := by
  obtain ⟨d0, fr⟩ := h
  cases d0 with
  | loc i =>
    obtain ⟨q1, q2⟩ : (∀ a, ¬ T a) ∧ σ[i]? = some (some v) := q
    simp only [give] at e
    cases hs : st.ρ[i]? with
    | none => rw [hs] at e; cases e
    | some s =>
      rw [hs] at e
      match s, hs, e with
      | some (x, .own), hs, e =>
        cases e
        obtain ⟨a, ea, nm, R1, k1, c1, nj⟩ := (R.less (Tm' := Tm) fun a z => .inr z).take (s := none) hs
        rw [q2] at ea
        cases ea
        have hm : x.mutable = true := by
          cases x <;> first | rfl | exact False.elim c1
        have nl : ∀ i, (x, true).1 ≠ .loc i := fun i z => by
          have z : x = .loc i := z
          subst z
          exact c1
        refine ⟨_, fun b => b = a, R1, (Kp.less fun a z => FF.less (fun a z => .inr z) z).trans k1, fun b z w => nm (z ▸ w), ?_, nl, Lk.set hs (fun d z => by cases z) rfl⟩
        rw [Hk.gen nl, if_pos ⟨rfl, hm⟩]
        exact ⟨a, fun b => Iff.rfl, rfl, c1⟩
  | _ =>
    cases e
    exact ⟨ω, T, R, Kp.refl, nT, q, (fun i z => by cases z), Lk.refl⟩
/-- what a loop walks, as it stays -/
def Held (E : Env) (Fo Tm : Addr → Prop) (ι : List Addr) (ω : List (Option Addr)) (σ : St) (H : Hp) (st : W) : D → V → Prop
  | .lst ds, v => ∃ a xs, v = .ref a ∧ IsL E H (FF Fo Tm ι ω) ι ds xs ∧ ∀ T' ι' ω' σ' H' st', Go E Fo Tm ι ω σ H st T' ι' ω' σ' H' st' → Rd H' a (.lst xs)
  | .dic ks vs, v => ∃ a kvs, v = .ref a ∧ ks = kvs.map (fun p => keyD p.1) ∧ IsL E H (FF Fo Tm ι ω) ι vs (kvs.map (·.2)) ∧ ∀ T' ι' ω' σ' H' st', Go E Fo Tm ι ω σ H st T' ι' ω' σ' H' st' → H' a = some (.dK kvs)
  | .ins _ _ _, _ => True
  | .ref _, _ => True
  | d, v => Is E H (FF Fo Tm ι ω) ι d v
theorem Held.cell {d : D} {a : Addr} (c : Cell E H (FF Fo Tm ι ω) ι a d) (k : ∀ T' ι' ω' σ' H' st', Go E Fo Tm ι ω σ H st T' ι' ω' σ' H' st' → H' a = H a) : Held E Fo Tm ι ω σ H st d (.ref a) := by
  cases d with
  | lst ds =>
    obtain ⟨xs, h, l⟩ := c
    exact ⟨a, xs, rfl, l, fun T' ι' ω' σ' H' st' g => .inl ((k _ _ _ _ _ _ g).trans h)⟩
  | dic ks vs =>
    obtain ⟨kvs, h, e, l⟩ := c
    exact ⟨a, kvs, rfl, e, l, fun T' ι' ω' σ' H' st' g => (k _ _ _ _ _ _ g).trans h⟩
  | ins c' fs vs => exact trivial
  | _ => exact c.elim
theorem Held.is {d : D} {v : V} (c : Is E H (FF Fo Tm ι ω) ι d v) : Held E Fo Tm ι ω σ H st d v := by
  cases d with
  | lst ds =>
    obtain ⟨a, xs, e, h, l⟩ := c
    exact ⟨a, xs, e, l, fun T' ι' ω' σ' H' st' g => (g.kp.lsf h).sq⟩
  | dic ks vs =>
    obtain ⟨a, kvs, e, h, q, l⟩ := c
    exact ⟨a, kvs, e, q, l, fun T' ι' ω' σ' H' st' g => (g.kp.dcf h).1⟩
  | ins c' fs vs => exact trivial
  | ref n => exact trivial
  | _ => exact c
theorem lockH_nx (h : Hd) (s : W) (x : Ex) (s' : W) : lockH h s ≠ .exc x s' := by
  obtain ⟨d, fr⟩ := h
  intro e
  cases d <;> cases fr <;> simp only [lockH, M.pure, stuck] at e <;> (repeat' split at e) <;> cases e
theorem lockH_ok {h : Hd} {v : V} {d : D} {is : List Nat} (R : Rel E Fo Tm ι ω σ H st) (hT : ∀ a, T a → Tm a) (q : Hk E H (FF Fo Tm ι ω) ι σ T h v) (e : lockH h st = .ok (d, is) st') :
    Rel E Fo Tm ι ω σ H st' ∧ st'.S = st.S ∧ Lk st ω st' ω ∧ (∀ i ∈ is, ∀ d, st.ρ[i]? ≠ some (some (d, .lock))) ∧ Held E Fo Tm ι ω σ H st' d v := by
  obtain ⟨d0, fr⟩ := h
  cases d0 with
  | loc i =>
    obtain ⟨q1, q2⟩ : (∀ a, ¬ T a) ∧ σ[i]? = some (some v) := q
    simp only [lockH] at e
    cases hs : st.ρ[i]? with
    | none => rw [hs] at e; cases e
    | some s =>
      rw [hs] at e
      have sl := R.slots i s hs
      have hi : i < st.ρ.length := (List.getElem?_eq_some_iff.mp hs).1
      match s, hs, sl, e with
      | some (y, .own), hs, sl, e =>
        cases e
        obtain ⟨a, e1, e2, e3⟩ := sl
        rw [q2] at e2
        cases e2
        have lk : Lk st ω { st with ρ := st.ρ.set i (some (d, .lock)) } ω := by
          have := Lk.set (ω := ω) (st' := { st with ρ := st.ρ.set i (some (d, .lock)) }) (t := some (d, .lock)) (oa := some a) hs (fun d z => by cases z) rfl
          rw [set_get_self e1] at this
          exact this
        have R' : Rel E Fo Tm ι ω σ H { st with ρ := st.ρ.set i (some (d, .lock)) } := by
          refine ⟨R.nι, by simpa using R.nρ, by simpa using R.nω, R.iι, R.iω, R.oT, R.oι, R.oω, R.tι, R.tω, R.cω, R.th, R.cells, fun j s e => ?_⟩
          have e : (st.ρ.set i (some (d, .lock)))[j]? = some s := e
          by_cases ej : i = j
          · subst ej
            rw [List.getElem?_set_self hi] at e
            cases e
            exact ⟨a, e1, q2, e3⟩
          · rw [List.getElem?_set_ne ej] at e
            exact R.slots j s e
        refine ⟨R', rfl, lk, fun j hj y hy => ?_, Held.cell e3 fun T' ι' ω' σ' H' st' g => ?_⟩
        · have hj : j = i := by simpa using hj
          subst hj
          rw [hs] at hy
          cases hy
        · exact (g.lock i d (by show (st.ρ.set i (some (d, .lock)))[i]? = _; rw [List.getElem?_set_self hi])).2.2.2 a e1
      | some (y, .lock), hs, sl, e =>
        cases e
        obtain ⟨a, e1, e2, e3⟩ := sl
        rw [q2] at e2
        cases e2
        exact ⟨R, rfl, Lk.refl, fun j hj => by simp at hj, Held.cell e3 fun T' ι' ω' σ' H' st' g => (g.lock i d hs).2.2.2 a e1⟩
      | some (y, .bor), hs, sl, e =>
        cases e
        obtain ⟨e0, a, e1, e2, e3⟩ := sl
        rw [q2] at e1
        cases e1
        exact ⟨R, rfl, Lk.refl, fun j hj => by simp at hj, Held.cell e3 fun T' ι' ω' σ' H' st' g => g.same a (.inl e2)⟩
  | ref n => cases e
  | _ =>
    cases e
    refine ⟨R, rfl, Lk.refl, fun j hj => by simp at hj, ?_⟩
    rw [Hk.gen (fun i z => by cases z)] at q
    split at q
    · obtain ⟨a, t, rfl, z⟩ := q
      exact Held.cell z fun T' ι' ω' σ' H' st' g => g.same a (.inr (hT a ((t a).mpr rfl)))
    · exact Held.is q.2
theorem unlock_ok : ∀ {is : List Nat} {st : W} {u : Unit} {st' : W}, Rel E Fo Tm ι ω σ H st → unlock is st = .ok u st' → Rel E Fo Tm ι ω σ H st' ∧ st'.S = st.S ∧ ∀ j, j ∉ is → st'.ρ[j]? = st.ρ[j]?
  | [], st, u, st', R, e => by
    cases e
    exact ⟨R, rfl, fun _ _ => rfl⟩
  | i :: l, st, u, st', R, e => by
    unfold unlock at e
    split at e
    · rename_i d hs
      have hi : i < st.ρ.length := (List.getElem?_eq_some_iff.mp hs).1
      have R' : Rel E Fo Tm ι ω σ H { st with ρ := st.ρ.set i (some (d, .own)) } := by
        refine ⟨R.nι, by simpa using R.nρ, by simpa using R.nω, R.iι, R.iω, R.oT, R.oι, R.oω, R.tι, R.tω, R.cω, R.th, R.cells, fun j s e => ?_⟩
        have e : (st.ρ.set i (some (d, .own)))[j]? = some s := e
        by_cases ej : i = j
        · subst ej
          rw [List.getElem?_set_self hi] at e
          cases e
          have sl := R.slots i _ hs
          exact sl
        · rw [List.getElem?_set_ne ej] at e
          exact R.slots j s e
      obtain ⟨R2, e2, e3⟩ := unlock_ok R' e
      refine ⟨R2, e2, fun j hj => ?_⟩
      rw [e3 j (fun z => hj (List.mem_cons_of_mem _ z))]
      have ej : i ≠ j := fun z => hj (z ▸ List.mem_cons_self)
      exact List.getElem?_set_ne ej
    · obtain ⟨R2, e2, e3⟩ := unlock_ok R e
      exact ⟨R2, e2, fun j hj => e3 j fun z => hj (List.mem_cons_of_mem _ z)⟩
theorem unlock_nx : ∀ (is : List Nat) (s : W) (x : Ex) (s' : W), unlock is s ≠ .exc x s'
  | [], s, x, s' => fun e => by cases e
  | i :: l, s, x, s' => fun e => by
    unfold unlock at e
    split at e
    · exact unlock_nx l _ x s' e
    · exact unlock_nx l _ x s' e
theorem setSlot_nx (i : Nat) (p : Bool) (h : Hd) (s : W) (x : Ex) (s' : W) : setSlot i p h s ≠ .exc x s' := by
  obtain ⟨d, fr⟩ := h
  intro e
  unfold setSlot at e
  split at e
  · cases d <;> simp only at e <;> (repeat' split at e) <;> cases e
  · cases e
end
end EV

set_option autoImplicit false
set_option linter.all false
set_option maxRecDepth 10000
namespace EV
open PySem L2

/-! ### values as data -/
mutual
theorem D.py_lay : ∀ {d : D}, d.pure = true → d.py.canLay0 = true
  | .non, _ => rfl
  | .bl _, _ => rfl
  | .int _, _ => rfl
  | .str s, h => h
  | .tup l, h => by
    have h : D.pureL l = true := h
    show PyData.canLayAll0 (D.pyL l) = true
    exact D.pyL_lay h
  | .lst l, h => by
    have h : D.pureL l = true := h
    show PyData.canLayAll0 (D.pyL l) = true
    exact D.pyL_lay h
  | .dic _ _, h => by cases h
  | .kon _ _, h => by cases h
  | .ins _ _ _, h => by cases h
  | .ref _, h => by cases h
  | .loc _, h => by cases h
theorem D.pyL_lay : ∀ {l : List D}, D.pureL l = true → PyData.canLayAll0 (D.pyL l) = true
  | [], _ => rfl
  | a :: l, h => by
    have h : (D.pure a && D.pureL l) = true := h
    rw [Bool.and_eq_true] at h
    show ((D.py a).canLay0 && PyData.canLayAll0 (D.pyL l)) = true
    rw [D.py_lay h.1, D.pyL_lay h.2]
    rfl
end
mutual
theorem D.py_depth : ∀ {d : D}, d.pure = true → d.py.depth = d.depth
  | .non, _ => rfl
  | .bl _, _ => rfl
  | .int _, _ => rfl
  | .str s, h => rfl
  | .tup l, h => by
    have h : D.pureL l = true := h
    show PyData.depthAll (D.pyL l) + 1 = D.depthL l + 1
    rw [D.pyL_depth h]
  | .lst l, h => by
    have h : D.pureL l = true := h
    show PyData.depthAll (D.pyL l) + 1 = D.depthL l + 1
    rw [D.pyL_depth h]
  | .dic _ _, h => by cases h
  | .kon _ _, h => by cases h
  | .ins _ _ _, h => by cases h
  | .ref _, h => by cases h
  | .loc _, h => by cases h
theorem D.pyL_depth : ∀ {l : List D}, D.pureL l = true → PyData.depthAll (D.pyL l) = D.depthL l
  | [], _ => rfl
  | a :: l, h => by
    have h : (D.pure a && D.pureL l) = true := h
    rw [Bool.and_eq_true] at h
    show Nat.max (D.py a).depth (PyData.depthAll (D.pyL l)) = Nat.max a.depth (D.depthL l)
    rw [D.py_depth h.1, D.pyL_depth h.2]
end
theorem D.shaped {d : D} (h : d.ok = true) : SeqAt.shaped d.py = true := by
  unfold D.ok at h
  rw [Bool.and_eq_true, decide_eq_true_eq] at h
  unfold SeqAt.shaped
  rw [D.py_lay h.1, D.py_depth h.1]
  simp
  omega
mutual
theorem D.py_eqv : ∀ {a b : D}, a.pure = true → b.pure = true → PyData.eqv a.py b.py = D.eqv a b
  | a, b, ha, hb => by
    cases a <;> first
      | (cases ha; done)
      | (cases b <;> first
          | (cases hb; done)
          | rfl
          | exact D.pyL_eqv ha hb
          | (simp only [D.py, PyData.eqv, D.eqv, beq_iff_eq]; rfl)
          | (simp [D.py, PyData.eqv, D.eqv]; done))
theorem D.pyL_eqv : ∀ {a b : List D}, D.pureL a = true → D.pureL b = true → PyData.eqvAll (D.pyL a) (D.pyL b) = D.eqvL a b
  | [], [], _, _ => rfl
  | [], _ :: _, _, _ => rfl
  | _ :: _, [], _, _ => rfl
  | a :: l, b :: m, ha, hb => by
    have ha : (D.pure a && D.pureL l) = true := ha
    have hb : (D.pure b && D.pureL m) = true := hb
    rw [Bool.and_eq_true] at ha hb
    show (PyData.eqv a.py b.py && PyData.eqvAll (D.pyL l) (D.pyL m)) = (D.eqv a b && D.eqvL l m)
    rw [D.py_eqv ha.1 hb.1, D.pyL_eqv ha.2 hb.2]
end
section
variable {E : Env} {H : Hp} {F : Addr → Prop} {ι : List Addr}
mutual
theorem Is.dp : ∀ {d : D} {v : V}, d.pure = true → Is E H F ι d v → Dp E.K H v d.py
  | .non, v, _, h => by cases h; exact .non
  | .bl _, v, _, h => by cases h; exact .bl _
  | .int _, v, _, h => by cases h; exact .int _
  | .str _, v, _, h => by cases h; exact .str _
  | .tup l, v, p, ⟨a, xs, e, h, q⟩ => by subst e; exact .tup h (IsL.dp p q)
  | .lst l, v, p, ⟨a, xs, e, h, q⟩ => by subst e; exact .lst (.inl h.1) (IsL.dp p q)
  | .dic _ _, _, h, _ => by cases h
  | .kon _ _, _, h, _ => by cases h
  | .ins _ _ _, _, h, _ => by cases h
  | .ref _, _, h, _ => by cases h
  | .loc _, _, h, _ => by cases h
theorem IsL.dp : ∀ {l : List D} {xs : List V}, D.pureL l = true → IsL E H F ι l xs → DpAll E.K H xs (D.pyL l)
  | [], _, _, h => by rw [IsL.nil h]; exact .nil
  | a :: l, _, p, ⟨x, r, e, h1, h2⟩ => by
    subst e
    have p : (D.pure a && D.pureL l) = true := p
    rw [Bool.and_eq_true] at p
    exact .cons (Is.dp p.1 h1) (IsL.dp p.2 h2)
end
theorem Pk.dp {d : D} {v : V} (p : d.pure = true) (h : Pk E H F ι d v) : Dp E.K H v d.py := by
  cases d with
  | lst l =>
    obtain ⟨a, xs, e, r, q⟩ := h
    subst e
    exact .lst (.inl r) (IsL.dp p q)
  | dic _ _ => cases p
  | kon _ _ => cases p
  | ins _ _ _ => cases p
  | _ => exact Is.dp (F := F) (ι := ι) p h
end
end EV

set_option autoImplicit false
set_option linter.all false
set_option maxRecDepth 10000
namespace EV
open PySem L2 PyProof.Rows

section
variable {E : Env} {Fo Tm T : Addr → Prop} {ι : List Addr} {ω : List (Option Addr)} {σ : L2.St} {H : Hp} {st : W} {F : Addr → Prop}
theorem line_eq : line = sizeLine := rfl
theorem Rel.none_ff (R : Rel E Fo Tm ι ω σ H st) {p a : Addr} (hp : H p = none) (z : FF Fo Tm ι ω a) : a ≠ p := fun e => by
  obtain ⟨u, h, _⟩ := R.th a z
  rw [e, hp] at h
  cases h
theorem Go.laid {p : Addr} {o : HO} (R : Rel E Fo Tm ι ω σ H st) (hp : H p = none) (ho : notTup o) : Go E Fo Tm ι ω σ H st (fun a => a = p) ι ω σ (upd H p o) st := by
  obtain ⟨R', k⟩ := R.laid hp ho
  refine ⟨fun a e z => R.none_ff hp (.inr (.inl z)) e, R', k, fun a z => upd_ne (R.none_ff hp (z.elim .inl fun z => .inr (.inl z))), fun i d h => ⟨rfl, rfl, rfl, fun a e => upd_ne (R.none_ff hp (.inr (.inr (.inr ⟨i, e⟩))))⟩⟩
theorem Go.laidT {p : Addr} {o : HO} (R : Rel E Fo Tm ι ω σ H st) (hp : H p = none) : Go E Fo Tm ι ω σ H st noP ι ω σ (upd H p o) st := by
  obtain ⟨R', k⟩ := R.laidT (o := o) hp
  refine ⟨fun a z => z.elim, by rw [orP_no]; exact R', by rw [orP_no]; exact k, fun a z => upd_ne (R.none_ff hp (z.elim .inl fun z => .inr (.inl z))), fun i d h => ⟨rfl, rfl, rfl, fun a e => upd_ne (R.none_ff hp (.inr (.inr (.inr ⟨i, e⟩))))⟩⟩
/-- the answer h may be told, whatever stands for it -/
def Ans (E : Env) (Fo Tm : Addr → Prop) (ι : List Addr) (ω : List (Option Addr)) (σ : L2.St) (H : Hp) (st : W) (h : Hd) (Q : VK) : Prop :=
  ∀ T ι' ω' H' v, Go E Fo Tm ι ω σ H st T ι' ω' σ H' st → Hk E H' (FF Fo (orP T Tm) ι' ω') ι' σ T h v → Q v H'
theorem Ans.val {d : D} {v : V} {fr : Bool} {Q : VK} (a : Ans E Fo Tm ι ω σ H st (d, fr) Q) (R : Rel E Fo Tm ι ω σ H st) (h : Is E H (FF Fo Tm ι ω) ι d v) (e : fr = false ∨ d.mutable = false) : Q v H :=
  a noP ι ω H v (Go.refl R) (Hk.sh (by rw [orP_no]; exact h) e)
theorem Ans.tup {ds : List D} {xs : List V} {fr : Bool} {Q : VK} (a : Ans E Fo Tm ι ω σ H st (.tup ds, fr) Q) (R : Rel E Fo Tm ι ω σ H st) (h : IsL E H (FF Fo Tm ι ω) ι ds xs) {p : Addr} (hp : H p = none) : Q (.ref p) (upd H p (.tup xs)) := by
  have g : Go E Fo Tm ι ω σ H st noP ι ω σ (upd H p (.tup xs)) st := Go.laidT R hp
  exact a noP ι ω _ _ g (Hk.sh ⟨p, xs, rfl, SqT.of upd_same, g.kp.isL h⟩ (.inr rfl))
theorem Ans.lst {ds : List D} {xs : List V} {Q : VK} (a : Ans E Fo Tm ι ω σ H st (.lst ds, true) Q) (R : Rel E Fo Tm ι ω σ H st) (h : IsL E H (FF Fo Tm ι ω) ι ds xs) {p : Addr} (hp : H p = none) : Q (.ref p) (upd H p (.lst xs)) := by
  have g : Go E Fo Tm ι ω σ H st (fun a => a = p) ι ω σ (upd H p (.lst xs)) st := Go.laid R hp trivial
  exact a _ ι ω _ _ g ⟨p, fun b => Iff.rfl, rfl, xs, upd_same, g.kp.isL h⟩
theorem Ans.dic {ks vs : List D} {kvs : List (Key × V)} {Q : VK} (a : Ans E Fo Tm ι ω σ H st (.dic ks vs, true) Q) (R : Rel E Fo Tm ι ω σ H st) (hk : ks = kvs.map (fun p => keyD p.1)) (h : IsL E H (FF Fo Tm ι ω) ι vs (kvs.map (·.2))) {p : Addr} (hp : H p = none) :
    Q (.ref p) (upd H p (.dK kvs)) := by
  have g : Go E Fo Tm ι ω σ H st (fun a => a = p) ι ω σ (upd H p (.dK kvs)) st := Go.laid R hp trivial
  exact a _ ι ω _ _ g ⟨p, fun b => Iff.rfl, rfl, kvs, upd_same, hk, g.kp.isL h⟩
theorem Pk.less {d : D} {v : V} {F' : Addr → Prop} (h : Pk E H F ι d v) (l : ∀ a, F' a → F a) : Pk E H F' ι d v := by
  have k : Kp E H F ι H F' ι := Kp.less l
  cases d with
  | lst ds => obtain ⟨a, xs, e, r, q⟩ := h; exact ⟨a, xs, e, r, k.isL q⟩
  | dic ks vs => obtain ⟨a, kvs, e, r, q, z⟩ := h; exact ⟨a, kvs, e, r, q, k.isL z⟩
  | ins c fs vs => obtain ⟨a, C, dx, xs, e, r, c1, c2, q⟩ := h; exact ⟨a, C, dx, xs, e, r, c1, c2, k.isL q⟩
  | _ => exact k.is h
end

/-! ### operations -/
section
variable {X : Cx} {f : Value → Value → Sem Value}
theorem OpR.any {r' : R2} (h : ∀ x y H Q, r' x y H Q → ∃ r, OpR X f r ∧ r x y H Q) : OpR X f r' := fun pins s σ H x y v u Q I rx ry q => by
  obtain ⟨r, ho, hr⟩ := h x y H Q q
  exact ho pins s σ H x y v u Q I rx ry hr
def rCatR : R2 := fun x y H Q => ∃ l b xs zs, x = .ref l ∧ y = .ref b ∧ Rd H l (.lst xs) ∧ Rd H b (.lst zs) ∧ xs.length + zs.length ≤ sizeLine ∧ ∀ p, H p = none → Q (.ref p) (upd H p (.lst (xs ++ zs)))
theorem rdL {pins : List (Addr × Obj)} {σ : L2.St} {H : Hp} {s : Shared} {l : Addr} {xs : List V} (I : Inv X pins σ H s) (h : Rd H l (.lst xs)) : xs.length ≤ sizeLine ∧ ∃ (its : List Value) (n : Nat), Vals xs its ∧ xs.length = its.length ∧ s.heap.get? l = some { cls := .type "list", data := .seq its.toArray n } := by
  obtain ⟨z, its, n, r, e⟩ := h.ok I.hok
  exact ⟨z, its, n, r, r.length, e⟩
theorem op_catR : OpR X (binaryOp .Add) rCatR := by
  intro pins s σ H x y v u Q I rx ry h
  obtain ⟨l, b, xs, zs, rfl, rfl, hH, hB, hz, q⟩ := h
  cases rx
  cases ry
  obtain ⟨z, its, n, r, hl, e⟩ := rdL I hH
  obtain ⟨z2, its2, n2, r2, hl2, e2⟩ := rdL I hB
  refine PySem.P.add_list e e2 ?_ (by rw [List.size_toArray, List.size_toArray]; omega)
  have ea : its.toArray ++ its2.toArray = (its ++ its2).toArray := by simp
  rw [ea]
  exact ⟨.ref _, _, I.lnew (t' := s.toks) (r.append r2) (by rw [List.length_append]; omega), rfl, q _ I.fresh⟩
def rRepR : R2 := fun x y H Q => ∃ l k xs, x = .ref l ∧ y = .int k ∧ Rd H l (.lst xs) ∧ -(2 ^ 63) ≤ k ∧ k < 2 ^ 63 ∧ xs.length * k.toNat ≤ sizeLine ∧
  ∀ p, H p = none → Q (.ref p) (upd H p (.lst (List.replicate k.toNat xs).flatten))
theorem op_repR : OpR X (binaryOp .Mult) rRepR := by
  intro pins s σ H x y v u Q I rx ry h
  obtain ⟨l, k, xs, rfl, rfl, hH, h1, h2, hz, q⟩ := h
  cases rx
  obtain ⟨t, rfl⟩ := ry
  obtain ⟨z, its, n, r, hl, e⟩ := rdL I hH
  have hlen : its.toArray.size * k.toNat ≤ sizeLine := by rw [List.size_toArray, ← hl]; exact hz
  have hcap : ¬ its.toArray.size * k.toNat > (2 ^ 63 - 1) / 8 := by
    have : (sizeLine : Nat) ≤ (2 ^ 63 - 1) / 8 := by decide
    omega
  have hfit : ¬ (!Builtin.List.listFitsIndex k) = true := by
    rw [fitsIndex_both h1 h2]
    exact Bool.false_ne_true
  have hlong : ¬ Builtin.List.listTooLong (its.toArray.size * k.toNat) = true := by
    rw [notLongL hlen]
    exact Bool.false_ne_true
  have hnew : List.foldl (fun x1 x2 => x1 ++ x2) #[] (List.replicate (if its.toArray.isEmpty = true then 0 else k.toNat) its.toArray) = (List.replicate k.toNat its).flatten.toArray := by
    have f0 : ∀ m : Nat, List.foldl (fun x1 x2 => x1 ++ x2) #[] (List.replicate m its.toArray) = (List.replicate m its).flatten.toArray := fun m => by
      have := foldl_rep its m []
      rw [List.nil_append] at this
      exact this
    rw [f0]
    cases its with
    | nil => simp
    | cons a r' => rw [if_neg (by simp)]
  refine wpAny_binaryOp_repeat_ref (T := "list") (U := "int") (by decide) ⟨_, e, rfl⟩ (fun s' => typeIs_int s' k t) noFill_list_mul F.fills_int_mul F.slot_int_rmul repeat_list F.slot_int_index.lookup
    (call_meets F.slot_int_rmul (typeIs_int s k t) F.entry_int_rmul (F.args_int_rmul_2 _ _) (int___rmul___int_list k t l its.toArray n)
      ⟨e, rfl, ⟨_, e, rfl⟩, call_meets F.slot_list_mul ⟨_, e, rfl⟩ F.entry_list_mul (F.args_list_mul_2 _ _) (AutoListH.list___mul___list_int_3 l its.toArray n k t hfit hcap hlong) ⟨e, ?_⟩⟩)
  rw [hnew]
  exact ⟨.ref _, _, I.lnew (t' := s.toks) (r.rep k.toNat) (by rw [PyProof.Rows.lm_len_rep_flat, Nat.mul_comm]; exact hz), rfl, q _ I.fresh⟩
end

section
theorem tuple_mul1 (l : Addr) (items : Array Value) (n : Nat) (dd : Option Addr) (sl : Array (Option Value)) (u : Tok) :
    Meets (Builtin.«tuple.__mul__» ⟨[.ref l, .int 1 u], []⟩) (fun _ R s => s.heap.get? l = some { cls := .type "tuple", dict := dd, data := .seq items n, slots := sl } ∧
      R (.ok (.ret (Value.ref l))) s) :=
  .of_wp fun prog w A R s h => by
    obtain ⟨hp, g, d, tk, os⟩ := s
    obtain ⟨hl, h⟩ := h
    have f1 := AutoSeq1.idx_int
    wp_walk using wpAny_loadPart' hl
    exact ⟨_, rfl, h⟩
theorem tuple_mul0 (l : Addr) (items : Array Value) (n : Nat) (dd : Option Addr) (sl : Array (Option Value)) (u : Tok) (c1 : (items.isEmpty || (0 : Int) == 1) = false) :
    Meets (Builtin.«tuple.__mul__» ⟨[.ref l, .int 0 u], []⟩) (fun _ R s => s.heap.get? l = some { cls := .type "tuple", dict := dd, data := .seq items n, slots := sl } ∧
      R (.ok (.ret (Value.ref s.heap.objs.size))) { s with heap := s.heap.push { cls := Value.type "tuple", data := Data.seq #[] }, toks := s.toks }) :=
  .of_wp fun prog w A R s h => by
    obtain ⟨hp, g, d, tk, os⟩ := s
    obtain ⟨hl, h⟩ := h
    have f1 := AutoSeq1.idx_int
    wp_walk using wpAny_loadPart' hl
    refine wpAny_ite_false (decide_eq_false (by rw [c1]; exact Bool.false_ne_true)) ?_
    wp_walk using wpAny_loadPart' hl
    exact ⟨_, rfl, h⟩
variable {X : Cx}
def rRepT1 (K : PySem.W.Frag) : R2 := fun x y H Q => ∃ l xs, x = .ref l ∧ y = .int 1 ∧ SqT K H l xs ∧ Q (.ref l) H
theorem op_repT1 : OpR X (binaryOp .Mult) (rRepT1 X.K) := by
  intro pins s σ H x y v u Q I rx ry h
  obtain ⟨l, xs, rfl, rfl, hT, q⟩ := h
  cases rx
  obtain ⟨t, rfl⟩ := ry
  obtain ⟨its, r, ⟨⟨cls, dd, data, sl⟩, ho, hc, n, hd⟩, hs⟩ := I.tuple hT
  simp only at hc hd
  subst hc hd
  exact wpAny_binaryOp_repeat_ref (T := "tuple") (U := "int") (by decide) ⟨_, ho, rfl⟩ (fun s' => typeIs_int s' 1 t) noFill_tuple_mul F.fills_int_mul F.slot_int_rmul repeat_tuple F.slot_int_index.lookup
    (call_meets F.slot_int_rmul (typeIs_int s 1 t) F.entry_int_rmul (F.args_int_rmul_2 _ _) (int_rmul_tuple 1 t l its.toArray n dd sl)
      ⟨ho, rfl, ⟨_, ho, rfl⟩, call_meets F.slot_tuple_mul ⟨_, ho, rfl⟩ F.entry_tuple_mul (F.args_tuple_mul_2 _ _) (tuple_mul1 l its.toArray n dd sl t) ⟨ho, ⟨.ref l, H, I, rfl, q⟩⟩⟩)
def rRepT0 (K : PySem.W.Frag) : R2 := fun x y H Q => ∃ l xs, x = .ref l ∧ y = .int 0 ∧ SqT K H l xs ∧ xs ≠ [] ∧ ∀ p, H p = none → Q (.ref p) (upd H p (.tup []))
theorem op_repT0 : OpR X (binaryOp .Mult) (rRepT0 X.K) := by
  intro pins s σ H x y v u Q I rx ry h
  obtain ⟨l, xs, rfl, rfl, hT, hne, q⟩ := h
  cases rx
  obtain ⟨t, rfl⟩ := ry
  obtain ⟨its, r, ⟨⟨cls, dd, data, sl⟩, ho, hc, n, hd⟩, hs⟩ := I.tuple hT
  simp only at hc hd
  subst hc hd
  have hn : its ≠ [] := fun e => hne (by
    have := r.length
    rw [e] at this
    exact List.eq_nil_of_length_eq_zero this)
  have hi : its.toArray.isEmpty = false := by
    cases its with
    | nil => exact absurd rfl hn
    | cons a b => rfl
  refine wpAny_binaryOp_repeat_ref (T := "tuple") (U := "int") (by decide) ⟨_, ho, rfl⟩ (fun s' => typeIs_int s' 0 t) noFill_tuple_mul F.fills_int_mul F.slot_int_rmul repeat_tuple F.slot_int_index.lookup
    (call_meets F.slot_int_rmul (typeIs_int s 0 t) F.entry_int_rmul (F.args_int_rmul_2 _ _) (int_rmul_tuple 0 t l its.toArray n dd sl)
      ⟨ho, rfl, ⟨_, ho, rfl⟩, call_meets F.slot_tuple_mul ⟨_, ho, rfl⟩ F.entry_tuple_mul (F.args_tuple_mul_2 _ _) (tuple_mul0 l its.toArray n dd sl t (by rw [hi]; rfl)) ⟨ho, ?_⟩⟩)
  exact ⟨.ref s.heap.objs.size, _, I.laid (t' := s.toks) (o := .tup []) (fun b ob q => Heap.get?_push_of_some _ q) (Nat.le_refl _) ⟨Nat.zero_le _, [], .nil, IsTup.new _ _⟩, rfl, q _ (I.hok.fresh (Nat.le_refl _))⟩
def rRepS : R2 := fun x y H Q => ∃ (z : Str) (k : Int), x = .str z ∧ y = .int k ∧ z.length ≤ 1000 ∧ 0 ≤ k ∧ k ≤ 1000 ∧ Q (.str ⟨((List.replicate k.toNat z.cps.toList).flatten).toArray⟩) H
theorem foldlN (xs : List Nat) : ∀ (k : Nat) (acc : List Nat), List.foldl (fun x1 x2 => x1 ++ x2) acc.toArray (List.replicate k xs.toArray) = (acc ++ (List.replicate k xs).flatten).toArray
  | 0, acc => by simp
  | k + 1, acc => by
    have e : acc.toArray ++ xs.toArray = (acc ++ xs).toArray := by simp
    have e2 : (acc ++ xs) ++ (List.replicate k xs).flatten = acc ++ (List.replicate (k + 1) xs).flatten := by
      rw [List.replicate_succ, List.flatten_cons, List.append_assoc]
    rw [← e2, ← foldlN xs k (acc ++ xs), ← e, List.replicate_succ, List.foldl_cons]
theorem len_flat {α : Type} (l : List α) : ∀ n, (List.replicate n l).flatten.length = n * l.length
  | 0 => by simp
  | n + 1 => by rw [List.replicate_succ, List.flatten_cons, List.length_append, len_flat l n, Nat.succ_mul, Nat.add_comm]
theorem op_repS : OpR X (binaryOp .Mult) rRepS := by
  intro pins s σ H x y v u Q I rx ry h
  obtain ⟨z, k, rfl, rfl, hz, h0, h1, q⟩ := h
  obtain ⟨t, rfl⟩ := rx
  obtain ⟨t', rfl⟩ := ry
  have hl : z.cps.toList.length = z.length := by simp [Str.length]
  have sl : (sizeLine : Nat) = 16777216 := sizeLine_eq
  have mx : z.length * k.toNat ≤ 1000 * 1000 := Nat.mul_le_mul hz (by omega)
  refine PySem.P.mul_str (by rw [decide_eq_false (by omega), decide_eq_false (by omega)]; rfl) (fun hk _ => ?_) (fun _ _ => ?_) ?_
  · have : (2 ^ 63 - 1) / k ≥ 1000 := by
      refine (Int.le_ediv_iff_mul_le (by omega)).mpr ?_
      have : 1000 * k ≤ 1000 * 1000 := Int.mul_le_mul_of_nonneg_left h1 (by omega)
      omega
    omega
  · unfold Builtin.Str.tooLong
    exact decide_eq_false (by omega)
  · by_cases k0 : k < 1
    · have e : k = 0 := by omega
      subst e
      rw [if_pos (by omega)]
      exact ⟨by decide, ⟨.str ⟨((List.replicate (0 : Int).toNat z.cps.toList).flatten).toArray⟩, H, I.tok _, ⟨_, rfl⟩, q⟩⟩
    · rw [if_neg k0]
      by_cases k1 : (k == 1 || z.length == 0) = true
      · rw [if_pos k1]
        refine ⟨.str ⟨((List.replicate k.toNat z.cps.toList).flatten).toArray⟩, H, I, ⟨t, ?_⟩, q⟩
        have : (⟨((List.replicate k.toNat z.cps.toList).flatten).toArray⟩ : Str) = z := by
          simp only [Bool.or_eq_true, beq_iff_eq] at k1
          have e : ((List.replicate k.toNat z.cps.toList).flatten).toArray = z.cps := by
            rcases k1 with k1 | k1
            · rw [k1]
              simp
            · have : z.cps.toList = [] := List.eq_nil_of_length_eq_zero (by omega)
              rw [this]
              have : z.cps = #[] := by
                apply Array.ext'
                rw [this]
              rw [this]
              simp
          rw [e]
        rw [this]
      · rw [if_neg k1]
        have e : (List.replicate k.toNat z.cps).foldl (· ++ ·) #[] = ((List.replicate k.toNat z.cps.toList).flatten).toArray := by
          have := foldlN z.cps.toList k.toNat []
          rw [List.nil_append] at this
          simpa using this
        rw [e]
        refine ⟨?_, ⟨.str ⟨((List.replicate k.toNat z.cps.toList).flatten).toArray⟩, H, I.tok _, ⟨_, rfl⟩, q⟩⟩
        show ((List.replicate k.toNat z.cps.toList).flatten).toArray.size ≤ _
        rw [List.size_toArray, len_flat, hl, Nat.mul_comm]
        omega
end
def bopP : BOp → Operator
  | .add => .Add | .sub => .Sub | .mul => .Mult | .mod => .Mod | .fdiv => .FloorDiv | .pow => .Pow
def rBin (E : Env) (o : BOp) : R2 := fun x y H Q => ∃ Fo Tm ι ω σ st dx dy h, Rel E Fo Tm ι ω σ H st ∧ Pk E H (FF Fo Tm ι ω) ι dx x ∧ Pk E H (FF Fo Tm ι ω) ι dy y ∧ binop o dx dy = some h ∧ Ans E Fo Tm ι ω σ H st h Q
theorem rep_flat {α : Type} (l : List α) : ∀ n, rep l n = (List.replicate n l).flatten
  | 0 => rfl
  | n + 1 => by rw [rep, rep_flat l n, List.replicate_succ, List.flatten_cons]
theorem IsL.rep {E : Env} {H : Hp} {F : Addr → Prop} {ι : List Addr} {ds : List D} {xs : List V} (h : IsL E H F ι ds xs) : ∀ n, IsL E H F ι (EV.rep ds n) (EV.rep xs n)
  | 0 => rfl
  | n + 1 => h.append (h.rep n)
theorem IsL.nil_iff {E : Env} {H : Hp} {F : Addr → Prop} {ι : List Addr} {ds : List D} {xs : List V} (h : IsL E H F ι ds xs) : xs = [] ↔ ds = [] := by
  have := h.length
  constructor
  · intro e
    rw [e] at this
    exact List.eq_nil_of_length_eq_zero this.symm
  · intro e
    rw [e] at this
    exact List.eq_nil_of_length_eq_zero this
theorem bin_ok {X : Cx} {E : Env} (eK : E.K = X.K) (o : BOp) : OpR X (binaryOp (bopP o)) (rBin E o) := OpR.any fun x y H Q ⟨Fo, Tm, ι, ω, σ, st, dx, dy, h, R, px, py, e, a⟩ => by
  unfold binop at e
  split at e
  · cases px; cases py; cases e
    exact ⟨_, op_add, _, _, rfl, rfl, a.val R rfl (.inl rfl)⟩
  · cases px; cases py
    split at e <;> cases e
    rename_i c
    exact ⟨_, op_add_str, _, _, rfl, rfl, c, a.val R rfl (.inl rfl)⟩
  · obtain ⟨p, xs, rfl, r1, l1⟩ := px
    obtain ⟨q, ys, rfl, r2, l2⟩ := py
    split at e <;> cases e
    rename_i c
    exact ⟨_, op_catR, _, _, _, _, rfl, rfl, r1, r2, by rw [l1.length, l2.length]; exact c, fun p hp => a.lst R (l1.append l2) hp⟩
  · obtain ⟨p, xs, rfl, r1, l1⟩ := px
    obtain ⟨q, ys, rfl, r2, l2⟩ := py
    split at e <;> cases e
    rename_i c
    refine ⟨_, op_catA, _, _, _, _, rfl, rfl, eK ▸ r1, eK ▸ r2, by rw [l1.length, l2.length]; exact c, fun z => ?_, fun _ z => ?_, fun _ _ p hp => a.tup R (l1.append l2) hp⟩
    · refine a.val R ⟨q, ys, rfl, r2, ?_⟩ (.inl rfl)
      rw [l1.nil_iff.mp z]
      exact l2
    · refine a.val R ⟨p, xs, rfl, r1, ?_⟩ (.inl rfl)
      rw [l2.nil_iff.mp z, List.append_nil]
      exact l1
  · cases px; cases py; cases e
    exact ⟨_, op_sub, _, _, rfl, rfl, a.val R rfl (.inl rfl)⟩
  · cases px; cases py
    split at e <;> cases e
    rename_i c
    refine ⟨_, op_mul, _, _, rfl, rfl, ?_, a.val R rfl (.inl rfl)⟩
    simp only [small, Bool.or_eq_true, Bool.and_eq_true, decide_eq_true_eq] at c
    exact c
  · obtain ⟨p, xs, rfl, r1, l1⟩ := px
    cases py
    split at e <;> cases e
    rename_i c
    simp only [Bool.and_eq_true, decide_eq_true_eq] at c
    refine ⟨_, op_repR, _, _, _, rfl, rfl, r1, by omega, by omega, by rw [l1.length]; exact c.1.1, fun p hp => ?_⟩
    rw [← rep_flat]
    exact a.lst R (l1.rep _) hp
  · obtain ⟨p, xs, rfl, r1, l1⟩ := px
    cases py
    split at e <;> cases e
    rename_i c
    simp only [Bool.and_eq_true, decide_eq_true_eq, Bool.not_eq_true'] at c
    have ne : xs ≠ [] := fun z => by
      rw [l1.nil_iff.mp z] at c
      simp at c
    rename_i j _
    by_cases j0 : j = 0
    · subst j0
      exact ⟨_, op_repT0, _, _, rfl, rfl, eK ▸ r1, ne, fun p hp => a.tup R rfl hp⟩
    · by_cases j1 : j = 1
      · subst j1
        refine ⟨_, op_repT1, _, _, rfl, rfl, eK ▸ r1, a.val R ⟨_, _, rfl, r1, ?_⟩ (.inl rfl)⟩
        show IsL E H _ ι (_ ++ []) xs
        rw [List.append_nil]
        exact l1
      · refine ⟨_, op_repT, _, _, _, rfl, rfl, eK ▸ r1, ne, by omega, by omega, by rw [l1.length]; omega, fun p hp => ?_⟩
        rw [← rep_flat]
        exact a.tup R (l1.rep _) hp
  · cases px; cases py
    split at e <;> cases e
    rename_i c
    simp only [Bool.and_eq_true, decide_eq_true_eq] at c
    refine ⟨_, op_repS, _, _, rfl, rfl, c.1.1, c.1.2, c.2, ?_⟩
    rw [← rep_flat]
    exact a.val R rfl (.inl rfl)
  · cases px; cases py
    split at e <;> cases e
    rename_i c
    exact ⟨_, op_mod, _, _, rfl, rfl, c, a.val R rfl (.inl rfl)⟩
  · cases px; cases py
    split at e <;> cases e
    rename_i c
    simp only [Bool.and_eq_true, decide_eq_true_eq] at c
    exact ⟨_, op_fdiv, _, _, rfl, rfl, c, a.val R rfl (.inl rfl)⟩
  · cases px; cases py
    split at e <;> cases e
    rename_i c
    simp only [Bool.and_eq_true, decide_eq_true_eq, small] at c
    exact ⟨_, op_pow, _, _, rfl, rfl, ⟨by omega, by omega, by omega⟩, a.val R rfl (.inl rfl)⟩
  · cases e
end EV

set_option autoImplicit false
set_option linter.all false
set_option maxRecDepth 10000
namespace EV
open PySem L2 PyProof.Rows

def copP : COp → CmpOp
  | .eq => .Eq | .ne => .NotEq | .lt => .Lt | .le => .LtE | .gt => .Gt | .ge => .GtE | .is => .Is | .isnot => .IsNot | .isin => .In | .notin => .NotIn
theorem copP_of (o : CmpOp) : copP (copOf o) = o := by cases o <;> rfl
section
variable {X : Cx}
def rInDT (K : PySem.W.Frag) : R2 := fun x y H Q => ∃ d ds, Dp K H x d ∧ Dp K H y (.tuple ds) ∧ SeqAt.shaped d = true ∧ SeqAt.shaped (.tuple ds) = true ∧ Q (.bl (ds.any fun z => PyData.eqv z d)) H
def rNotInDT (K : PySem.W.Frag) : R2 := fun x y H Q => ∃ d ds, Dp K H x d ∧ Dp K H y (.tuple ds) ∧ SeqAt.shaped d = true ∧ SeqAt.shaped (.tuple ds) = true ∧ Q (.bl (!ds.any fun z => PyData.eqv z d)) H
theorem op_inDT (hu : X.A.units + 65 < cLine) : OpR X (compareOp .In) (rInDT X.K) := by
  intro pins s σ H x y v u Q I rx ry h
  obtain ⟨d, ds, hd, he, sd, se, q⟩ := h
  obtain ⟨as, r1⟩ := Dp.reads I d x v hd rx
  obtain ⟨bs, r2⟩ := Dp.reads I (.tuple ds) y u he ry
  exact SeqAt.in_tuple_reads r2 r1 (SeqAt.canLay_of_shaped se) (SeqAt.canLay_of_shaped sd) (room_in_shaped sd hu) ⟨.bl _, H, I, rfl, q⟩
theorem op_notInDT (hu : X.A.units + 65 < cLine) : OpR X (compareOp .NotIn) (rNotInDT X.K) := by
  intro pins s σ H x y v u Q I rx ry h
  obtain ⟨d, ds, hd, he, sd, se, q⟩ := h
  obtain ⟨as, r1⟩ := Dp.reads I d x v hd rx
  obtain ⟨bs, r2⟩ := Dp.reads I (.tuple ds) y u he ry
  exact SeqAt.notIn_tuple_reads r2 r1 (SeqAt.canLay_of_shaped se) (SeqAt.canLay_of_shaped sd) (room_in_shaped sd hu) ⟨.bl _, H, I, rfl, q⟩
def rInDic : R2 := fun x y H Q => ∃ a o, y = .ref a ∧ DGet H a x o ∧ Q (.bl o.isSome) H
def rNotInDic : R2 := fun x y H Q => ∃ a o, y = .ref a ∧ DGet H a x o ∧ Q (.bl (!o.isSome)) H
theorem op_inDic (hu : X.A.units + 1 < cLine) : OpR X (compareOp .In) rInDic := by
  intro pins s σ H x y v u Q I rx ry h
  obtain ⟨a, o, rfl, g, q⟩ := h
  cases ry
  exact d_in hu I g rx fun s3 I3 => ⟨.bl o.isSome, H, I3, rfl, q⟩
theorem op_notInDic (hu : X.A.units + 1 < cLine) : OpR X (compareOp .NotIn) rNotInDic := by
  intro pins s σ H x y v u Q I rx ry h
  obtain ⟨a, o, rfl, g, q⟩ := h
  cases ry
  exact d_notIn hu I g rx fun s3 I3 => ⟨.bl (!o.isSome), H, I3, rfl, q⟩
end
section
variable {E : Env} {H : Hp} {F : Addr → Prop} {ι : List Addr}
theorem Is.flat {d : D} {v : V} (p : d.flat = true) (h : Is E H F ι d v) : flatV v = true := by
  cases d <;> first | (cases p; done) | (cases h; rfl)
theorem Is.flat_eq {a b : D} {x y : V} (p : a.flat = true) (q : b.flat = true) (h : Is E H F ι a x) (k : Is E H F ι b y) : L2.eqV x y = D.eqv a b := by
  cases a <;> first
    | (cases p; done)
    | (cases b <;> first
        | (cases q; done)
        | (cases h; cases k; rfl)
        | (cases h; cases k; simp [L2.eqV, D.eqv]; done))
theorem IsL.flat : ∀ {ds : List D} {xs : List V}, ds.all D.flat = true → IsL E H F ι ds xs → xs.all flatV = true
  | [], _, _, h => by rw [IsL.nil h]; rfl
  | a :: l, _, p, ⟨x, r, e, h1, h2⟩ => by
    subst e
    rw [List.all_cons, Bool.and_eq_true] at p
    rw [List.all_cons, h1.flat p.1, IsL.flat p.2 h2]
    rfl
theorem IsL.flat_in {d : D} {x : V} (q : d.flat = true) (k : Is E H F ι d x) : ∀ {ds : List D} {xs : List V}, ds.all D.flat = true → IsL E H F ι ds xs → inV x xs = inD d ds
  | [], _, _, h => by rw [IsL.nil h]; rfl
  | a :: l, _, p, ⟨y, r, e, h1, h2⟩ => by
    subst e
    rw [List.all_cons, Bool.and_eq_true] at p
    have ih := IsL.flat_in q k p.2 h2
    show (L2.eqV y x || inV x r) = (D.eqv a d || inD d l)
    rw [ih, h1.flat_eq p.1 q k]
theorem Pk.is_flat {d : D} {v : V} (p : d.flat = true) (h : Pk E H F ι d v) : Is E H F ι d v := by
  cases d <;> first | (cases p; done) | exact h
theorem scal2_flat {a b : D} (h : D.scal2 a b = true) : a.flat = true ∧ b.flat = true := by
  cases a <;> cases b <;> first | (cases h; done) | exact ⟨rfl, rfl⟩
theorem scal_of {a b : D} {x y : V} (h : D.scal2 a b = true) (p : Is E H F ι a x) (q : Is E H F ι b y) : L2.scal x y = true ∧ decide (x = y) = D.eqv a b := by
  cases a <;> cases b <;> first
    | (cases h; done)
    | (cases p; cases q; exact ⟨rfl, by simp [D.eqv, Bool.beq_eq_decide_eq]; done⟩)
theorem Is.isNon {d : D} {v : V} (h : Is E H F ι d v) : decide (v = .non) = d.isNon := by
  cases d with
  | non => cases h; rfl
  | bl b => cases h; rfl
  | int b => cases h; rfl
  | str b => cases h; rfl
  | tup l => obtain ⟨a, xs, e, _⟩ := h; subst e; rfl
  | lst l => obtain ⟨a, xs, e, _⟩ := h; subst e; rfl
  | dic l m => obtain ⟨a, xs, e, _⟩ := h; subst e; rfl
  | kon l m => obtain ⟨a, xs, e, _⟩ := h; subst e; rfl
  | ins l m n => obtain ⟨a, C, dx, xs, e, _⟩ := h; subst e; rfl
  | exn l m n => obtain ⟨a, C, dx, e, _⟩ := h; subst e; rfl
  | ref n => obtain ⟨a, _, e⟩ := h; subst e; rfl
  | loc n => exact h.elim
theorem Pk.isNon {d : D} {v : V} (h : Pk E H F ι d v) : decide (v = .non) = d.isNon := by
  cases d with
  | lst l => obtain ⟨a, xs, e, _⟩ := h; subst e; rfl
  | dic l m => obtain ⟨a, xs, e, _⟩ := h; subst e; rfl
  | ins l m n => obtain ⟨a, C, dx, xs, e, _⟩ := h; subst e; rfl
  | _ => exact Is.isNon (F := F) (ι := ι) (E := E) (H := H) h
theorem inD_py : ∀ {ds : List D} {d : D}, D.pureL ds = true → d.pure = true → ((D.pyL ds).any fun z => PyData.eqv z d.py) = inD d ds
  | [], _, _, _ => rfl
  | a :: l, d, p, q => by
    have p : (D.pure a && D.pureL l) = true := p
    rw [Bool.and_eq_true] at p
    show (PyData.eqv a.py d.py || (D.pyL l).any fun z => PyData.eqv z d.py) = (D.eqv a d || inD d l)
    rw [D.py_eqv p.1 q, inD_py p.2 q]
theorem D.ok_pure {d : D} (h : d.ok = true) : d.pure = true := by
  unfold D.ok at h
  rw [Bool.and_eq_true] at h
  exact h.1
/-- a dict's keys -/
theorem fk_key {d : D} {v : V} (p : d.fk = true) (h : Pk E H F ι d v) : ∃ k : Key, d = keyD k ∧ v = kV k := by
  cases d <;> first | (cases p; done) | skip
  · cases h; exact ⟨.inl _, rfl, rfl⟩
  · cases h; exact ⟨.inr _, rfl, rfl⟩
theorem keyD_eqv (k l : Key) : D.eqv (keyD k) (keyD l) = decide (k = l) := by
  cases k <;> cases l
  · rename_i a b
    show (a == b) = _
    by_cases e : a = b
    · subst e; simp
    · rw [decide_eq_false (fun q => e (Sum.inl.inj q))]
      simp [e]
  · rfl
  · rfl
  · rename_i a b
    show decide (a = b) = _
    by_cases e : a = b
    · subst e; simp
    · rw [decide_eq_false (fun q => e (Sum.inr.inj q))]
      simp [e]
theorem has_key (kvs : List (Key × V)) (k : Key) : hasKey (kvs.map fun p => keyD p.1) (keyD k) = (valV kvs k).isSome := by
  rw [← valV_any]
  unfold hasKey
  rw [List.any_map]
  congr 1
  funext p
  exact keyD_eqv p.1 k
theorem look_key : ∀ {kvs : List (Key × V)} {vs : List D} {k : Key} {d : D}, IsL E H F ι vs (kvs.map (·.2)) → look (kvs.map fun p => keyD p.1) vs (keyD k) = some d → ∃ v, valV kvs k = some v ∧ Is E H F ι d v
  | [], vs, k, d, h, e => by cases vs <;> cases e
  | p :: r, [], k, d, h, e => by cases e
  | p :: r, w :: vs, k, d, ⟨x, q, ex, h1, h2⟩, e => by
    obtain ⟨e1, e2⟩ : p.2 = x ∧ r.map (·.2) = q := by
      have := List.cons.inj ex
      exact this
    subst e1 e2
    have e : (if D.eqv (keyD p.1) (keyD k) = true then some w else look (r.map fun p => keyD p.1) vs (keyD k)) = some d := e
    rw [keyD_eqv] at e
    by_cases c : p.1 = k
    · rw [decide_eq_true c, if_pos rfl] at e
      cases e
      exact ⟨p.2, valV_pos c, h1⟩
    · rw [decide_eq_false c, if_neg Bool.false_ne_true] at e
      obtain ⟨v, a1, a2⟩ := look_key h2 e
      exact ⟨v, by rw [valV_neg c]; exact a1, a2⟩
theorem look_none : ∀ {kvs : List (Key × V)} {vs : List D} {k : Key}, IsL E H F ι vs (kvs.map (·.2)) → look (kvs.map fun p => keyD p.1) vs (keyD k) = none → valV kvs k = none
  | [], vs, k, h, e => rfl
  | p :: r, [], k, h, e => by
    have := h.length
    simp at this
  | p :: r, w :: vs, k, ⟨x, q, ex, h1, h2⟩, e => by
    obtain ⟨e1, e2⟩ : p.2 = x ∧ r.map (·.2) = q := by
      have := List.cons.inj ex
      exact this
    subst e1 e2
    have e : (if D.eqv (keyD p.1) (keyD k) = true then some w else look (r.map fun p => keyD p.1) vs (keyD k)) = none := e
    rw [keyD_eqv] at e
    by_cases c : p.1 = k
    · rw [decide_eq_true c, if_pos rfl] at e
      cases e
    · rw [decide_eq_false c, if_neg Bool.false_ne_true] at e
      rw [valV_neg c]
      exact look_none h2 e
theorem put_vals : ∀ {kvs : List (Key × V)} {vs : List D} {k : Key} {d : D} {v : V}, IsL E H F ι vs (kvs.map (·.2)) → Is E H F ι d v →
    IsL E H F ι (putVals (kvs.map fun p => keyD p.1) vs (keyD k) d) ((kvs.map fun kv => if kv.1 = k then (kv.1, v) else kv).map (·.2))
  | [], vs, k, d, v, h, hd => by
    cases vs <;> exact rfl
  | p :: r, [], k, d, v, h, hd => by
    have := h.length
    simp at this
  | p :: r, w :: vs, k, d, v, ⟨x, q, ex, h1, h2⟩, hd => by
    obtain ⟨e1, e2⟩ : p.2 = x ∧ r.map (·.2) = q := by
      have := List.cons.inj ex
      exact this
    subst e1 e2
    refine ⟨_, _, rfl, ?_, put_vals h2 hd⟩
    show Is E H F ι (if D.eqv (keyD p.1) (keyD k) = true then d else w) (if p.1 = k then (p.1, v) else p).2
    rw [keyD_eqv]
    by_cases c : p.1 = k
    · rw [decide_eq_true c, if_pos rfl, if_pos c]
      exact hd
    · rw [decide_eq_false c, if_neg Bool.false_ne_true, if_neg c]
      exact h1
theorem put_key {kvs : List (Key × V)} {vs : List D} {k : Key} {d : D} {v : V} (h : IsL E H F ι vs (kvs.map (·.2))) (hd : Is E H F ι d v) :
    (putKey (kvs.map fun p => keyD p.1) vs (keyD k) d).1 = (putK kvs k v).map (fun p => keyD p.1) ∧ IsL E H F ι (putKey (kvs.map fun p => keyD p.1) vs (keyD k) d).2 ((putK kvs k v).map (·.2)) := by
  unfold putKey putK
  rw [has_key, ← valV_any]
  by_cases c : (kvs.any fun kv => decide (kv.1 = k)) = true
  · rw [if_pos c, if_pos c]
    refine ⟨?_, put_vals h hd⟩
    rw [List.map_map]
    apply List.map_congr_left
    intro p hp
    show keyD p.1 = keyD (if p.1 = k then (p.1, v) else p).1
    split <;> rfl
  · rw [if_neg c, if_neg c, List.map_append, List.map_append]
    exact ⟨rfl, h.append (.one hd)⟩
end

/-- what the context gives -/
def tyNames : List String := ["NoneType", "bool", "int", "str", "tuple", "list", "dict"]
/-- a class that is asked for: how it is named, what is of it -/
structure XtOk (E : Env) (K : PySem.W.Frag) (mg : Str → Option Value) (x : Str) (u : Value) : Prop where
  cv : ∃ cv : V, ClsV cv u ∧ RelV cv u
  nm : mg x = some u ∨ (mg x = none ∧ bootBuiltins x = some u ∧ x ≠ "__name__")
  db : (x == ("__debug__" : Str)) = false
  exc : ∀ cs D, E.xc cs = some D → PySem.W.kitOne K (.ref D) u = some (cs.contains x) ∧ PySem.W.exmOne K (.ref D) u = some (cs.contains x)
  val : ∀ a ∈ tyNames, PySem.W.kitOne K (.type a) u = some false
structure EnvOk (E : Env) (X : Cx) : Prop where
  K : E.K = X.K
  kd : ∀ a kvs, E.kd a kvs → (∃ es n, KDict X.K X.w a es n) ∧ ∀ z : Str, ∃ r, PySem.W.nsIn X.K a z = some r ∧ RelO (valV kvs (.inr z)) r
  xc : ∀ cs C, E.xc cs = some C → ExcC X.K C
  xt : ∀ x u, E.xt x = some u → XtOk E X.K X.mg x u
theorem relO_some {o : Option V} {r : Option Value} (h : RelO o r) : o.isSome = r.isSome := by
  cases o <;> cases r <;> first | rfl | exact h.elim
section
variable {X : Cx} {E : Env}
def rCmp (E : Env) (o : COp) : R2 := fun x y H Q => ∃ Fo Tm ι ω σ st dx dy b, Rel E Fo Tm ι ω σ H st ∧ Pk E H (FF Fo Tm ι ω) ι dx x ∧ Pk E H (FF Fo Tm ι ω) ι dy y ∧ cmpop o dx dy = some b ∧ Q (.bl b) H
theorem isStr_str {d : D} (h : d.isStr = true) : ∃ z, d = .str z := by
  cases d <;> first | (cases h; done) | exact ⟨_, rfl⟩
theorem in_any (ok : EnvOk E X) (hu : X.A.units + 65 < cLine) {F : Addr → Prop} {H : Hp} {ι : List Addr} {dx dy : D} {x y : V} {b : Bool} {Q : VK} (px : Pk E H F ι dx x) (py : Pk E H F ι dy y) (e : inOp dx dy = some b) :
    (Q (.bl b) H → ∃ r, OpR X (compareOp .In) r ∧ r x y H Q) ∧ (Q (.bl (!b)) H → ∃ r, OpR X (compareOp .NotIn) r ∧ r x y H Q) := by
  unfold inOp at e
  split at e
  · rename_i l
    obtain ⟨p, xs, rfl, r1, l1⟩ := py
    split at e <;> cases e
    rename_i c
    rw [Bool.or_eq_true, Bool.and_eq_true, Bool.and_eq_true] at c
    rcases c with c | c
    · have hx := px.is_flat c.1
      refine ⟨fun q => ⟨_, op_in_seq, p, xs, rfl, .inl (.inl r1), hx.flat c.1, l1.flat c.2, ?_⟩, fun q => ⟨_, op_notIn_seq, p, xs, rfl, .inl (.inl r1), hx.flat c.1, l1.flat c.2, ?_⟩⟩
      · show Q (.bl (inV x xs)) H
        rw [IsL.flat_in c.1 hx c.2 l1]; exact q
      · show Q (.bl (!inV x xs)) H
        rw [IsL.flat_in c.1 hx c.2 l1]; exact q
    · have p1 := D.ok_pure c.1
      have p2 : D.pureL l = true := D.ok_pure c.2
      have dx' : Dp X.K H x dx.py := ok.K ▸ px.dp p1
      have dy' : Dp X.K H (.ref p) (.list (D.pyL l)) := ok.K ▸ Pk.dp (F := F) (ι := ι) (d := .lst l) p2 ⟨p, xs, rfl, r1, l1⟩
      refine ⟨fun q => ⟨_, op_inD hu, dx.py, D.pyL l, dx', dy', D.shaped c.1, D.shaped c.2, ?_⟩, fun q => ⟨_, op_notInD hu, dx.py, D.pyL l, dx', dy', D.shaped c.1, D.shaped c.2, ?_⟩⟩
      · rw [inD_py p2 p1]; exact q
      · rw [inD_py p2 p1]; exact q
  · rename_i l
    obtain ⟨p, xs, rfl, r1, l1⟩ := py
    split at e <;> cases e
    rename_i c
    rw [Bool.or_eq_true, Bool.and_eq_true, Bool.and_eq_true] at c
    have r1' : SqT X.K H p xs := ok.K ▸ r1
    rcases c with c | c
    · have hx := px.is_flat c.1
      refine ⟨fun q => ⟨_, op_in_seq, p, xs, rfl, .inr r1', hx.flat c.1, l1.flat c.2, ?_⟩, fun q => ⟨_, op_notIn_seq, p, xs, rfl, .inr r1', hx.flat c.1, l1.flat c.2, ?_⟩⟩
      · show Q (.bl (inV x xs)) H
        rw [IsL.flat_in c.1 hx c.2 l1]; exact q
      · show Q (.bl (!inV x xs)) H
        rw [IsL.flat_in c.1 hx c.2 l1]; exact q
    · have p1 := D.ok_pure c.1
      have p2 : D.pureL l = true := D.ok_pure c.2
      have dx' : Dp X.K H x dx.py := ok.K ▸ px.dp p1
      have dy' : Dp X.K H (.ref p) (.tuple (D.pyL l)) := ok.K ▸ Pk.dp (F := F) (ι := ι) (d := .tup l) p2 ⟨p, xs, rfl, r1, l1⟩
      refine ⟨fun q => ⟨_, op_inDT hu, dx.py, D.pyL l, dx', dy', D.shaped c.1, D.shaped c.2, ?_⟩, fun q => ⟨_, op_notInDT hu, dx.py, D.pyL l, dx', dy', D.shaped c.1, D.shaped c.2, ?_⟩⟩
      · rw [inD_py p2 p1]; exact q
      · rw [inD_py p2 p1]; exact q
  · rename_i ks vs
    obtain ⟨a, kvs, rfl, r1, rfl, l1⟩ := py
    split at e <;> cases e
    rename_i c
    obtain ⟨k, rfl, rfl⟩ := fk_key c px
    rw [has_key]
    exact ⟨fun q => ⟨_, op_inDic (by omega), a, _, rfl, DGet.k r1, q⟩, fun q => ⟨_, op_notInDic (by omega), a, _, rfl, DGet.k r1, q⟩⟩
  · rename_i ks vs
    obtain ⟨a, kvs, rfl, r1, rfl, l1⟩ := py
    split at e <;> cases e
    rename_i c
    obtain ⟨z, rfl⟩ := isStr_str c
    cases px
    have hk' : hasKey (kvs.map fun p => keyD p.1) (D.str z) = _ := has_key kvs (.inr z)
    rw [hk']
    obtain ⟨⟨es, n, kd⟩, hk⟩ := ok.kd a kvs r1
    obtain ⟨r, e1, e2⟩ := hk z
    exact ⟨fun q => ⟨_, op_in_kd kd, z, r, rfl, rfl, e1, by rw [← relO_some e2]; exact q⟩, fun q => ⟨_, op_notIn_kd kd, z, r, rfl, rfl, e1, by rw [← relO_some e2]; exact q⟩⟩
  · cases py
    split at e <;> cases e
    cases px
    exact ⟨fun q => ⟨_, op_in_str, _, _, rfl, rfl, q⟩, fun q => ⟨_, op_notin_str, _, _, rfl, rfl, q⟩⟩
  · cases e
theorem eq_any (ok : EnvOk E X) (hu : X.A.units + 65 < cLine) {F : Addr → Prop} {H : Hp} {ι : List Addr} {dx dy : D} {x y : V} {Q : VK} (px : Pk E H F ι dx x) (py : Pk E H F ι dy y) (e : eqOk dx dy = true) :
    (Q (.bl (D.eqv dx dy)) H → ∃ r, OpR X (compareOp .Eq) r ∧ r x y H Q) ∧ (Q (.bl (!D.eqv dx dy)) H → ∃ r, OpR X (compareOp .NotEq) r ∧ r x y H Q) := by
  unfold eqOk at e
  rw [Bool.or_eq_true, Bool.and_eq_true] at e
  rcases e with e | e
  · have f := scal2_flat e
    obtain ⟨s1, s2⟩ := scal_of e (px.is_flat f.1) (py.is_flat f.2)
    exact ⟨fun q => ⟨_, op_eq, s1, by rw [s2]; exact q⟩, fun q => ⟨_, op_ne, s1, by rw [s2]; exact q⟩⟩
  · have p1 := D.ok_pure e.1
    have p2 := D.ok_pure e.2
    have dx' : Dp X.K H x dx.py := ok.K ▸ px.dp p1
    have dy' : Dp X.K H y dy.py := ok.K ▸ py.dp p2
    exact ⟨fun q => ⟨_, op_eqD (by omega), _, _, dx', dy', D.shaped e.1, D.shaped e.2, by rw [D.py_eqv p1 p2]; exact q⟩, fun q => ⟨_, op_neD (by omega), _, _, dx', dy', D.shaped e.1, D.shaped e.2, by rw [D.py_eqv p1 p2]; exact q⟩⟩
theorem cmp_ok (ok : EnvOk E X) (hu : X.A.units + 65 < cLine) (o : COp) : OpR X (compareOp (copP o)) (rCmp E o) := OpR.any fun x y H Q ⟨Fo, Tm, ι, ω, σ, st, dx, dy, b, R, px, py, e, q⟩ => by
  cases o with
  | eq =>
    have e : (if eqOk dx dy = true then some (D.eqv dx dy) else none) = some b := e
    split at e <;> cases e
    rename_i c
    exact (eq_any ok hu px py c).1 q
  | ne =>
    have e : (if eqOk dx dy = true then some (!D.eqv dx dy) else none) = some b := e
    split at e <;> cases e
    rename_i c
    exact (eq_any ok hu px py c).2 q
  | lt =>
    have e : ltOp dx dy = some b := e
    unfold ltOp at e
    split at e
    · cases px; cases py; cases e
      exact ⟨_, op_lt, _, _, rfl, rfl, q⟩
    · cases px; cases py; cases e
      exact ⟨_, op_lt_str, _, _, rfl, rfl, q⟩
    · cases e
  | le =>
    have e : ordOp _ dx dy = some b := e
    unfold ordOp at e
    split at e
    · cases px; cases py; cases e
      exact ⟨_, op_le, _, _, rfl, rfl, q⟩
    · cases e
  | gt =>
    have e : ordOp _ dx dy = some b := e
    unfold ordOp at e
    split at e
    · cases px; cases py; cases e
      exact ⟨_, op_gt, _, _, rfl, rfl, q⟩
    · cases e
  | ge =>
    have e : ordOp _ dx dy = some b := e
    unfold ordOp at e
    split at e
    · cases px; cases py; cases e
      exact ⟨_, op_ge, _, _, rfl, rfl, q⟩
    · cases e
  | isin => exact (in_any ok hu px py e).1 q
  | notin =>
    have e : (inOp dx dy).map (!·) = some b := e
    obtain ⟨c, e1, e2⟩ := Option.map_eq_some_iff.mp e
    subst e2
    exact (in_any ok hu px py e1).2 q
  | is =>
    have e : isD dx dy = some b := e
    unfold isD at e
    split at e
    · cases py; cases e
      exact ⟨_, op_isN, rfl, by rw [px.isNon]; exact q⟩
    · cases px; cases py; cases e
      exact ⟨_, op_is_bl, _, _, rfl, rfl, by rw [← Bool.beq_eq_decide_eq]; exact q⟩
    · cases e
  | isnot =>
    have e : (isD dx dy).map (!·) = some b := e
    obtain ⟨c, e1, e2⟩ := Option.map_eq_some_iff.mp e
    subst e2
    unfold isD at e1
    split at e1
    · cases py; cases e1
      exact ⟨_, op_notN, rfl, by rw [px.isNon]; exact q⟩
    · cases px; cases py; cases e1
      exact ⟨_, op_isnot_bl, _, _, rfl, rfl, by rw [← Bool.beq_eq_decide_eq]; exact q⟩
    · cases e1
end
end EV

set_option autoImplicit false
set_option linter.all false
set_option maxRecDepth 10000
namespace EV
open PySem L2

theorem orP_no2 {T : Addr → Prop} : orP noP T = T := orP_no
theorem orP_no' {T : Addr → Prop} : orP T noP = T := by
  funext a
  simp [orP, noP]
/-- what is wanted of a value, of a test -/
def GE (E : Env) (Fo Tm : Addr → Prop) (σ : St) (Q : VK) : Hd → (Addr → Prop) → List Addr → List (Option Addr) → St → Hp → W → Prop :=
  fun h T ι' ω' _ H' _ => ∀ v, Hk E H' (FF Fo (orP T Tm) ι' ω') ι' σ T h v → Q v H'
def GT (Q : Bool → Hp → Prop) : Bool → (Addr → Prop) → List Addr → List (Option Addr) → St → Hp → W → Prop := fun b _ _ _ _ H' _ => Q b H'
def tE (C : Cfg) (E : Env) (Wx : WX) (te : TE) : L2.TE := fun σ H Q => ∃ Fo Tm ι ω st, Rel E Fo Tm ι ω σ H st ∧ Fut E Wx (· = σ) Fo Tm ι ω σ H st (evE C te st) (GE E Fo Tm σ Q)
def tT (C : Cfg) (E : Env) (Wx : WX) (te : TE) : L2.TT := fun σ H Q => ∃ Fo Tm ι ω st, Rel E Fo Tm ι ω σ H st ∧ Fut E Wx (· = σ) Fo Tm ι ω σ H st (evT C te st) (GT Q)
theorem _root_.L2.PE.imp {X : Cx} {e : Expr} {t t' : L2.TE} (h : PE X e t) (k : ∀ σ H Q, t' σ H Q → t σ H Q) : PE X e t' := ⟨fun pins s σ H Q I q => h.run pins s σ H Q I (k σ H Q q)⟩
theorem _root_.L2.PT.imp {X : Cx} {e : Expr} {t t' : L2.TT} (h : PT X e t) (k : ∀ σ H Q, t' σ H Q → t σ H Q) : PT X e t' := ⟨fun pins s σ H Q I q => h.run pins s σ H Q I (k σ H Q q)⟩
theorem _root_.L2.PW.imp {X : Cx} {e : Expr} {t t' : L2.TT} (h : PW X e t) (k : ∀ σ H Q, t' σ H Q → t σ H Q) : PW X e t' := ⟨fun wh pins s σ H Q I q => h.run wh pins s σ H Q I (k σ H Q q)⟩

section
variable {E : Env} {Wx : WX} {Sg : St → Prop} {Fo Tm T T1 T2 : Addr → Prop} {ι ι1 ι2 : List Addr} {ω ω1 ω2 : List (Option Addr)} {σ0 σ : St} {H H1 H2 : Hp} {st st1 st2 : W} {α : Type} {C : Cfg} {te : TE} {Q : VK}
  {G : α → (Addr → Prop) → List Addr → List (Option Addr) → St → Hp → W → Prop}

theorem Go.rel0 (g : Go E Fo Tm ι ω σ0 H st T ι1 ω1 σ H1 st1) : Rel E Fo Tm ι1 ω1 σ H1 st1 := g.rel.less fun _ z => .inr z
theorem Go.kp0 (g : Go E Fo Tm ι ω σ0 H st T ι1 ω1 σ H1 st1) : Kp E H (FF Fo Tm ι ω) ι H1 (FF Fo Tm ι1 ω1) ι1 := g.kp.trans (Kp.less fun a z => FF.less (fun _ z => .inr z) z)
/-- told from a later state, values on the way dropped -/
theorem Fut.step0 {r : Res W α} (g : Go E Fo Tm ι ω σ0 H st T ι1 ω1 σ H1 st1) (h : Fut E Wx Sg Fo Tm ι ω σ0 H st r G) : Fut E Wx Sg Fo Tm ι1 ω1 σ H1 st1 r G := by
  have h' := h.step g.drop
  rw [orP_no] at h'
  simp only [orP_no'] at h'
  exact h'
theorem nextE {f : Hd → M α} {Q' : VK} (g : Go E Fo Tm ι ω σ0 H st T ι1 ω1 σ H1 st1) (hh : Fut E Wx Sg Fo Tm ι ω σ0 H st ((evE C te >>= f) st1) G) (hS : Sg σ)
    (k : ∀ h v T2 ι2 ω2 H2 st2, Go E Fo (orP T Tm) ι1 ω1 σ H1 st1 T2 ι2 ω2 σ H2 st2 → Go E Fo Tm ι ω σ0 H st (orP T2 T) ι2 ω2 σ H2 st2 → Hk E H2 (FF Fo (orP T2 (orP T Tm)) ι2 ω2) ι2 σ T2 h v → Fut E Wx Sg Fo Tm ι ω σ0 H st (f h st2) G → Q' v H2) :
    tE C E Wx te σ H1 Q' := by
  refine ⟨Fo, orP T Tm, ι1, ω1, st1, g.rel, ((hh.bind0 (Sg' := (· = σ)) fun s e => e ▸ hS).step g).mono ?_⟩
  intro h T2 ι2 ω2 σ2 H2 st2 e g2 hf v q
  subst e
  exact k h v T2 ι2 ω2 H2 st2 g2 (g.trans g2) q hf
theorem nextT {f : Bool → M α} {Q' : Bool → Hp → Prop} (g : Go E Fo Tm ι ω σ0 H st T ι1 ω1 σ H1 st1) (hh : Fut E Wx Sg Fo Tm ι ω σ0 H st ((evT C te >>= f) st1) G) (hS : Sg σ)
    (k : ∀ b T2 ι2 ω2 H2 st2, Go E Fo (orP T Tm) ι1 ω1 σ H1 st1 T2 ι2 ω2 σ H2 st2 → Go E Fo Tm ι ω σ0 H st (orP T2 T) ι2 ω2 σ H2 st2 → Fut E Wx Sg Fo Tm ι ω σ0 H st (f b st2) G → Q' b H2) :
    tT C E Wx te σ H1 Q' := by
  refine ⟨Fo, orP T Tm, ι1, ω1, st1, g.rel, ((hh.bind0 (Sg' := (· = σ)) fun s e => e ▸ hS).step g).mono ?_⟩
  intro h T2 ι2 ω2 σ2 H2 st2 e g2 hf
  subst e
  exact k h T2 ι2 ω2 H2 st2 g2 (g.trans g2) hf
theorem lastE (g : Go E Fo Tm ι ω σ0 H st T ι1 ω1 σ H1 st1) (hh : Fut E Wx (· = σ) Fo Tm ι ω σ0 H st (evE C te st1) (GE E Fo Tm σ Q)) : tE C E Wx te σ H1 Q :=
  ⟨Fo, Tm, ι1, ω1, st1, g.rel0, hh.step0 g⟩
theorem lastT {Q : Bool → Hp → Prop} (g : Go E Fo Tm ι ω σ0 H st T ι1 ω1 σ H1 st1) (hh : Fut E Wx (· = σ) Fo Tm ι ω σ0 H st (evT C te st1) (GT Q)) : tT C E Wx te σ H1 Q :=
  ⟨Fo, Tm, ι1, ω1, st1, g.rel0, hh.step0 g⟩
theorem Fut.peek {h : Hd} {v : V} {f : D → M α} (R : Rel E Fo T ι1 ω1 σ H1 st1) (q : Hk E H1 (FF Fo T ι1 ω1) ι1 σ T1 h v) (hh : Fut E Wx Sg Fo Tm ι ω σ0 H st ((peek h >>= f) st1) G) :
    ∃ d, Pk E H1 (FF Fo T ι1 ω1) ι1 d v ∧ Fut E Wx Sg Fo Tm ι ω σ0 H st (f d st1) G := by
  obtain ⟨d, s', e, hf⟩ := hh.op (peek_nx h st1)
  obtain ⟨e1, p⟩ := peek_ok R q e
  subst e1
  exact ⟨d, p, hf⟩
/-- the answer of an op on values -/
theorem Fut.ans {o : Option Hd} (g : Go E Fo Tm ι ω σ0 H st T ι1 ω1 σ H1 st1) (hh : Fut E Wx (· = σ) Fo Tm ι ω σ0 H st (liftO o st1) (GE E Fo Tm σ Q)) : ∃ h, o = some h ∧ Ans E Fo Tm ι1 ω1 σ H1 st1 h Q := by
  obtain ⟨h, e, hf⟩ := hh.lift1
  refine ⟨h, e, fun T' ι' ω' H' v g' q => ?_⟩
  have hf' := hf.step0 g
  exact hf'.pure_use rfl g' v q
/-- the first term -/
theorem nextE1 {f : Hd → M α} {Q' : VK} (R : Rel E Fo Tm ι ω σ H st) (hh : Fut E Wx Sg Fo Tm ι ω σ H st ((evE C te >>= f) st) G) (hS : Sg σ)
    (k : ∀ h v T2 ι2 ω2 H2 st2, Go E Fo Tm ι ω σ H st T2 ι2 ω2 σ H2 st2 → Hk E H2 (FF Fo (orP T2 Tm) ι2 ω2) ι2 σ T2 h v → Fut E Wx Sg Fo Tm ι ω σ H st (f h st2) G → Q' v H2) :
    tE C E Wx te σ H Q' := by
  refine nextE (Go.refl R) hh hS fun h v T2 ι2 ω2 H2 st2 _ g2 q hf => ?_
  rw [orP_no'] at g2
  rw [orP_no] at q
  exact k h v T2 ι2 ω2 H2 st2 g2 q hf
theorem nextT1 {f : Bool → M α} {Q' : Bool → Hp → Prop} (R : Rel E Fo Tm ι ω σ H st) (hh : Fut E Wx Sg Fo Tm ι ω σ H st ((evT C te >>= f) st) G) (hS : Sg σ)
    (k : ∀ b T2 ι2 ω2 H2 st2, Go E Fo Tm ι ω σ H st T2 ι2 ω2 σ H2 st2 → Fut E Wx Sg Fo Tm ι ω σ H st (f b st2) G → Q' b H2) :
    tT C E Wx te σ H Q' := by
  refine nextT (Go.refl R) hh hS fun h T2 ι2 ω2 H2 st2 _ g2 hf => ?_
  rw [orP_no'] at g2
  exact k h T2 ι2 ω2 H2 st2 g2 hf
/-- two terms, one after another -/
theorem next2E {te' : TE} {f : Hd → Hd → M α} {P : V → V → Hp → Prop} (R : Rel E Fo Tm ι ω σ H st) (hh : Fut E Wx Sg Fo Tm ι ω σ H st ((evE C te >>= fun h => evE C te' >>= fun k => f h k) st) G) (hS : Sg σ)
    (k : ∀ h x h' y T2 T3 ι3 ω3 H3 st3, Go E Fo Tm ι ω σ H st (orP T3 T2) ι3 ω3 σ H3 st3 → Hk E H3 (FF Fo (orP T3 (orP T2 Tm)) ι3 ω3) ι3 σ T2 h x → Hk E H3 (FF Fo (orP T3 (orP T2 Tm)) ι3 ω3) ι3 σ T3 h' y →
      Rel E Fo (orP T3 (orP T2 Tm)) ι3 ω3 σ H3 st3 → Fut E Wx Sg Fo Tm ι ω σ H st (f h h' st3) G → P x y H3) :
    tE C E Wx te σ H fun x H1 => tE C E Wx te' σ H1 fun y H2 => P x y H2 := by
  refine nextE1 R hh hS fun h v T2 ι2 ω2 H2 st2 g2 q2 hh => ?_
  refine nextE g2 hh hS fun h' v' T3 ι3 ω3 H3 st3 g3' g3 q3 hh => ?_
  exact k h v h' v' T2 T3 ι3 ω3 H3 st3 g3 (q2.keep g3'.kp fun a z => g3'.same a (.inr (.inl z))) q3 g3'.rel hh
theorem Pk.dr {d : D} {v : V} (p : Pk E H (FF Fo (orP T T1) ι ω) ι d v) : Pk E H (FF Fo T1 ι ω) ι d v := p.less fun a z => FF.less (fun _ z => .inr z) z
theorem Ans.bl {b : Bool} (a : Ans E Fo Tm ι ω σ H st (.bl b, false) Q) (R : Rel E Fo Tm ι ω σ H st) : Q (.bl b) H := a.val R rfl (.inl rfl)
theorem Fut.pans {h : Hd} (g : Go E Fo Tm ι ω σ0 H st T ι1 ω1 σ H1 st1) (hh : Fut E Wx (· = σ) Fo Tm ι ω σ0 H st ((M.pure h : M Hd) st1) (GE E Fo Tm σ Q)) : Ans E Fo Tm ι1 ω1 σ H1 st1 h Q := by
  intro T' ι' ω' H' v g' q
  exact (hh.step0 g).pure_use rfl g' v q
end

/-! ### the context of a piece of code -/
def okName (x : Str) : Bool := !(x == ("__debug__" : Str)) && !(x == ("__classdict__" : Str))
/-- the built-ins that the code may call -/
def bltNames : List Str := ["len", "list", "tuple", "int", "str", "repr", "sum", "all", "any", "max", "min", "sorted", "dict", "isinstance", "range", "enumerate", "zip", "reversed", "set", "bool"]
structure Good (X : Cx) (C : Cfg) (E : Env) (Wx : WX) (c : SC) : Prop where
  env : EnvOk E X
  N : X.N = c.N
  nd : c.N.Nodup
  sc : X.env.scope = c.sc
  calm : X.calm = true
  hu : X.A.units + 65 < cLine
  hp : PassesOwn (model X.prog X.w) X.A X.env X.xe
  fn : ∀ x, locC c.st x = true → L2.Loc X.env.scope x ∧ (X.fn x = true ∨ X.env.scope.names.lookup x = some .local)
  glob : ∀ x d, C.G x = some d → ∃ v u, X.mg x = some u ∧ RelV v u ∧ ∀ H F ι, Is E H F ι d v
  blt : ∀ x, x ∈ bltNames → c.fns.contains x = false → c.clss.contains x = false → X.mg x = none
  xty : ∀ x, c.xty.contains x = true → ∃ u, E.xt x = some u

section
variable {X : Cx} {C : Cfg} {E : Env} {Wx : WX} {c : SC} {a b e1 e2 : Expr} {ta tb tc : TE} {pos : Pos}
theorem visC_vis {sc : Scope} {x : Str} (h : visC sc x = true) : Vis sc x := by
  unfold visC at h
  unfold Vis
  split at h
  · rename_i e; exact .inl e
  · rename_i e; exact .inr (.inl e)
  · rename_i e; exact .inr (.inr e)
  · cases h
theorem locC_loc {sc : Scope} {x : Str} (h : locC sc x = true) : L2.Loc sc x := by
  unfold locC at h
  unfold L2.Loc
  split at h
  · rename_i e; exact .inl e
  · rename_i e; exact .inr e
  · cases h
theorem globC_gl {x : Str} (g : Good X C E Wx c) (h : globC c.sc x = true) : Gl X x := by
  unfold globC at h
  unfold Gl Env.kindOf
  rw [g.sc]
  split at h
  · assumption
  · cases h
theorem findIdx_get {N : List Str} {x : Str} {i : Nat} (h : N.findIdx? (· == x) = some i) : N[i]? = some x := by
  obtain ⟨hi, e, _⟩ := List.findIdx?_eq_some_iff_getElem.mp h
  rw [List.getElem?_eq_getElem hi]
  simpa using e
theorem s_con (d : Const) {k : Nat} {D' : D} (e : constD d = some D') : PE X (.Constant d k pos) (tE C E Wx (.con D')) := by
  have one : ∀ {v : V} {t : L2.TE}, PE X (.Constant d k pos) (tC v) → (∀ H F ι, Is E H F ι D' v) → (D'.mutable = false) → PE X (.Constant d k pos) (tE C E Wx (.con D')) := fun {v t} h is m => h.imp fun σ H Q ⟨Fo, Tm, ι, ω, st, R, hh⟩ => by
    have a := Fut.pans (Go.refl R) hh
    exact a.val R (is _ _ _) (.inl rfl)
  cases d <;> first | (cases e; done) | skip
  · cases e; exact one (t := tC .non) pe_non (fun _ _ _ => rfl) rfl
  · cases e; exact one (t := tC .non) pe_bl (fun _ _ _ => rfl) rfl
  · cases e; exact one (t := tC .non) pe_int (fun _ _ _ => rfl) rfl
  · cases e; exact one (t := tC .non) pe_str (fun _ _ _ => rfl) rfl
theorem s_slot (g : Good X C E Wx c) {x : Str} {i : Nat} (hv : visC c.sc x = true) (hi : c.N.findIdx? (· == x) = some i) (hx : okName x = true) : PE X (.Name x pos) (tE C E Wx (.slot i)) := by
  unfold okName at hx
  simp only [Bool.and_eq_true, Bool.not_eq_true'] at hx
  refine (pe_var (i := i) (by rw [g.N]; exact findIdx_get hi) (by rw [g.sc]; exact visC_vis hv) hx.1 hx.2).imp fun σ H Q ⟨Fo, Tm, ι, ω, st, R, hh⟩ => ?_
  have hh : Fut E Wx (· = σ) Fo Tm ι ω σ H st (slotH i st) (GE E Fo Tm σ Q) := hh
  unfold slotH at hh
  split at hh
  · rename_i d e
    obtain ⟨_, v, e2, is⟩ := R.slots i _ e
    refine ⟨v, e2, ?_⟩
    exact (Fut.pans (Go.refl R) hh).val R is (.inl rfl)
  · rename_i d o no e
    have lo : ∃ v, σ[i]? = some (some v) := by
      have sl := R.slots i _ e
      cases o with
      | sh => exact absurd rfl no
      | own => obtain ⟨a, _, e2, _⟩ := sl; exact ⟨_, e2⟩
      | lock => obtain ⟨a, _, e2, _⟩ := sl; exact ⟨_, e2⟩
      | bor => obtain ⟨_, a, e2, _⟩ := sl; exact ⟨_, e2⟩
    obtain ⟨v, ev⟩ := lo
    exact ⟨v, ev, (Fut.pans (Go.refl R) hh) noP ι ω H v (Go.refl R) ⟨fun _ z => z, ev⟩⟩
  · exact hh.elim
theorem s_glob (g : Good X C E Wx c) {x : Str} (hg : isGlob c x = true) (hx : okName x = true) : PE X (.Name x pos) (tE C E Wx (.glob x)) := by
  unfold okName at hx
  simp only [Bool.and_eq_true, Bool.not_eq_true'] at hx
  have gl : Gl X x := globC_gl g (by unfold isGlob at hg; simp only [Bool.and_eq_true] at hg; exact hg.1.1)
  refine ⟨fun pins s σ H Q I ⟨Fo, Tm, ι, ω, st, R, hh⟩ => ?_⟩
  have hh : Fut E Wx (· = σ) Fo Tm ι ω σ H st ((liftO (C.G x) >>= fun d => (M.pure (d, false) : M Hd)) st) (GE E Fo Tm σ Q) := hh
  obtain ⟨d, e, hf⟩ := hh.lift
  obtain ⟨v, u, m, r, is⟩ := g.glob x d e
  refine (pe_glob gl m r hx.1).run pins s σ H Q I ?_
  exact (Fut.pans (Go.refl R) hf).val R (is _ _ _) (.inl rfl)
theorem Hk.pk0 {h : Hd} {v : V} {H : Hp} {F : Addr → Prop} {ι : List Addr} {σ : St} {T : Addr → Prop} (i : Int) (e : h.1 = .int i) (q : Hk E H F ι σ T h v) : v = .int i := by
  obtain ⟨d, fr⟩ := h
  cases e
  rw [Hk.gen (fun i z => by cases z), if_neg (by simp [D.mutable])] at q
  exact q.2
theorem s_bin (g : Good X C E Wx c) (o : BOp) {op : Operator} (e : bopOf op = some o) (ha : PE X a (tE C E Wx ta)) (hb : PE X b (tE C E Wx tb)) : PE X (.BinOp a op b pos) (tE C E Wx (.bin o ta tb)) := by
  have eo : bopP o = op := by cases op <;> cases e <;> rfl
  have ho := bin_ok (X := X) g.env.K o
  rw [eo] at ho
  refine (pe_op ho ha hb).imp fun σ H Q ⟨Fo, Tm, ι, ω, st, R, hh⟩ => ?_
  refine next2E R hh rfl fun h x h' y T2 T3 ι3 ω3 H3 st3 g3 q2 q3 R3 hh => ?_
  obtain ⟨dx, px, hh⟩ := Fut.peek R3 q2 hh
  obtain ⟨dy, py, hh⟩ := Fut.peek R3 q3 hh
  obtain ⟨r, er, an⟩ := Fut.ans g3 hh
  exact ⟨Fo, Tm, ι3, ω3, σ, st3, dx, dy, r, g3.rel0, px.dr.dr, py.dr.dr, er, an⟩
theorem s_cmp (g : Good X C E Wx c) (o : CmpOp) (hm : behindInMarks o b = false) (ha : PE X a (tE C E Wx ta)) (hb : PE X b (tE C E Wx tb)) : PE X (.Compare a [o] [b] pos) (tE C E Wx (.cmp (copOf o) ta tb)) := by
  have ho := cmp_ok (X := X) g.env g.hu (copOf o)
  rw [copP_of] at ho
  refine (pe_cmpR ho ha hb hm).imp fun σ H Q ⟨Fo, Tm, ι, ω, st, R, hh⟩ => ?_
  refine next2E R hh rfl fun h x h' y T2 T3 ι3 ω3 H3 st3 g3 q2 q3 R3 hh => ?_
  obtain ⟨dx, px, hh⟩ := Fut.peek R3 q2 hh
  obtain ⟨dy, py, hh⟩ := Fut.peek R3 q3 hh
  obtain ⟨r, er, hh⟩ := hh.lift
  exact ⟨Fo, Tm, ι3, ω3, σ, st3, dx, dy, r, g3.rel0, px.dr.dr, py.dr.dr, er, (Fut.pans g3 hh).bl g3.rel0⟩
theorem M_assoc {α β γ : Type} (m : M α) (f : α → M β) (k : β → M γ) : (m >>= f) >>= k = m >>= fun a => f a >>= k := by
  funext s
  show M.bind (M.bind m f) k s = M.bind m (fun a => M.bind (f a) k) s
  unfold M.bind
  cases m s <;> rfl
theorem M_pure {α β : Type} (a : α) (f : α → M β) : ((M.pure a : M α) >>= f) = f a := rfl
theorem lift_test (o : Option Bool) : (liftO o >>= fun r => (M.pure (D.bl r, false) : M Hd) >>= fun h => peek h >>= fun x => liftO (truth x)) = liftO o := by
  cases o <;> rfl
theorem cmp_test (C : Cfg) (o : COp) (a b : TE) : evT C (.cmp o a b) = (evE C a >>= fun h => evE C b >>= fun k => peek h >>= fun x => peek k >>= fun y => liftO (cmpop o x y)) := by
  have e : evT C (.cmp o a b) = ((evE C a >>= fun h => evE C b >>= fun k => peek h >>= fun x => peek k >>= fun y => liftO (cmpop o x y) >>= fun r => (M.pure (D.bl r, false) : M Hd)) >>= fun h => peek h >>= fun x => liftO (truth x)) := rfl
  rw [e]
  simp only [M_assoc, lift_test]
theorem s_cmpT (g : Good X C E Wx c) (o : CmpOp) (hm : behindInMarks o b = false) (ha : PE X a (tE C E Wx ta)) (hb : PE X b (tE C E Wx tb)) : PT X (.Compare a [o] [b] pos) (tT C E Wx (.cmp (copOf o) ta tb)) := by
  have ho := cmp_ok (X := X) g.env g.hu (copOf o)
  rw [copP_of] at ho
  refine (pt_cmpR ho ha hb hm).imp fun σ H Q ⟨Fo, Tm, ι, ω, st, R, hh⟩ => ?_
  rw [cmp_test] at hh
  refine next2E R hh rfl fun h x h' y T2 T3 ι3 ω3 H3 st3 g3 q2 q3 R3 hh => ?_
  obtain ⟨dx, px, hh⟩ := Fut.peek R3 q2 hh
  obtain ⟨dy, py, hh⟩ := Fut.peek R3 q3 hh
  obtain ⟨r, er, hh⟩ := hh.lift1
  exact ⟨Fo, Tm, ι3, ω3, σ, st3, dx, dy, r, g3.rel0, px.dr.dr, py.dr.dr, er, r, rfl, hh.pure_use rfl g3⟩
/-- a term that is no test of its own: its truth -/
theorem tru_of {F : Addr → Prop} {H : Hp} {ι : List Addr} (ok : EnvOk E X) {d : D} {v : V} {b : Bool} (p : Pk E H F ι d v) (e : truth d = some b) : TruV X.K v H b := by
  cases d with
  | non => cases p; cases e; exact rfl
  | bl b => cases p; cases e; exact rfl
  | int i => cases p; cases e; exact rfl
  | str s =>
    cases p
    have e : (if s.length ≤ line then some (s.length != 0) else none) = some b := e
    split at e <;> cases e
    rename_i c
    refine ⟨c, ?_⟩
    cases s.length <;> rfl
  | tup l =>
    obtain ⟨a, xs, rfl, r, q⟩ := p
    cases e
    refine .inr (.inl ⟨xs, ok.K ▸ r, ?_⟩)
    have := q.length
    cases xs <;> cases l <;> first | rfl | (simp at this; done)
  | lst l =>
    obtain ⟨a, xs, rfl, r, q⟩ := p
    cases e
    refine .inl ⟨xs, .inl r, ?_⟩
    have := q.length
    cases xs <;> cases l <;> first | rfl | (simp at this; done)
  | dic l m =>
    obtain ⟨a, kvs, rfl, r, rfl, q⟩ := p
    cases e
    refine .inr (.inr ⟨kvs, r, ?_⟩)
    cases kvs <;> rfl
  | _ => cases e
theorem s_plainT (g : Good X C E Wx c) (ha : PE X a (tE C E Wx ta)) (he : ∀ whole, isTrue a X.env whole = (do let v ← whole; standAt a.pos; holding [v] (truthy v)))
    (hp : evT C ta = (evE C ta >>= fun h => peek h >>= fun x => liftO (truth x))) : PT X a (tT C E Wx ta) := by
  refine (pt_truth ha he).imp fun σ H Q ⟨Fo, Tm, ι, ω, st, R, hh⟩ => ?_
  rw [hp] at hh
  refine nextE1 R hh rfl fun h x T2 ι2 ω2 H2 st2 g2 q2 hh => ?_
  obtain ⟨d, pd, hh⟩ := Fut.peek g2.rel q2 hh
  obtain ⟨r, er, hh⟩ := hh.lift1
  exact ⟨r, tru_of g.env pd er, hh.pure_use rfl g2⟩
theorem s_neg (g : Good X C E Wx c) (ha : PE X a (tE C E Wx ta)) : PE X (.UnaryOp .USub a pos) (tE C E Wx (.neg ta)) := by
  refine (pe_un un_neg ha).imp fun σ H Q ⟨Fo, Tm, ι, ω, st, R, hh⟩ => ?_
  refine nextE1 R hh rfl fun h x T2 ι2 ω2 H2 st2 g2 q2 hh => ?_
  obtain ⟨d, pd, hh⟩ := Fut.peek g2.rel q2 hh
  cases d with
  | int i => cases pd; exact ⟨_, rfl, (Fut.pans g2 hh).val g2.rel0 rfl (.inl rfl)⟩
  | _ => exact hh.elim
theorem Hk.bl {F : Addr → Prop} {H : Hp} {ι : List Addr} {σ : St} {T : Addr → Prop} {b : Bool} {fr : Bool} {v : V} (q : Hk E H F ι σ T (.bl b, fr) v) : v = .bl b := by
  rw [Hk.gen (fun i z => by cases z), if_neg (by simp [D.mutable])] at q
  exact q.2
theorem Hk.int {F : Addr → Prop} {H : Hp} {ι : List Addr} {σ : St} {T : Addr → Prop} {b : Int} {fr : Bool} {v : V} (q : Hk E H F ι σ T (.int b, fr) v) : v = .int b := by
  rw [Hk.gen (fun i z => by cases z), if_neg (by simp [D.mutable])] at q
  exact q.2
theorem s_not (g : Good X C E Wx c) (ha : PE X a (tE C E Wx ta)) : PE X (.UnaryOp .Not a pos) (tE C E Wx (.not ta)) := by
  refine (pe_not ha).imp fun σ H Q ⟨Fo, Tm, ι, ω, st, R, hh⟩ => ?_
  refine nextE1 R hh rfl fun h x T2 ι2 ω2 H2 st2 g2 q2 hh => ?_
  obtain ⟨d, pd, hh⟩ := Fut.peek g2.rel q2 hh
  cases d with
  | bl b => cases pd; exact ⟨b, rfl, (Fut.pans g2 hh).bl g2.rel0⟩
  | _ => exact hh.elim
theorem s_notT (ha : PT X a (tT C E Wx ta)) : PT X (.UnaryOp .Not a pos) (tT C E Wx (.not ta)) := by
  refine (pt_not ha).imp fun σ H Q ⟨Fo, Tm, ι, ω, st, R, hh⟩ => ?_
  refine nextT1 R hh rfl fun b T2 ι2 ω2 H2 st2 g2 hh => ?_
  exact hh.pure_use rfl g2
theorem s_and {rest : List Expr} (ha : PE X a (tE C E Wx ta)) (hb : PE X (.BoolOp .And (b :: rest) pos) (tE C E Wx tb)) : PE X (.BoolOp .And (a :: b :: rest) pos) (tE C E Wx (.and ta tb)) := by
  refine (pe_and ha hb).imp fun σ H Q ⟨Fo, Tm, ι, ω, st, R, hh⟩ => ?_
  refine nextE1 R hh rfl fun ⟨d, fr⟩ x T2 ι2 ω2 H2 st2 g2 q2 hh => ?_
  cases d with
  | bl b =>
    rw [q2.bl]
    cases b with
    | true => exact ⟨true, rfl, lastE g2 hh⟩
    | false => exact ⟨false, rfl, (Fut.pans g2 hh).bl g2.rel0⟩
  | _ => exact hh.elim
theorem s_or {rest : List Expr} (ha : PE X a (tE C E Wx ta)) (hb : PE X (.BoolOp .Or (b :: rest) pos) (tE C E Wx tb)) : PE X (.BoolOp .Or (a :: b :: rest) pos) (tE C E Wx (.or ta tb)) := by
  refine (pe_or ha hb).imp fun σ H Q ⟨Fo, Tm, ι, ω, st, R, hh⟩ => ?_
  refine nextE1 R hh rfl fun ⟨d, fr⟩ x T2 ι2 ω2 H2 st2 g2 q2 hh => ?_
  cases d with
  | bl b =>
    rw [q2.bl]
    cases b with
    | true => exact ⟨true, rfl, (Fut.pans g2 hh).bl g2.rel0⟩
    | false => exact ⟨false, rfl, lastE g2 hh⟩
  | _ => exact hh.elim
theorem s_andT {rest : List Expr} (ha : PT X a (tT C E Wx ta)) (hb : PW X (.BoolOp .And (b :: rest) pos) (tT C E Wx tb)) : PW X (.BoolOp .And (a :: b :: rest) pos) (tT C E Wx (.and ta tb)) := by
  refine (pw_and ha hb).imp fun σ H Q ⟨Fo, Tm, ι, ω, st, R, hh⟩ => ?_
  refine nextT1 R hh rfl fun b T2 ι2 ω2 H2 st2 g2 hh => ?_
  cases b with
  | true => exact lastT g2 hh
  | false => exact hh.pure_use rfl g2
theorem s_orT {rest : List Expr} (ha : PT X a (tT C E Wx ta)) (hb : PW X (.BoolOp .Or (b :: rest) pos) (tT C E Wx tb)) : PW X (.BoolOp .Or (a :: b :: rest) pos) (tT C E Wx (.or ta tb)) := by
  refine (pw_or ha hb).imp fun σ H Q ⟨Fo, Tm, ι, ω, st, R, hh⟩ => ?_
  refine nextT1 R hh rfl fun b T2 ι2 ω2 H2 st2 g2 hh => ?_
  cases b with
  | true => exact hh.pure_use rfl g2
  | false => exact lastT g2 hh
theorem s_ite {t : Expr} {tt : TE} (ht : PT X t (tT C E Wx tt)) (ha : PE X a (tE C E Wx ta)) (hb : PE X b (tE C E Wx tb)) : PE X (.IfExp t a b pos) (tE C E Wx (.ite tt ta tb)) := by
  refine (pe_ifExp ht ha hb).imp fun σ H Q ⟨Fo, Tm, ι, ω, st, R, hh⟩ => ?_
  refine nextT1 R hh rfl fun b T2 ι2 ω2 H2 st2 g2 hh => ?_
  cases b with
  | true => exact lastE g2 hh
  | false => exact lastE g2 hh
theorem pt_ifExp {t : Expr} {tA tB tC : L2.TT} (hc : PT X t tA) (ha : PT X a tB) (hb : PT X b tC) : PT X (.IfExp t a b pos) (fun σ H Q => tA σ H fun c H1 => if c = true then tB σ H1 Q else tC σ H1 Q) := by
  refine ⟨fun pins s σ H Q I h => ?_⟩
  show wpAny _ _ (isTrue t X.env (eval t X.env) >>= fun z => if z = true then isTrue a X.env (eval a X.env) else isTrue b X.env (eval b X.env)) _ _ s
  refine wpAny_bind (thn (hc.run pins s σ H _ I h) fun d s1 ⟨H1, I1, q1⟩ => ?_)
  cases d with
  | true => exact ha.run pins s1 σ H1 Q I1 q1
  | false => exact hb.run pins s1 σ H1 Q I1 q1
theorem s_iteT {t : Expr} {tt : TE} (ht : PT X t (tT C E Wx tt)) (ha : PT X a (tT C E Wx ta)) (hb : PT X b (tT C E Wx tb)) : PT X (.IfExp t a b pos) (tT C E Wx (.ite tt ta tb)) := by
  refine (pt_ifExp ht ha hb).imp fun σ H Q ⟨Fo, Tm, ι, ω, st, R, hh⟩ => ?_
  refine nextT1 R hh rfl fun b T2 ι2 ω2 H2 st2 g2 hh => ?_
  cases b with
  | true => exact lastT g2 hh
  | false => exact lastT g2 hh
end
end EV

set_option autoImplicit false
set_option linter.all false
set_option maxRecDepth 10000
namespace EV
open PySem L2

def GL (E : Env) (Fo Tm : Addr → Prop) (Q : List V → Hp → Prop) : List D → (Addr → Prop) → List Addr → List (Option Addr) → St → Hp → W → Prop :=
  fun ds T ι' ω' _ H' _ => ∀ vs, IsL E H' (FF Fo (orP T Tm) ι' ω') ι' ds vs → Q vs H'
def tL (C : Cfg) (E : Env) (Wx : WX) (tl : TL) : L2.TA := fun σ H Q => ∃ Fo Tm ι ω st, Rel E Fo Tm ι ω σ H st ∧ Fut E Wx (· = σ) Fo Tm ι ω σ H st (evL C tl st) (GL E Fo Tm Q)
/-- values on the way, one after another -/
def HkL (E : Env) (H : Hp) (F : Addr → Prop) (ι : List Addr) (σ : St) : (Addr → Prop) → List Hd → List V → Prop
  | T, [], xs => xs = [] ∧ ∀ a, ¬ T a
  | T, h :: hs, xs => ∃ x r T1 T2, xs = x :: r ∧ (∀ a, T a ↔ T1 a ∨ T2 a) ∧ (∀ a, T1 a → ¬ T2 a) ∧ Hk E H F ι σ T1 h x ∧ HkL E H F ι σ T2 hs r
def GH (E : Env) (Fo Tm : Addr → Prop) (σ : St) (Q : List V → Hp → Prop) : List Hd → (Addr → Prop) → List Addr → List (Option Addr) → St → Hp → W → Prop :=
  fun hs T ι' ω' _ H' _ => ∀ vs, HkL E H' (FF Fo (orP T Tm) ι' ω') ι' σ T hs vs → Q vs H'
def tH (C : Cfg) (E : Env) (Wx : WX) (tl : TL) : L2.TA := fun σ H Q => ∃ Fo Tm ι ω st, Rel E Fo Tm ι ω σ H st ∧ Fut E Wx (· = σ) Fo Tm ι ω σ H st (evH C tl st) (GH E Fo Tm σ Q)
def tAr (C : Cfg) (E : Env) (Wx : WX) (f : Str) (j : Nat) (tl : TL) : L2.TA := fun σ H Q => ∃ Fo Tm ι ω st, Rel E Fo Tm ι ω σ H st ∧ Fut E Wx (· = σ) Fo Tm ι ω σ H st (evA C f j tl st) (GH E Fo Tm σ Q)
theorem _root_.L2.PA.imp {X : Cx} {es : List Expr} {t t' : L2.TA} (h : PA X es t) (k : ∀ σ H Q, t' σ H Q → t σ H Q) : PA X es t' := ⟨fun pos pins s σ H Q I q => h.run pos pins s σ H Q I (k σ H Q q)⟩

section
variable {E : Env} {Wx : WX} {Sg : St → Prop} {Fo Tm T T1 T2 : Addr → Prop} {ι ι1 ι2 : List Addr} {ω ω1 ω2 : List (Option Addr)} {σ0 σ : St} {H H1 H2 : Hp} {st st1 st2 : W} {α : Type} {C : Cfg} {te : TE} {tl : TL} {Q : VK}
  {G : α → (Addr → Prop) → List Addr → List (Option Addr) → St → Hp → W → Prop} {F F' : Addr → Prop}

theorem HkL.keep {H' : Hp} {ι' : List Addr} (k : Kp E H F ι H' F' ι') : ∀ {T : Addr → Prop} {hs : List Hd} {vs : List V}, (∀ a, T a → H' a = H a) → HkL E H F ι σ T hs vs → HkL E H' F' ι' σ T hs vs
  | T, [], vs, _, h => h
  | T, h :: hs, vs, ho, ⟨x, r, T1, T2, e, s, d, q, l⟩ => ⟨x, r, T1, T2, e, s, d, q.keep k fun a z => ho a ((s a).mpr (.inl z)), HkL.keep k (fun a z => ho a ((s a).mpr (.inr z))) l⟩
theorem Lk.go {st1 st2 : W} {ω1 ω2 : List (Option Addr)} {σ : St} {H : Hp} (l : Lk st1 ω1 st2 ω2) : ∀ (i : Nat) d, st1.ρ[i]? = some (some (d, .lock)) → st2.ρ[i]? = st1.ρ[i]? ∧ σ[i]? = σ[i]? ∧ ω2[i]? = ω1[i]? ∧ ∀ a, ω1[i]? = some (some a) → H a = H a :=
  fun i d e => ⟨(l i d e).1, rfl, (l i d e).2, fun _ _ => rfl⟩
theorem Go.esc {h h' : Hd} {v : V} (g : Go E Fo Tm ι ω σ0 H st T ι1 ω1 σ H1 st1) (q : Hk E H1 (FF Fo (orP T Tm) ι1 ω1) ι1 σ T h v) (e : esc h st1 = .ok h' st2) :
    ∃ ω2, Go E Fo Tm ι ω σ0 H st noP ι1 ω2 σ H1 st2 ∧ Is E H1 (FF Fo Tm ι1 ω2) ι1 h'.1 v := by
  obtain ⟨ω2, R2, k, is, lk⟩ := esc_ok g.rel q g.nT e
  refine ⟨ω2, g.next (fun _ z => z.elim) (by rw [orP_no]; exact R2) (by rw [orP_no]; exact k) (fun _ _ => rfl) lk.go, is⟩
/-- a value handed on as it is, no name's own -/
theorem Go.pass {h h' : Hd} {v : V} (g : Go E Fo Tm ι ω σ0 H st T ι1 ω1 σ H1 st1) (q : Hk E H1 (FF Fo (orP T Tm) ι1 ω1) ι1 σ T h v) (e : EV.esc h st1 = .ok h' st2) :
    ∃ ω2 T', Go E Fo Tm ι ω σ0 H st T' ι1 ω2 σ H1 st2 ∧ Hk E H1 (FF Fo (orP T' Tm) ι1 ω2) ι1 σ T' h' v := by
  obtain ⟨d0, fr⟩ := h
  cases d0 with
  | loc i =>
    have fr' : h'.2 = false := by
      simp only [EV.esc] at e
      (repeat' split at e) <;> cases e
      rfl
    obtain ⟨ω2, g2, is⟩ := g.esc q e
    exact ⟨ω2, noP, g2, by rw [orP_no]; exact (show Hk E H1 (FF Fo Tm ι1 ω2) ι1 σ noP (h'.1, h'.2) v from Hk.sh is (.inl fr'))⟩
  | _ =>
    cases e
    exact ⟨ω1, T, g, q⟩
theorem Go.cell {h h' : Hd} {v : V} (g : Go E Fo Tm ι ω σ0 H st T ι1 ω1 σ H1 st1) (q : Hk E H1 (FF Fo (orP T Tm) ι1 ω1) ι1 σ T h v) (e : toCell h st1 = .ok h' st2) :
    ∃ ι2 ω2, Go E Fo Tm ι ω σ0 H st noP ι2 ω2 σ H1 st2 ∧ Is E H1 (FF Fo Tm ι2 ω2) ι2 h'.1 v ∧ h'.2 = false := by
  obtain ⟨ι2, ω2, R2, k, is, fr, lk⟩ := toCell_ok g.rel q g.nT e
  exact ⟨ι2, ω2, g.next (fun _ z => z.elim) (by rw [orP_no]; exact R2) (by rw [orP_no]; exact k) (fun _ _ => rfl) lk.go, is, fr⟩
theorem nextL {f : List D → M α} {Q' : List V → Hp → Prop} (g : Go E Fo Tm ι ω σ0 H st T ι1 ω1 σ H1 st1) (hh : Fut E Wx Sg Fo Tm ι ω σ0 H st ((evL C tl >>= f) st1) G) (hS : Sg σ)
    (k : ∀ ds vs T2 ι2 ω2 H2 st2, Go E Fo (orP T Tm) ι1 ω1 σ H1 st1 T2 ι2 ω2 σ H2 st2 → Go E Fo Tm ι ω σ0 H st (orP T2 T) ι2 ω2 σ H2 st2 → IsL E H2 (FF Fo (orP T2 (orP T Tm)) ι2 ω2) ι2 ds vs → Fut E Wx Sg Fo Tm ι ω σ0 H st (f ds st2) G → Q' vs H2) :
    tL C E Wx tl σ H1 Q' := by
  refine ⟨Fo, orP T Tm, ι1, ω1, st1, g.rel, ((hh.bind0 (Sg' := (· = σ)) fun s e => e ▸ hS).step g).mono ?_⟩
  intro h T2 ι2 ω2 σ2 H2 st2 e g2 hf v q
  subst e
  exact k h v T2 ι2 ω2 H2 st2 g2 (g.trans g2) q hf
theorem nextL1 {f : List D → M α} {Q' : List V → Hp → Prop} (R : Rel E Fo Tm ι ω σ H st) (hh : Fut E Wx Sg Fo Tm ι ω σ H st ((evL C tl >>= f) st) G) (hS : Sg σ)
    (k : ∀ ds vs T2 ι2 ω2 H2 st2, Go E Fo Tm ι ω σ H st T2 ι2 ω2 σ H2 st2 → IsL E H2 (FF Fo (orP T2 Tm) ι2 ω2) ι2 ds vs → Fut E Wx Sg Fo Tm ι ω σ H st (f ds st2) G → Q' vs H2) :
    tL C E Wx tl σ H Q' := by
  refine nextL (Go.refl R) hh hS fun h v T2 ι2 ω2 H2 st2 _ g2 q hf => ?_
  rw [orP_no'] at g2
  rw [orP_no] at q
  exact k h v T2 ι2 ω2 H2 st2 g2 q hf
theorem nextH {f : List Hd → M α} {Q' : List V → Hp → Prop} (g : Go E Fo Tm ι ω σ0 H st T ι1 ω1 σ H1 st1) (hh : Fut E Wx Sg Fo Tm ι ω σ0 H st ((evH C tl >>= f) st1) G) (hS : Sg σ)
    (k : ∀ ds vs T2 ι2 ω2 H2 st2, Go E Fo (orP T Tm) ι1 ω1 σ H1 st1 T2 ι2 ω2 σ H2 st2 → Go E Fo Tm ι ω σ0 H st (orP T2 T) ι2 ω2 σ H2 st2 → HkL E H2 (FF Fo (orP T2 (orP T Tm)) ι2 ω2) ι2 σ T2 ds vs → Fut E Wx Sg Fo Tm ι ω σ0 H st (f ds st2) G → Q' vs H2) :
    tH C E Wx tl σ H1 Q' := by
  refine ⟨Fo, orP T Tm, ι1, ω1, st1, g.rel, ((hh.bind0 (Sg' := (· = σ)) fun s e => e ▸ hS).step g).mono ?_⟩
  intro h T2 ι2 ω2 σ2 H2 st2 e g2 hf v q
  subst e
  exact k h v T2 ι2 ω2 H2 st2 g2 (g.trans g2) q hf
theorem nextH1 {f : List Hd → M α} {Q' : List V → Hp → Prop} (R : Rel E Fo Tm ι ω σ H st) (hh : Fut E Wx Sg Fo Tm ι ω σ H st ((evH C tl >>= f) st) G) (hS : Sg σ)
    (k : ∀ ds vs T2 ι2 ω2 H2 st2, Go E Fo Tm ι ω σ H st T2 ι2 ω2 σ H2 st2 → HkL E H2 (FF Fo (orP T2 Tm) ι2 ω2) ι2 σ T2 ds vs → Fut E Wx Sg Fo Tm ι ω σ H st (f ds st2) G → Q' vs H2) :
    tH C E Wx tl σ H Q' := by
  refine nextH (Go.refl R) hh hS fun h v T2 ι2 ω2 H2 st2 _ g2 q hf => ?_
  rw [orP_no'] at g2
  rw [orP_no] at q
  exact k h v T2 ι2 ω2 H2 st2 g2 q hf
theorem nextA {f : List Hd → M α} {fn : Str} {j : Nat} {Q' : List V → Hp → Prop} (g : Go E Fo Tm ι ω σ0 H st T ι1 ω1 σ H1 st1) (hh : Fut E Wx Sg Fo Tm ι ω σ0 H st ((evA C fn j tl >>= f) st1) G) (hS : Sg σ)
    (k : ∀ ds vs T2 ι2 ω2 H2 st2, Go E Fo (orP T Tm) ι1 ω1 σ H1 st1 T2 ι2 ω2 σ H2 st2 → Go E Fo Tm ι ω σ0 H st (orP T2 T) ι2 ω2 σ H2 st2 → HkL E H2 (FF Fo (orP T2 (orP T Tm)) ι2 ω2) ι2 σ T2 ds vs → Fut E Wx Sg Fo Tm ι ω σ0 H st (f ds st2) G → Q' vs H2) :
    tAr C E Wx fn j tl σ H1 Q' := by
  refine ⟨Fo, orP T Tm, ι1, ω1, st1, g.rel, ((hh.bind0 (Sg' := (· = σ)) fun s e => e ▸ hS).step g).mono ?_⟩
  intro h T2 ι2 ω2 σ2 H2 st2 e g2 hf v q
  subst e
  exact k h v T2 ι2 ω2 H2 st2 g2 (g.trans g2) q hf
theorem nextA1 {f : List Hd → M α} {fn : Str} {j : Nat} {Q' : List V → Hp → Prop} (R : Rel E Fo Tm ι ω σ H st) (hh : Fut E Wx Sg Fo Tm ι ω σ H st ((evA C fn j tl >>= f) st) G) (hS : Sg σ)
    (k : ∀ ds vs T2 ι2 ω2 H2 st2, Go E Fo Tm ι ω σ H st T2 ι2 ω2 σ H2 st2 → HkL E H2 (FF Fo (orP T2 Tm) ι2 ω2) ι2 σ T2 ds vs → Fut E Wx Sg Fo Tm ι ω σ H st (f ds st2) G → Q' vs H2) :
    tAr C E Wx fn j tl σ H Q' := by
  refine nextA (Go.refl R) hh hS fun h v T2 ι2 ω2 H2 st2 _ g2 q hf => ?_
  rw [orP_no'] at g2
  rw [orP_no] at q
  exact k h v T2 ι2 ω2 H2 st2 g2 q hf
theorem Is.hk {d : D} {v : V} {fr : Bool} (is : Is E H F ι d v) (e : fr = false) : Hk E H F ι σ noP (d, fr) v := Hk.sh is (.inl e)
end

section
variable {X : Cx} {C : Cfg} {E : Env} {Wx : WX} {c : SC} {a b : Expr} {es : List Expr} {ta tb : TE} {tl : TL} {pos : Pos}
/-- no star -/
def noStar : Expr → Bool
  | .Starred _ _ => false
  | _ => true
theorem star_cons {env : PySem.Env} (h : noStar a = true) : starEach (a :: es) env = (false, eval a env) :: starEach es env := by
  cases a <;> first | rfl | cases h
theorem sL_nil : PA X [] (tL C E Wx .nil) := pa_nil.imp fun σ H Q ⟨Fo, Tm, ι, ω, st, R, hh⟩ => by
  have hh : Fut E Wx (· = σ) Fo Tm ι ω σ H st ((M.pure [] : M (List D)) st) (GL E Fo Tm Q) := hh
  exact hh.pure_use rfl (Go.refl R) [] rfl
theorem sL_cons (hn : noStar a = true) (ha : PE X a (tE C E Wx ta)) (hr : PA X es (tL C E Wx tl)) : PA X (a :: es) (tL C E Wx (.cons ta tl)) := by
  refine (pa_cons ha hr (star_cons hn)).imp fun σ H Q ⟨Fo, Tm, ι, ω, st, R, hh⟩ => ?_
  refine nextE1 R hh rfl fun h x T2 ι2 ω2 H2 st2 g2 q2 hh => ?_
  obtain ⟨h', st3, e, hh⟩ := hh.op (esc_nx h st2)
  obtain ⟨ω3, g3, is⟩ := g2.esc q2 e
  refine nextL g3 hh rfl fun ds xs T4 ι4 ω4 H4 st4 g4' g4 l4 hh => ?_
  rw [orP_no] at g4' l4
  rw [orP_no'] at g4
  exact hh.pure_use rfl g4 (x :: xs) ⟨x, xs, rfl, g4'.kp.is is, l4⟩
theorem sH_nil : PA X [] (tH C E Wx .nil) := pa_nil.imp fun σ H Q ⟨Fo, Tm, ι, ω, st, R, hh⟩ => by
  have hh : Fut E Wx (· = σ) Fo Tm ι ω σ H st ((M.pure [] : M (List Hd)) st) (GH E Fo Tm σ Q) := hh
  exact hh.pure_use rfl (Go.refl R) [] ⟨rfl, fun _ z => z⟩
theorem sH_cons (hn : noStar a = true) (ha : PE X a (tE C E Wx ta)) (hr : PA X es (tH C E Wx tl)) : PA X (a :: es) (tH C E Wx (.cons ta tl)) := by
  refine (pa_cons ha hr (star_cons hn)).imp fun σ H Q ⟨Fo, Tm, ι, ω, st, R, hh⟩ => ?_
  refine nextE1 R hh rfl fun h x T2 ι2 ω2 H2 st2 g2 q2 hh => ?_
  refine nextH g2 hh rfl fun hs xs T4 ι4 ω4 H4 st4 g4' g4 l4 hh => ?_
  refine hh.pure_use rfl g4 (x :: xs) ⟨x, xs, T2, T4, rfl, fun a => or_comm, fun a z w => g4'.nT a w (.inl z), ?_, ?_⟩
  · rw [orP_assoc]; exact q2.keep g4'.kp fun a z => g4'.same a (.inr (.inl z))
  · rw [orP_assoc]; exact l4
theorem sA_nil {f : Str} {j : Nat} : PA X [] (tAr C E Wx f j .nil) := pa_nil.imp fun σ H Q ⟨Fo, Tm, ι, ω, st, R, hh⟩ => by
  have hh : Fut E Wx (· = σ) Fo Tm ι ω σ H st ((M.pure [] : M (List Hd)) st) (GH E Fo Tm σ Q) := hh
  exact hh.pure_use rfl (Go.refl R) [] ⟨rfl, fun _ z => z⟩
theorem sA_cons {f : Str} {j : Nat} (hn : noStar a = true) (ha : PE X a (tE C E Wx ta)) (hr : PA X es (tAr C E Wx f (j + 1) tl)) : PA X (a :: es) (tAr C E Wx f j (.cons ta tl)) := by
  refine (pa_cons ha hr (star_cons hn)).imp fun σ H Q ⟨Fo, Tm, ι, ω, st, R, hh⟩ => ?_
  refine nextE1 R hh rfl fun h x T2 ι2 ω2 H2 st2 g2 q2 hh => ?_
  have hh : Fut E Wx (· = σ) Fo Tm ι ω σ H st (((match C.mode f j with
      | .val => esc h
      | .ref => toCell h
      | .lend => M.pure h) >>= fun h => evA C f (j + 1) tl >>= fun hs => (M.pure (h :: hs) : M (List Hd))) st2) (GH E Fo Tm σ Q) := hh
  cases hm : C.mode f j with
  | val =>
    rw [hm] at hh
    obtain ⟨h', st3, e, hh⟩ := hh.op (esc_nx h st2)
    obtain ⟨ω3, T3, g3, q3⟩ := g2.pass q2 e
    refine nextA g3 hh rfl fun hs xs T4 ι4 ω4 H4 st4 g4' g4 l4 hh => ?_
    refine hh.pure_use rfl g4 (x :: xs) ⟨x, xs, T3, T4, rfl, fun a => or_comm, fun a z w => g4'.nT a w (.inl z), ?_, ?_⟩
    · rw [orP_assoc]; exact q3.keep g4'.kp fun a z => g4'.same a (.inr (.inl z))
    · rw [orP_assoc]; exact l4
  | ref =>
    rw [hm] at hh
    obtain ⟨h', st3, e, hh⟩ := hh.op (toCell_nx h st2)
    obtain ⟨ι3, ω3, g3, is, fr⟩ := g2.cell q2 e
    refine nextA g3 hh rfl fun hs xs T4 ι4 ω4 H4 st4 g4' g4 l4 hh => ?_
    rw [orP_no] at g4' l4
    rw [orP_no'] at g4
    refine hh.pure_use rfl g4 (x :: xs) ⟨x, xs, noP, T4, rfl, fun a => ⟨.inr, fun z => z.elim False.elim id⟩, fun a z => z.elim, ?_, l4⟩
    exact (show Hk E H4 (FF Fo (orP T4 Tm) ι4 ω4) ι4 σ noP (h'.1, h'.2) x from (g4'.kp.is is).hk fr)
  | lend =>
    rw [hm] at hh
    refine nextA g2 hh rfl fun hs xs T4 ι4 ω4 H4 st4 g4' g4 l4 hh => ?_
    refine hh.pure_use rfl g4 (x :: xs) ⟨x, xs, T2, T4, rfl, fun a => or_comm, fun a z w => g4'.nT a w (.inl z), ?_, ?_⟩
    · rw [orP_assoc]; exact q2.keep g4'.kp fun a z => g4'.same a (.inr (.inl z))
    · rw [orP_assoc]; exact l4
end
end EV

set_option autoImplicit false
set_option linter.all false
set_option maxRecDepth 10000
namespace EV
open PySem L2 PyProof.Rows

section
variable {E : Env} {Wx : WX} {Sg : L2.St → Prop} {Fo Tm T T1 T2 : Addr → Prop} {ι ι1 ι2 : List Addr} {ω ω1 ω2 : List (Option Addr)} {σ0 σ : L2.St} {H H1 H2 : Hp} {st st1 st2 : W} {α : Type} {C : Cfg} {te : TE} {tl : TL} {Q : VK} {F F' : Addr → Prop}
theorem IsL.dr {ds : List D} {xs : List V} (h : IsL E H (FF Fo (orP T T1) ι ω) ι ds xs) : IsL E H (FF Fo T1 ι ω) ι ds xs := (Kp.less fun a z => FF.less (fun _ z => .inr z) z).isL h
theorem Is.dr {d : D} {x : V} (h : Is E H (FF Fo (orP T T1) ι ω) ι d x) : Is E H (FF Fo T1 ι ω) ι d x := (Kp.less fun a z => FF.less (fun _ z => .inr z) z).is h
theorem at_is {ds : List D} {xs : List V} {i : Int} {d : D} (h : IsL E H F ι ds xs) (e : at? ds i = some d) : ∃ v, atI xs i = some v ∧ Is E H F ι d v := by
  unfold at? atI at e
  rw [← h.length] at e
  unfold atI
  cases hi : ixN xs.length i with
  | none => rw [hi] at e; cases e
  | some j =>
    rw [hi] at e
    obtain ⟨v, e1, e2⟩ := h.get (i := j) e
    exact ⟨v, e1, e2⟩
theorem cut_is {ds : List D} {xs : List V} {lo hi : Option Int} (h : IsL E H F ι ds xs) : IsL E H F ι (cut ds lo hi) (cutV xs lo hi) := by
  unfold cut cutV
  rw [h.length]
  exact (h.drop _).take _
end
section
variable {X : Cx}
theorem IxR.any {r' : R2} (h : ∀ x y H Q, r' x y H Q → ∃ r, IxR X r ∧ r x y H Q) : IxR X r' := fun value slice pins s σ H x y v u Q I rx ry q hs => by
  obtain ⟨r, ho, hr⟩ := h x y H Q q
  exact ho value slice pins s σ H x y v u Q I rx ry hr hs
def rIxDic : R2 := fun x y H Q => ∃ a v, x = .ref a ∧ DGet H a y (some v) ∧ Q v H
theorem ix_dic (hu : X.A.units + 1 < cLine) : IxR X rIxDic := by
  intro value slice pins s σ H x y v u Q I rx ry h hs
  obtain ⟨a, z, rfl, g, q⟩ := h
  cases rx
  exact tail_any (dict_typeIs I g) PySem.F.slot_dict_getitem.lookup (d_getItem hu I g ry fun w' s3 I3 rw' => ⟨z, H, I3, rw', q⟩) hs
def rIxKon (E : Env) : R2 := fun x y H Q => ∃ a kvs z v, x = .ref a ∧ y = .str z ∧ E.kd a kvs ∧ valV kvs (.inr z) = some v ∧ Q v H
theorem ix_kon {E : Env} (ok : EnvOk E X) : IxR X (rIxKon E) := by
  intro value slice pins s σ H x y v u Q I rx ry h hs
  obtain ⟨a, kvs, z, w, rfl, rfl, hk, hv, q⟩ := h
  cases rx
  obtain ⟨⟨es, n, kd⟩, hz⟩ := ok.kd a kvs hk
  obtain ⟨r, e1, e2⟩ := hz z
  rw [hv] at e2
  cases r with
  | none => exact e2.elim
  | some u0 => exact tail_any (kd_type kd I) PySem.F.slot_dict_getitem.lookup (op_item_kd kd pins s σ H (.ref a) (.str z) _ _ Q I rfl ry ⟨z, u0, w, rfl, rfl, e1, e2, q⟩) hs
def rIdx (E : Env) : R2 := fun x y H Q => ∃ Fo Tm ι ω σ st dx dy d, Rel E Fo Tm ι ω σ H st ∧ Pk E H (FF Fo Tm ι ω) ι dx x ∧ Pk E H (FF Fo Tm ι ω) ι dy y ∧ idxop dx dy = some d ∧ Ans E Fo Tm ι ω σ H st (d, false) Q
theorem idx_ok {E : Env} (ok : EnvOk E X) (hu : X.A.units + 65 < cLine) : IxR X (rIdx E) := IxR.any fun x y H Q ⟨Fo, Tm, ι, ω, σ, st, dx, dy, d, R, px, py, e, a⟩ => by
  unfold idxop at e
  split at e
  · obtain ⟨p, xs, rfl, r1, l1⟩ := px
    cases py
    obtain ⟨v, e1, e2⟩ := at_is l1 e
    exact ⟨_, ix_list, p, xs, _, v, rfl, rfl, .inl r1, e1, a.val R e2 (.inl rfl)⟩
  · obtain ⟨p, xs, rfl, r1, l1⟩ := px
    cases py
    obtain ⟨v, e1, e2⟩ := at_is l1 e
    exact ⟨_, ix_tup, p, xs, _, v, rfl, rfl, ok.K ▸ r1, e1, a.val R e2 (.inl rfl)⟩
  · cases px; cases py
    split at e
    · rename_i c
      obtain ⟨z, e1, e2⟩ := Option.map_eq_some_iff.mp e
      subst e2
      exact ⟨_, ix_str, _, _, z, rfl, rfl, c, e1, a.val R rfl (.inl rfl)⟩
    · cases e
  · obtain ⟨p, kvs, rfl, r1, rfl, l1⟩ := px
    split at e
    · rename_i c
      obtain ⟨k, rfl, rfl⟩ := fk_key c py
      obtain ⟨v, e1, e2⟩ := look_key l1 e
      refine ⟨_, ix_dic (by omega), p, v, rfl, ?_, a.val R e2 (.inl rfl)⟩
      rw [← e1]
      exact DGet.k r1
    · cases e
  · obtain ⟨p, kvs, rfl, r1, rfl, l1⟩ := px
    split at e
    · rename_i c
      obtain ⟨z, rfl⟩ := isStr_str c
      cases py
      obtain ⟨v, e1, e2⟩ := look_key (k := .inr z) l1 e
      exact ⟨_, ix_kon ok, p, kvs, z, v, rfl, rfl, r1, e1, a.val R e2 (.inl rfl)⟩
    · cases e
  · cases e
theorem SlR.any {r' : V → Option Int → Option Int → Hp → VK → Prop} (h : ∀ x lo hi H Q, r' x lo hi H Q → ∃ r, SlR X r ∧ r x lo hi H Q) : SlR X r' := fun pins s σ H x v vl vu lo hi sl Q I rx hs pl pu q => by
  obtain ⟨r, ho, hr⟩ := h x lo hi H Q q
  exact ho pins s σ H x v vl vu lo hi sl Q I rx hs pl pu hr
def rSli (E : Env) : V → Option Int → Option Int → Hp → VK → Prop := fun x lo hi H Q => ∃ Fo Tm ι ω σ st dx h, Rel E Fo Tm ι ω σ H st ∧ Pk E H (FF Fo Tm ι ω) ι dx x ∧ sliop dx lo hi = some h ∧ Ans E Fo Tm ι ω σ H st h Q
theorem cut_whole {α : Type} {l : List α} {lo hi : Option Int} (h : HT.sIx l.length 0 lo = 0 ∧ HT.sIx l.length l.length hi = l.length) : cut l lo hi = l := by
  unfold cut
  rw [h.1, h.2]
  simp
theorem sli_ok {E : Env} (ok : EnvOk E X) : SlR X (rSli E) := SlR.any fun x lo hi H Q ⟨Fo, Tm, ι, ω, σ, st, dx, h, R, px, e, a⟩ => by
  unfold sliop at e
  split at e
  · obtain ⟨p, xs, rfl, r1, l1⟩ := px
    cases e
    exact ⟨_, sl_list, p, xs, rfl, .inl r1, fun q hq => a.lst R (cut_is l1) hq⟩
  · obtain ⟨p, xs, rfl, r1, l1⟩ := px
    cases e
    refine ⟨_, sl_tupA, p, xs, rfl, ok.K ▸ r1, fun z => ?_, fun _ q hq => a.tup R (cut_is l1) hq⟩
    rw [l1.length] at z
    rw [cut_whole z] at a
    exact a.val R ⟨p, xs, rfl, r1, l1⟩ (.inl rfl)
  · cases px
    split at e <;> cases e
    rename_i c
    refine ⟨_, sl_str, _, rfl, c, ?_⟩
    refine a.val R ?_ (.inl rfl)
    show V.str _ = V.str _
    congr 1
  · cases e
end
section
variable {X : Cx} {C : Cfg} {E : Env} {Wx : WX} {c : SC} {a b e1 e2 : Expr} {es : List Expr} {ta tb tc : TE} {tl : TL} {pos : Pos}
theorem s_tup {k : Nat} (h : PA X es (tL C E Wx tl)) : PE X (.Tuple es k pos) (tE C E Wx (.tup tl)) := by
  refine (pe_tup h).imp fun σ H Q ⟨Fo, Tm, ι, ω, st, R, hh⟩ => ?_
  refine nextL1 R hh rfl fun ds xs T2 ι2 ω2 H2 st2 g2 l2 hh => ?_
  split at hh
  · rename_i c
    exact ⟨by rw [l2.length]; exact c, fun p hp => (Fut.pans g2 hh).tup g2.rel0 l2.dr hp⟩
  · exact hh.elim
theorem s_lst (h : PA X es (tL C E Wx tl)) : PE X (.List es pos) (tE C E Wx (.lst tl)) := by
  refine (pe_lst h).imp fun σ H Q ⟨Fo, Tm, ι, ω, st, R, hh⟩ => ?_
  refine nextL1 R hh rfl fun ds xs T2 ι2 ω2 H2 st2 g2 l2 hh => ?_
  split at hh
  · rename_i c
    exact ⟨by rw [l2.length]; exact c, fun p hp => (Fut.pans g2 hh).lst g2.rel0 l2.dr hp⟩
  · exact hh.elim
def noSlice : Expr → Bool
  | .Slice _ _ _ _ => false
  | _ => true
theorem plainIx (h : noSlice b = true) : PlainIx b := fun o i => by
  cases b <;> first | rfl | cases h
theorem s_idx (g : Good X C E Wx c) (hs : noSlice b = true) (ha : PE X a (tE C E Wx ta)) (hb : PE X b (tE C E Wx tb)) : PE X (.Subscript a b pos) (tE C E Wx (.idx ta tb)) := by
  refine (pe_ix (idx_ok g.env g.hu) ha hb (plainIx hs)).imp fun σ H Q ⟨Fo, Tm, ι, ω, st, R, hh⟩ => ?_
  refine next2E R hh rfl fun h x h' y T2 T3 ι3 ω3 H3 st3 g3 q2 q3 R3 hh => ?_
  obtain ⟨dx, px, hh⟩ := Fut.peek R3 q2 hh
  obtain ⟨dy, py, hh⟩ := Fut.peek R3 q3 hh
  obtain ⟨d, er, hh⟩ := hh.lift
  exact ⟨Fo, Tm, ι3, ω3, σ, st3, dx, dy, d, g3.rel0, px.dr.dr, py.dr.dr, er, Fut.pans g3 hh⟩
/-- a slice's bound -/
def GO (Q : Option Int → Hp → Prop) : Option Int → (Addr → Prop) → List Addr → List (Option Addr) → L2.St → Hp → W → Prop := fun b _ _ _ _ H' _ => Q b H'
def tOb (C : Cfg) (E : Env) (Wx : WX) (t : TO) : L2.TO := fun σ H Q => ∃ Fo Tm ι ω st, Rel E Fo Tm ι ω σ H st ∧ Fut E Wx (· = σ) Fo Tm ι ω σ H st (evO C t st) (GO Q)
theorem _root_.L2.PO.imp {X : Cx} {e : Option Expr} {t t' : L2.TO} (h : PO X e t) (k : ∀ σ H Q, t' σ H Q → t σ H Q) : PO X e t' := ⟨fun pins s σ H Q I q => h.run pins s σ H Q I (k σ H Q q)⟩
theorem sO_none : PO X none (tOb C E Wx .none) := po_none.imp fun σ H Q ⟨Fo, Tm, ι, ω, st, R, hh⟩ => by
  have hh : Fut E Wx (· = σ) Fo Tm ι ω σ H st ((M.pure none : M (Option Int)) st) (GO Q) := hh
  exact hh.pure_use rfl (Go.refl R)
theorem sO_some (ha : PE X a (tE C E Wx ta)) : PO X (some a) (tOb C E Wx (.some ta)) := (po_some ha).imp fun σ H Q ⟨Fo, Tm, ι, ω, st, R, hh⟩ => by
  refine nextE1 R hh rfl fun ⟨d, fr⟩ x T2 ι2 ω2 H2 st2 g2 q2 hh => ?_
  cases d with
  | int i => rw [q2.int]; exact ⟨i, rfl, hh.pure_use rfl g2⟩
  | _ => exact hh.elim
end
section
variable {E : Env} {Wx : WX} {Sg : L2.St → Prop} {Fo Tm T T1 T2 : Addr → Prop} {ι ι1 ι2 : List Addr} {ω ω1 ω2 : List (Option Addr)} {σ0 σ : L2.St} {H H1 H2 : Hp} {st st1 st2 : W} {α : Type} {C : Cfg} {te : TE} {tl : TL} {Q : VK}
  {G : α → (Addr → Prop) → List Addr → List (Option Addr) → L2.St → Hp → W → Prop}
theorem nextO {t : TO} {f : Option Int → M α} {Q' : Option Int → Hp → Prop} (g : Go E Fo Tm ι ω σ0 H st T ι1 ω1 σ H1 st1) (hh : Fut E Wx Sg Fo Tm ι ω σ0 H st ((evO C t >>= f) st1) G) (hS : Sg σ)
    (k : ∀ b T2 ι2 ω2 H2 st2, Go E Fo (orP T Tm) ι1 ω1 σ H1 st1 T2 ι2 ω2 σ H2 st2 → Go E Fo Tm ι ω σ0 H st (orP T2 T) ι2 ω2 σ H2 st2 → Fut E Wx Sg Fo Tm ι ω σ0 H st (f b st2) G → Q' b H2) :
    tOb C E Wx t σ H1 Q' := by
  refine ⟨Fo, orP T Tm, ι1, ω1, st1, g.rel, ((hh.bind0 (Sg' := (· = σ)) fun s e => e ▸ hS).step g).mono ?_⟩
  intro h T2 ι2 ω2 σ2 H2 st2 e g2 hf
  subst e
  exact k h T2 ι2 ω2 H2 st2 g2 (g.trans g2) hf
end
section
variable {X : Cx} {C : Cfg} {E : Env} {Wx : WX} {c : SC} {a b e1 e2 : Expr} {es : List Expr} {ta tb tc : TE} {tl : TL} {pos : Pos}
theorem s_sli (g : Good X C E Wx c) {lo hi : Option Expr} {tlo thi : TO} {p2 : Pos} (ha : PE X a (tE C E Wx ta)) (hl : PO X lo (tOb C E Wx tlo)) (hh' : PO X hi (tOb C E Wx thi)) : PE X (.Subscript a (.Slice lo hi none p2) pos) (tE C E Wx (.sli ta tlo thi)) := by
  refine (pe_slice (sli_ok g.env) ha hl hh').imp fun σ H Q ⟨Fo, Tm, ι, ω, st, R, hh⟩ => ?_
  refine nextE1 R hh rfl fun h x T2 ι2 ω2 H2 st2 g2 q2 hh => ?_
  refine nextO g2 hh rfl fun i T3 ι3 ω3 H3 st3 g3' g3 hh => ?_
  refine nextO g3 hh rfl fun j T4 ι4 ω4 H4 st4 g4' g4 hh => ?_
  have q3 := q2.keep g3'.kp fun a z => g3'.same a (.inr (.inl z))
  rw [← orP_assoc] at q3
  have q4 := q3.keep g4'.kp fun a z => g4'.same a (.inr (.inl (.inr z)))
  obtain ⟨dx, px, hh⟩ := Fut.peek g4'.rel q4 hh
  obtain ⟨r, er, an⟩ := Fut.ans g4 hh
  rw [← orP_assoc] at px
  exact ⟨Fo, Tm, ι4, ω4, σ, st4, dx, r, g4.rel0, px.dr, er, an⟩
theorem s_chain (g : Good X C E Wx c) {o p : CmpOp} {d : Expr} (hm : lastMarks [o, p] [b, d] = false) (ha : PE X a (tE C E Wx ta)) (hb : PE X b (tE C E Wx tb)) (hd : PE X d (tE C E Wx tc)) :
    PE X (.Compare a [o, p] [b, d] pos) (tE C E Wx (.chain (copOf o) (copOf p) ta tb tc)) := by
  have ho := cmp_ok (X := X) g.env g.hu (copOf o)
  have ho' := cmp_ok (X := X) g.env g.hu (copOf p)
  rw [copP_of] at ho ho'
  refine (pe_chain ho ho' ha hb hd hm).imp fun σ H Q ⟨Fo, Tm, ι, ω, st, R, hh⟩ => ?_
  refine next2E R hh rfl fun h x h' y T2 T3 ι3 ω3 H3 st3 g3 q2 q3 R3 hh => ?_
  obtain ⟨dx, px, hh⟩ := Fut.peek R3 q2 hh
  obtain ⟨dy, py, hh⟩ := Fut.peek R3 q3 hh
  obtain ⟨r, er, hh⟩ := hh.lift
  refine ⟨Fo, Tm, ι3, ω3, σ, st3, dx, dy, r, g3.rel0, px.dr.dr, py.dr.dr, er, r, rfl, ?_⟩
  cases r with
  | false => exact (Fut.pans g3 hh).bl g3.rel0
  | true =>
    refine nextE g3 hh rfl fun h4 z T4 ι4 ω4 H4 st4 g4' g4 q4 hh => ?_
    rw [orP_assoc] at g4'
    have q3' := q3.keep g4'.kp fun a z => g4'.same a (.inr (.inl z))
    obtain ⟨dy', py', hh⟩ := Fut.peek g4'.rel q3' hh
    rw [orP_assoc] at q4
    obtain ⟨dz, pz, hh⟩ := Fut.peek g4'.rel q4 hh
    obtain ⟨r2, er2, hh⟩ := hh.lift
    exact ⟨Fo, Tm, ι4, ω4, σ, st4, dy', dz, r2, g4.rel0, py'.dr.dr.dr, pz.dr.dr.dr, er2, (Fut.pans g4 hh).bl g4.rel0⟩
/-- a op1 b op2 c op3 d -/
def tChain3 (r r' r'' : R2) (ta tb tc td : L2.TE) : L2.TE := fun σ H Q => ta σ H fun x H1 => tb σ H1 fun y H2 => r x y H2 fun z H3 => ∃ k, z = .bl k ∧
  (if k = true then tc σ H3 fun w' H4 => r' y w' H4 fun z' H5 => ∃ k', z' = .bl k' ∧ (if k' = true then td σ H5 fun u' H6 => r'' w' u' H6 Q else Q (.bl false) H5) else Q (.bl false) H3)
theorem pe_chain3 {op op' op'' : CmpOp} {r r' r'' : R2} {a b c d : Expr} {ta tb tc td : L2.TE} (ho : OpR X (compareOp op) r) (ho' : OpR X (compareOp op') r') (ho'' : OpR X (compareOp op'') r'') (ha : PE X a ta) (hb : PE X b tb) (hc : PE X c tc) (hd : PE X d td)
    (hm : lastMarks [op, op', op''] [b, c, d] = false) : PE X (.Compare a [op, op', op''] [b, c, d] pos) (tChain3 r r' r'' ta tb tc td) := by
  refine ⟨fun pins s σ H Q I h => ?_⟩
  refine Compare_chain (thn (ha.run pins s σ H _ I h) fun v s1 ⟨x, H1, I1, r1, q1⟩ => chain_link (thn (hb.run pins s1 σ H1 _ I1 q1) fun u s2 ⟨y, H2, I2, r2, q2⟩ =>
    thn (ho pins s2 σ H2 x y v u _ I2 r1 r2 q2) fun d s3 ⟨z, H3, I3, r3, k, e, q3⟩ => ?_)) hm
  subst e
  cases r3
  refine wpAny_truthy_bool ?_
  cases k with
  | false => exact ite_ff ⟨.bl false, H3, I3, rfl, q3⟩
  | true =>
    refine ite_tt (chain_link (thn (hc.run pins s3 σ H3 _ I3 q3) fun w' s4 ⟨z', H4, I4, r4, q4⟩ => thn (ho' pins s4 σ H4 y z' u w' _ I4 r2 r4 q4) fun d' s5 ⟨z2, H5, I5, r5, k2, e2, q5⟩ => ?_))
    subst e2
    cases r5
    refine wpAny_truthy_bool ?_
    cases k2 with
    | false => exact ite_ff ⟨.bl false, H5, I5, rfl, q5⟩
    | true => exact ite_tt (chain_last (thn (hd.run pins s5 σ H5 _ I5 q5) fun w2 s6 ⟨z3, H6, I6, r6, q6⟩ => ho'' pins s6 σ H6 z' z3 w' w2 Q I6 r4 r6 q6))
theorem pt_chain3 {op op' op'' : CmpOp} {r r' r'' : R2} {a b c d : Expr} {ta tb tc td : L2.TE} (ho : OpR X (compareOp op) r) (ho' : OpR X (compareOp op') r') (ho'' : OpR X (compareOp op'') r'') (ha : PE X a ta) (hb : PE X b tb) (hc : PE X c tc) (hd : PE X d td)
    (hm : lastMarks [op, op', op''] [b, c, d] = false) : PT X (.Compare a [op, op', op''] [b, c, d] pos) (tTest (tChain3 r r' r'' ta tb tc td)) := by
  refine ⟨fun pins s σ H Q I h => ?_⟩
  refine isTrue_chain (thn (ha.run pins s σ H _ I h) fun v s1 ⟨x, H1, I1, r1, q1⟩ => test_link (thn (hb.run pins s1 σ H1 _ I1 q1) fun u s2 ⟨y, H2, I2, r2, q2⟩ =>
    thn (ho pins s2 σ H2 x y v u _ I2 r1 r2 q2) fun d s3 ⟨z, H3, I3, r3, k, e, q3⟩ => ?_)) hm
  subst e
  cases r3
  refine wpAny_truthy_bool ?_
  cases k with
  | false =>
    obtain ⟨k', e', q'⟩ := q3
    cases e'
    exact ite_ff ⟨H3, I3, q'⟩
  | true =>
    refine ite_tt (test_link (thn (hc.run pins s3 σ H3 _ I3 q3) fun w' s4 ⟨z', H4, I4, r4, q4⟩ => thn (ho' pins s4 σ H4 y z' u w' _ I4 r2 r4 q4) fun d' s5 ⟨z2, H5, I5, r5, k2, e2, q5⟩ => ?_))
    subst e2
    cases r5
    refine wpAny_truthy_bool ?_
    cases k2 with
    | false =>
      obtain ⟨k', e', q'⟩ := q5
      cases e'
      exact ite_ff ⟨H5, I5, q'⟩
    | true =>
      refine ite_tt (test_last (thn (hd.run pins s5 σ H5 _ I5 q5) fun w2 s6 ⟨z3, H6, I6, r6, q6⟩ => thn (ho'' pins s6 σ H6 z' z3 w' w2 _ I6 r4 r6 q6) fun d' s7 ⟨z4, H7, I7, r7, k4, e4, q7⟩ => ?_))
      subst e4
      cases r7
      exact wpAny_truthy_bool ⟨H7, I7, q7⟩
theorem s_chain3 (g : Good X C E Wx c) {o p q : CmpOp} {d f : Expr} {tf : TE} (hm : lastMarks [o, p, q] [b, d, f] = false) (ha : PE X a (tE C E Wx ta)) (hb : PE X b (tE C E Wx tb)) (hd : PE X d (tE C E Wx tc)) (hf : PE X f (tE C E Wx tf)) :
    PE X (.Compare a [o, p, q] [b, d, f] pos) (tE C E Wx (.chain3 (copOf o) (copOf p) (copOf q) ta tb tc tf)) := by
  have ho := cmp_ok (X := X) g.env g.hu (copOf o)
  have ho' := cmp_ok (X := X) g.env g.hu (copOf p)
  have ho'' := cmp_ok (X := X) g.env g.hu (copOf q)
  rw [copP_of] at ho ho' ho''
  refine (pe_chain3 ho ho' ho'' ha hb hd hf hm).imp fun σ H Q ⟨Fo, Tm, ι, ω, st, R, hh⟩ => ?_
  refine next2E R hh rfl fun h x h' y T2 T3 ι3 ω3 H3 st3 g3 q2 q3 R3 hh => ?_
  obtain ⟨dx, px, hh⟩ := Fut.peek R3 q2 hh
  obtain ⟨dy, py, hh⟩ := Fut.peek R3 q3 hh
  obtain ⟨r, er, hh⟩ := hh.lift
  refine ⟨Fo, Tm, ι3, ω3, σ, st3, dx, dy, r, g3.rel0, px.dr.dr, py.dr.dr, er, r, rfl, ?_⟩
  cases r with
  | false => exact (Fut.pans g3 hh).bl g3.rel0
  | true =>
    refine nextE g3 hh rfl fun h4 z T4 ι4 ω4 H4 st4 g4' g4 q4 hh => ?_
    rw [orP_assoc] at g4'
    have q3' := q3.keep g4'.kp fun a z => g4'.same a (.inr (.inl z))
    obtain ⟨dy', py', hh⟩ := Fut.peek g4'.rel q3' hh
    rw [orP_assoc] at q4
    obtain ⟨dz, pz, hh⟩ := Fut.peek g4'.rel q4 hh
    obtain ⟨r2, er2, hh⟩ := hh.lift
    refine ⟨Fo, Tm, ι4, ω4, σ, st4, dy', dz, r2, g4.rel0, py'.dr.dr.dr, pz.dr.dr.dr, er2, r2, rfl, ?_⟩
    cases r2 with
    | false => exact (Fut.pans g4 hh).bl g4.rel0
    | true =>
      refine nextE g4 hh rfl fun h5 u T5 ι5 ω5 H5 st5 g5' g5 q5 hh => ?_
      rw [orP_assoc, orP_assoc] at g5'
      have q4' := q4.keep g5'.kp fun a z => g5'.same a (.inr (.inl z))
      obtain ⟨dz', pz', hh⟩ := Fut.peek g5'.rel q4' hh
      rw [orP_assoc, orP_assoc] at q5
      obtain ⟨du, pu, hh⟩ := Fut.peek g5'.rel q5 hh
      obtain ⟨r3, er3, hh⟩ := hh.lift
      exact ⟨Fo, Tm, ι5, ω5, σ, st5, dz', du, r3, g5.rel0, pz'.dr.dr.dr.dr, pu.dr.dr.dr.dr, er3, (Fut.pans g5 hh).bl g5.rel0⟩
end
end EV

set_option autoImplicit false
set_option linter.all false
set_option maxRecDepth 10000
namespace EV
open PySem L2 PyProof.Rows

section
variable {E : Env} {Wx : WX} {Sg : L2.St → Prop} {Fo Tm T T1 T2 : Addr → Prop} {ι ι1 ι2 : List Addr} {ω ω1 ω2 : List (Option Addr)} {σ0 σ : L2.St} {H H1 H2 : Hp} {st st1 st2 : W} {α : Type} {C : Cfg} {te : TE} {tl : TL} {Q : VK} {F F' : Addr → Prop}
  {G : α → (Addr → Prop) → List Addr → List (Option Addr) → L2.St → Hp → W → Prop}
/-- a new object of our own is changed -/
theorem Go.chgT {a : Addr} {u o : HO} (g : Go E Fo Tm ι ω σ0 H st T ι1 ω1 σ H1 st1) (ta : T a) (ha : H1 a = some u) (hu : notTup u) (ho : notTup o) : Go E Fo Tm ι ω σ0 H st T ι1 ω1 σ (upd H1 a o) st1 := by
  have R := g.rel
  have nι : a ∉ ι1 := R.tι a (.inl ta)
  have nω := R.tω a (.inl ta)
  have nF : ¬ Fo a := fun z => R.oT a z (.inl ta)
  obtain ⟨R', k⟩ := R.change (o := o) (st' := st1) ha hu ho (.inr (.inl (.inl ta))) nF (fun n c' e => .inl ⟨e, fun z => nι (List.mem_of_getElem? z)⟩) rfl (fun i s e => .inl ⟨e, nω i⟩) rfl
  refine g.next g.nT R' k (fun b z => upd_ne fun e => ?_) fun i d e => ⟨rfl, rfl, rfl, fun b z => upd_ne fun e => nω i (e ▸ z)⟩
  subst e
  exact z.elim nF fun z => g.nT _ ta z
/-- a display's pairs, as terms -/
def pairsT (C : Cfg) (E : Env) (Wx : WX) : TL → List (L2.TE × L2.TE)
  | .cons a (.cons b l) => (tE C E Wx a, tE C E Wx b) :: pairsT C E Wx l
  | _ => []
theorem nextP : ∀ {tl : TL} {T : Addr → Prop} {ι1 : List Addr} {ω1 : List (Option Addr)} {H1 : Hp} {st1 : W} {f : List D × List D → M α} {Q' : List (V × V) → Hp → Prop} (g : Go E Fo Tm ι ω σ0 H st T ι1 ω1 σ H1 st1) (hh : Fut E Wx Sg Fo Tm ι ω σ0 H st ((evP C tl >>= f) st1) G) (hS : Sg σ)
    (k : ∀ r ps T2 ι2 ω2 H2 st2, Go E Fo (orP T Tm) ι1 ω1 σ H1 st1 T2 ι2 ω2 σ H2 st2 → Go E Fo Tm ι ω σ0 H st (orP T2 T) ι2 ω2 σ H2 st2 → IsL E H2 (FF Fo (orP T2 (orP T Tm)) ι2 ω2) ι2 r.1 (ps.map (·.1)) → IsL E H2 (FF Fo (orP T2 (orP T Tm)) ι2 ω2) ι2 r.2 (ps.map (·.2)) →
      Fut E Wx Sg Fo Tm ι ω σ0 H st (f r st2) G → Q' ps H2), tPairs (pairsT C E Wx tl) σ H1 Q'
  | .nil, T, ι1, ω1, H1, st1, f, Q', g, hh, hS, k => by
    have g0 : Go E Fo (orP T Tm) ι1 ω1 σ H1 st1 noP ι1 ω1 σ H1 st1 := Go.refl g.rel
    exact k ([], []) [] noP ι1 ω1 H1 st1 g0 (g.trans g0) rfl rfl hh
  | .cons a .nil, T, ι1, ω1, H1, st1, f, Q', g, hh, hS, k => hh.elim
  | .cons a (.cons b l), T, ι1, ω1, H1, st1, f, Q', g, hh, hS, k => by
    have hh : Fut E Wx Sg Fo Tm ι ω σ0 H st ((evE C a >>= fun h => EV.esc h >>= fun h => evE C b >>= fun k => (match h.1 with
      | .str x => if C.mode (tagS 35 x) 0 = .ref then EV.toCell k else EV.esc k
      | _ => EV.esc k) >>= fun k => evP C l >>= fun r => f (h.1 :: r.1, k.1 :: r.2)) st1) G := by
      have e : (evP C (.cons a (.cons b l)) >>= f) = (evE C a >>= fun h => EV.esc h >>= fun h => evE C b >>= fun k => (match h.1 with
        | .str x => if C.mode (tagS 35 x) 0 = .ref then EV.toCell k else EV.esc k
        | _ => EV.esc k) >>= fun k => evP C l >>= fun r => f (h.1 :: r.1, k.1 :: r.2)) := by
        show ((evE C a >>= fun h => EV.esc h >>= fun h => evE C b >>= fun k => (match h.1 with
          | .str x => if C.mode (tagS 35 x) 0 = .ref then EV.toCell k else EV.esc k
          | _ => EV.esc k) >>= fun k => evP C l >>= fun r => (M.pure (h.1 :: r.1, k.1 :: r.2) : M (List D × List D))) >>= f) = _
        simp only [M_assoc, M_pure]
      rw [e] at hh
      exact hh
    show tE C E Wx a σ H1 fun x H2 => tE C E Wx b σ H2 fun y H3 => tPairs (pairsT C E Wx l) σ H3 fun ps H4 => Q' ((x, y) :: ps) H4
    refine nextE g hh hS fun h x T2 ι2 ω2 H2 st2 g2' g2 q2 hh => ?_
    obtain ⟨h', st3, e, hh⟩ := hh.op (esc_nx h st2)
    obtain ⟨ω3, g3', is⟩ := g2'.esc q2 e
    have g3 := g.trans g3'
    rw [orP_no2] at g3
    refine nextE g3 hh hS fun h4 y T4 ι4 ω4 H4 st4 g4' g4 q4 hh => ?_
    have cell : ∃ ι5 ω5 st5, ∃ h5 : Hd, Go E Fo (orP T Tm) ι2 ω3 σ H2 st3 noP ι5 ω5 σ H4 st5 ∧ Is E H4 (FF Fo (orP T Tm) ι5 ω5) ι5 h5.1 y ∧ Fut E Wx Sg Fo Tm ι ω σ0 H st ((evP C l >>= fun r => f (h'.1 :: r.1, h5.1 :: r.2)) st5) G := by
      have esc' : Fut E Wx Sg Fo Tm ι ω σ0 H st ((EV.esc h4 >>= fun k => evP C l >>= fun r => f (h'.1 :: r.1, k.1 :: r.2)) st4) G → ∃ ι5 ω5 st5, ∃ h5 : Hd, Go E Fo (orP T Tm) ι2 ω3 σ H2 st3 noP ι5 ω5 σ H4 st5 ∧ Is E H4 (FF Fo (orP T Tm) ι5 ω5) ι5 h5.1 y ∧ Fut E Wx Sg Fo Tm ι ω σ0 H st ((evP C l >>= fun r => f (h'.1 :: r.1, h5.1 :: r.2)) st5) G := fun hh => by
        obtain ⟨h5, st5, e5, hh⟩ := hh.op (esc_nx h4 st4)
        obtain ⟨ω5, g5, is5⟩ := g4'.esc q4 e5
        exact ⟨ι4, ω5, st5, h5, g5, is5, hh⟩
      split at hh
      · split at hh
        · obtain ⟨h5, st5, e5, hh⟩ := hh.op (toCell_nx h4 st4)
          obtain ⟨ι5, ω5, g5, is5, _⟩ := g4'.cell q4 e5
          exact ⟨ι5, ω5, st5, h5, g5, is5, hh⟩
        · exact esc' hh
      · exact esc' hh
    obtain ⟨ι5, ω5, st5, h5, g5', is5, hh⟩ := cell
    have g5 := g3.trans g5'
    rw [orP_no2] at g5
    refine nextP g5 hh hS fun r ps T6 ι6 ω6 H6 st6 g6' g6 l1 l2 hh => ?_
    have gg := (g3'.trans (T' := noP) (by rw [orP_no]; exact g5')).trans (T' := T6) (by rw [orP_no2, orP_no]; exact g6')
    rw [orP_no2, orP_no'] at gg
    refine k (h'.1 :: r.1, h5.1 :: r.2) ((x, y) :: ps) T6 ι6 ω6 H6 st6 gg g6 ⟨x, _, rfl, ?_, l1⟩ ⟨y, _, rfl, g6'.kp.is is5, l2⟩ hh
    have k5 := g5'.kp
    rw [orP_no] at k5
    exact g6'.kp.is (k5.is is)
theorem putAll_ok : ∀ {kvs : List (Key × V)} {ms : List D} {kv0 : List (Key × V)} {vs0 : List D}, IsL E H F ι vs0 (kv0.map (·.2)) → IsL E H F ι ms (kvs.map (·.2)) →
    (putAll (kv0.map fun p => keyD p.1) vs0 (kvs.map fun p => keyD p.1) ms).1 = (mergeK kv0 kvs).map (fun p => keyD p.1) ∧ IsL E H F ι (putAll (kv0.map fun p => keyD p.1) vs0 (kvs.map fun p => keyD p.1) ms).2 ((mergeK kv0 kvs).map (·.2))
  | [], ms, kv0, vs0, h, hm => by
    rw [show ms = [] from by cases ms with | nil => rfl | cons a b => (have := IsL.length hm; simp at this)]
    exact ⟨rfl, h⟩
  | p :: r, [], kv0, vs0, h, hm => by
    have := hm.length
    simp at this
  | p :: r, m :: ms, kv0, vs0, h, ⟨x, q, ex, h1, h2⟩ => by
    obtain ⟨e1, e2⟩ : p.2 = x ∧ r.map (·.2) = q := List.cons.inj ex
    subst e1 e2
    obtain ⟨a1, a2⟩ := put_key (k := p.1) h h1
    have ih := putAll_ok (kvs := r) (ms := ms) (kv0 := putK kv0 p.1 p.2) (vs0 := (putKey (kv0.map fun p => keyD p.1) vs0 (keyD p.1) m).2) a2 h2
    show (putAll (putKey (kv0.map fun p => keyD p.1) vs0 (keyD p.1) m).1 _ _ ms).1 = _ ∧ IsL E H F ι (putAll (putKey (kv0.map fun p => keyD p.1) vs0 (keyD p.1) m).1 _ _ ms).2 _
    rw [a1]
    exact ih
theorem keys_of : ∀ {ks : List D} {ps : List (V × V)}, ks.all D.fk = true → IsL E H F ι ks (ps.map (·.1)) → ∃ kvs : List (Key × V), ps = kvs.map (fun kv => (kV kv.1, kv.2)) ∧ ks = kvs.map (fun p => keyD p.1)
  | [], ps, _, h => by
    cases ps with
    | nil => exact ⟨[], rfl, rfl⟩
    | cons p r => have := IsL.length h; simp at this
  | k :: ks, [], _, h => by have := h.length; simp at this
  | k :: ks, p :: r, c, ⟨x, q, ex, h1, h2⟩ => by
    obtain ⟨e1, e2⟩ : p.1 = x ∧ r.map (·.1) = q := List.cons.inj ex
    subst e1 e2
    rw [List.all_cons, Bool.and_eq_true] at c
    obtain ⟨z, ez, ev⟩ := fk_key c.1 h1.pk
    obtain ⟨kvs, e3, e4⟩ := keys_of c.2 h2
    refine ⟨(z, p.2) :: kvs, ?_, ?_⟩
    · rw [e3]
      show p :: _ = (kV z, p.2) :: _
      rw [← ev]
    · rw [e4, ez]
      rfl
end
section
variable {X : Cx} {C : Cfg} {E : Env} {Wx : WX} {c : SC} {a b e1 e2 : Expr} {es : List Expr} {ta tb tc : TE} {tl : TL} {pos : Pos}
theorem s_dic0 : PE X (.Dict [] [] pos) (tE C E Wx (.dic .nil)) := pe_dnewK.imp fun σ H Q ⟨Fo, Tm, ι, ω, st, R, hh⟩ p hp => by
  have hh : Fut E Wx (· = σ) Fo Tm ι ω σ H st ((M.pure (.dic [] [], true) : M Hd) st) (GE E Fo Tm σ Q) := hh
  exact (Fut.pans (Go.refl R) hh).dic (kvs := []) R rfl rfl hp
theorem s_dic {keys : List (Option Expr)} {values : List Expr} (h : PPs X pos keys values (pairsT C E Wx tl)) (hall : keys.all (·.isSome) = true) (hl : keys.length = values.length) (h0 : keys ≠ []) (h15 : keys.length ≤ 15) :
    PE X (.Dict keys values pos) (tE C E Wx (.dic tl)) := by
  refine (pe_disp h hall hl h0 h15).imp fun σ H Q ⟨Fo, Tm, ι, ω, st, R, hh⟩ p hp => ?_
  have g0 : Go E Fo Tm ι ω σ H st (fun a => a = p) ι ω σ (upd H p (.dK [])) st := Go.laid R hp trivial
  refine nextP g0 hh rfl fun r ps T2 ι2 ω2 H2 st2 g2' g2 l1 l2 hh => ?_
  have hp2 : H2 p = some (.dK []) := (g2'.same p (.inr (.inl rfl))).trans upd_same
  split at hh
  · rename_i cc
    rw [Bool.and_eq_true, decide_eq_true_eq] at cc
    obtain ⟨kvs, e1, e2⟩ := keys_of cc.1 l1
    refine ⟨hp2, kvs, e1, ?_, ?_⟩
    · have := congrArg List.length e2
      rw [List.length_map] at this
      omega
    · have g3 := (g2.less (T1 := fun a => a = p) fun a z => .inr z).chgT (o := .dK (mergeK [] kvs)) rfl hp2 trivial trivial
      have g4 : Go E Fo Tm ι ω σ H st (orP T2 fun a => a = p) ι2 ω2 σ (upd H2 p (.dK (mergeK [] kvs))) st2 := g2.chgT (.inr rfl) hp2 trivial trivial
      have l3 : IsL E H2 (FF Fo (orP T2 (orP (fun a => a = p) Tm)) ι2 ω2) ι2 r.2 (kvs.map (·.2)) := by
        have : ps.map (·.2) = kvs.map (·.2) := by rw [e1, List.map_map]; rfl
        rw [← this]
        exact l2
      obtain ⟨m1, m2⟩ := putAll_ok (kv0 := []) (vs0 := []) (E := E) (H := H2) (F := FF Fo (orP T2 (orP (fun a => a = p) Tm)) ι2 ω2) (ι := ι2) rfl l3
      have k1 : Kp E H2 (FF Fo (orP T2 (orP (fun a => a = p) Tm)) ι2 ω2) ι2 (upd H2 p (.dK (mergeK [] kvs))) (FF Fo (orP T2 (orP (fun a => a = p) Tm)) ι2 ω2) ι2 := Kp.upd hp2 trivial (.inr (.inl (.inr (.inl rfl))))
      have k2 : Kp E (upd H2 p (.dK (mergeK [] kvs))) (FF Fo (orP T2 (orP (fun a => a = p) Tm)) ι2 ω2) ι2 (upd H2 p (.dK (mergeK [] kvs))) (FF Fo (orP (fun a => a = p) Tm) ι2 ω2) ι2 := Kp.less fun a z => FF.less (fun _ z => .inr z) z
      refine hh.pure_use rfl g3 (.ref p) ?_
      rw [Hk.gen (fun i z => by cases z), if_pos ⟨rfl, rfl⟩]
      refine ⟨p, fun b => Iff.rfl, rfl, mergeK [] kvs, upd_same, ?_, (k1.trans k2).isL ?_⟩
      · rw [e2]; exact m1
      · rw [e2]; exact m2
  · exact hh.elim
/-- no call without arguments -/
def noCall0 : Expr → Bool
  | .Call _ [] [] _ => false
  | _ => true
theorem base_of {env : PySem.Env} {f : Str} (h : noCall0 a = true) : attributeBase a f env (eval a env) = eval a env := by
  cases a with
  | Call g args kws p =>
    cases args with
    | nil =>
      cases kws with
      | nil => cases h
      | cons _ _ => cases g <;> rfl
    | cons _ _ => cases g <;> rfl
  | _ => rfl
end
/-- what a class gives -/
structure FldOk (E : Env) (X : Cx) (flds : Str → Str → Bool) : Prop where
  get : ∀ c C f, E.cls c = some C → flds c f = true → Cls X.K C ∧ NoAttr X.K C f
  xf : ∀ cs C f, E.xc cs = some C → flds (cs.headD Str.empty) f = true → XfC X.K C ∧ PySem.W.findIn X.K (.ref C) f = some none
/-- e.f, of an object of an own class or of an exception -/
def tFldX (K : PySem.W.Frag) (ta : L2.TE) (f : Str) : L2.TE := fun σ H Q => ta σ H fun x H1 =>
  (∃ (a C dx : Addr) (fs : List (Str × V)) (v : V), x = .ref a ∧ H1 a = some (.ins C dx fs) ∧ Cls K C ∧ NoAttr K C f ∧ fs.lookup f = some v ∧ Q v H1) ∨
  (∃ (a C dd : Addr) (fs : List (Str × V)) (v : V), x = .ref a ∧ H1 a = some (exv a C (some dd)) ∧ H1 dd = some (.xd fs) ∧ fs.lookup f = some v ∧ XfC K C ∧ PySem.W.findIn K (.ref C) f = some none ∧ Q v H1)
theorem pe_fldX {X : Cx} {e : Expr} {ta : L2.TE} {f : Str} {pos : Pos} (he : PE X e ta) (hb : attributeBase e f X.env (eval e X.env) = eval e X.env) : PE X (.Attribute e f pos) (tFldX X.K ta f) := by
  refine ⟨fun pins s σ H Q I h => ?_⟩
  refine attr_of hb (thn (he.run pins s σ H _ I h) fun u s1 ⟨x, H1, I1, rx, q⟩ => ?_)
  rcases q with ⟨a, C, dx, fs, v, ex, ea, c, n, l, q⟩ | ⟨a, C, dd, fs, v, ex, ea, ed, l, T, hno, q⟩
  · subst ex
    obtain rfl : u = Value.ref a := rx
    exact getattr_ok I1 ea c n l fun u' s2 I2 ru => ⟨v, H1, I2, ru, q⟩
  · subst ex
    obtain rfl : u = Value.ref a := rx
    obtain ⟨⟨oe, fv, hget, hz, hv⟩, _⟩ := I1.hok a _ ea
    have hx : ObjOk X.prog X.w H1 s1.heap dd (.xd fs) := I1.hok dd _ ed
    obtain ⟨mA, hns, hr⟩ := hx
    obtain ⟨od, ho, hl⟩ := lookIn_ns hns
    obtain ⟨u, hu, ru⟩ := RelO.some_of (v := v) (o := mA f) (by rw [← l]; exact hr f)
    have J : PySem.W.InstAt s1.heap a oe C (some od) := ⟨hget, hz.1, by unfold PySem.W.notCls; rw [hv] <;> rfl, by rw [hz.2]; exact ho⟩
    exact HandSPX.exc_get I1.kIn J T.ga T.gg T.exC (PySem.W.findObj_own T.hdC hno rfl (by rw [hl, hu])) (handed_of ru) ⟨v, H1, I1.tok _, ru, q⟩
section
variable {X : Cx} {C : Cfg} {E : Env} {Wx : WX} {c : SC} {a b e1 e2 : Expr} {es : List Expr} {ta tb tc : TE} {tl : TL} {pos : Pos} {H : Hp} {F : Addr → Prop} {ι : List Addr}
theorem lookup_zip : ∀ {fs : List Str} {vs : List D} {xs : List V} {f : Str} {d : D}, fs.length = xs.length → IsL E H F ι vs xs → (fs.zip vs).lookup f = some d → ∃ v, (fs.zip xs).lookup f = some v ∧ Is E H F ι d v
  | [], _, _, f, d, _, _, e => by cases e
  | g :: fs, [], xs, f, d, hl, h, e => by cases e
  | g :: fs, w :: vs, xs, f, d, hl, ⟨x, r, ex, h1, h2⟩, e => by
    subst ex
    have e : (match f == g with | true => some w | false => (fs.zip vs).lookup f) = some d := e
    show ∃ v, (match f == g with | true => some x | false => (fs.zip r).lookup f) = some v ∧ Is E H F ι d v
    cases hb : f == g with
    | true => rw [hb] at e; cases e; exact ⟨x, rfl, h1⟩
    | false => rw [hb] at e; exact lookup_zip (by simpa using hl) h2 e
theorem s_fld (fo : FldOk E X C.flds) {f : Str} (hn : noCall0 a = true) (ha : PE X a (tE C E Wx ta)) : PE X (.Attribute a f pos) (tE C E Wx (.fld ta f)) := by
  refine (pe_fldX ha (base_of hn)).imp fun σ H Q ⟨Fo, Tm, ι, ω, st, R, hh⟩ => ?_
  refine nextE1 R hh rfl fun h x T2 ι2 ω2 H2 st2 g2 q2 hh => ?_
  obtain ⟨d, pd, hh⟩ := Fut.peek g2.rel q2 hh
  obtain ⟨r, er, hf⟩ := hh.lift
  cases d with
  | ins cn fs vs =>
    obtain ⟨p, D, dx, xs, rfl, hp, hc, hl, l⟩ := pd
    have er : (if C.flds cn f = true then (fs.zip vs).lookup f else none) = some r := er
    split at er
    · rename_i cc
      obtain ⟨k1, k2⟩ := fo.get cn D f hc cc
      obtain ⟨v, e1, e2⟩ := lookup_zip hl l er
      exact .inl ⟨p, D, dx, _, v, rfl, hp, k1, k2, e1, (Fut.pans g2 hf).val g2.rel0 e2.dr (.inl rfl)⟩
    · cases er
  | exn cs fs vs =>
    obtain ⟨p, D, dd, rfl, hp, hc, q⟩ := (show Is E H2 _ ι2 (.exn cs fs vs) x from pd)
    have er : (if C.flds (cs.headD Str.empty) f = true then (fs.zip vs).lookup f else none) = some r := er
    split at er
    · rename_i cc
      obtain ⟨k1, k2⟩ := fo.xf cs D f hc cc
      rcases q with ⟨rfl, rfl, _⟩ | ⟨_, dx, xs, rfl, hx, hl, l⟩
      · cases er
      · obtain ⟨v, e1, e2⟩ := lookup_zip hl l er
        exact .inr ⟨p, D, dx, _, v, rfl, hp, hx, e1, k1, k2, (Fut.pans g2 hf).val g2.rel0 e2.dr (.inl rfl)⟩
    · cases er
  | _ => cases er
end
end EV

set_option autoImplicit false
set_option linter.all false
set_option maxRecDepth 10000
namespace EV
open PySem L2 PyProof.Rows PySem.Spec
section
variable {prog : Program} {w : World} {A : Around} {E : Value → Shared → Prop} {s : Shared}
theorem wpAny_extend_rev {R : Result → Shared → Prop} {it l : Addr} {items : Array Value} (hh : A.handled = none) (hit : s.heap.IsRevIter it l ((items.size : Int) - 1)) (hl : s.heap.IsList l items) (hne : l ≠ it) (hn : items.size ≤ sizeLine)
    (S : Addr) (res : Value) (c₀ : Nat) (hS : s.heap.get? S = some { cls := .type "list", data := .seq #[] c₀ }) (hSi : S ≠ it) (hSl : S ≠ l)
    (hR : ∀ h' tk acc' c', (∀ b o, b ≠ S → b ≠ it → s.heap.get? b = some o → h'.get? b = some o) → h'.get? S = some { cls := .type "list", dict := none, data := .seq acc' c', slots := #[] } →
      ItemsOf (fun i v => items[items.size - 1 - i]? = some v) acc' items.size → R (.ok (.ret res)) { s with heap := h', toks := tk }) :
    wpAny (model prog w) A.in1 (Builtin.List.listExtendWith (.ref S) (.ref it) res)
      (fun fin s' => match fin with | .done f => R (.ok f) s' | .again c' => c'.quiet = true ∧ codeAny (model prog w) A c' R s') (fun e s' => R (.error e) s') s := by
  have W := (Walks.listRev (prog := prog) (w := w) (A := A.in1) hh it l hne items).toS
  have hSf : S ∉ [it, l] := by simp only [List.mem_cons, List.not_mem_nil, or_false, not_or]; exact ⟨hSi, hSl⟩
  have hT : s.TypeIs (.ref it) "list_reverseiterator" := hit.typeIs
  have h1 : Builtin.List.listSameRef (.ref S) (.ref it) = false := by simp [Builtin.List.listSameRef, hSi]
  unfold Builtin.List.listExtendWith
  refine wpAny_bind (wpAny_typeOf hT ?_)
  rw [if_neg (by rw [h1]; decide)]
  refine wpAny_bind (wpAny_pyIter_revIter hit ?_)
  refine wpAny_bind (wpAny_holding ?_)
  unfold Builtin.List.listLengthHint
  refine wpAny_bind (wpAny_specialOf hT RT.nolen_lri ?_)
  show wpAny _ A.in1 (specialOf (Value.ref it) (Str.ofString "__length_hint__") >>= _) _ _ _
  refine wpAny_bind (wpAny_specialOf hT RT.hint_lri ?_)
  generalize hid : ("list_reverseiterator.__length_hint__" : String) = id0
  wp_delta
  rw [show splitId id0 = some ("list_reverseiterator", "__length_hint__") from by subst hid; decide +kernel]
  subst hid
  refine wpAny_bind (wpAny_isInstance (b := true) hT (by rw [isSubtype_type]; kernel_rfl) ?_)
  refine wpAny_pure ?_
  rw [if_neg (by decide)]
  have e0 : ((items.size : Nat) : Int) - 1 - ((0 : Nat) : Int) = (items.size : Int) - 1 := by omega
  refine wpAny_pure ⟨plainId_quiet F.plain_extend_loop _, codeAny_extend_loopS W hn _ hSf _ items.size 0 _ _ _ rfl (Nat.zero_le _) ⟨Nat.zero_le _, by rw [e0]; exact hit, hl⟩ hS (ItemsOf.nil _) fun s' acc' c' hm hS' hacc => ?_⟩
  rw [Moved.eq_with hm]
  refine hR s'.heap s'.toks acc' c' (fun b o hb hb2 e => hm.heap b o (fun hmem => ?_) e) hS' hacc
  rcases List.mem_cons.mp hmem with e' | hmem
  · exact hb e'
  · exact hb2 (List.mem_singleton.mp hmem)
theorem wpAny_list_init_rev {R : Result → Shared → Prop} {it l : Addr} {items : Array Value} (hh : A.handled = none) (hit : s.heap.IsRevIter it l ((items.size : Int) - 1)) (hl : s.heap.IsList l items) (hne : l ≠ it) (hn : items.size ≤ sizeLine)
    (S : Addr) (hS : s.heap.get? S = some { cls := .type "list", data := .seq #[] }) (hSi : S ≠ it) (hSl : S ≠ l)
    (hR : ∀ h' tk acc' c', (∀ b o, b ≠ S → b ≠ it → s.heap.get? b = some o → h'.get? b = some o) → h'.get? S = some { cls := .type "list", dict := none, data := .seq acc' c', slots := #[] } →
      ItemsOf (fun i v => items[items.size - 1 - i]? = some v) acc' items.size → R (.ok (.ret .none)) { s with heap := h', toks := tk }) :
    wpAny (model prog w) A.in1 (Builtin.«list.__init__» ⟨[.ref S, .ref it], []⟩)
      (fun fin s' => match fin with | .done f => R (.ok f) s' | .again c' => c'.quiet = true ∧ codeAny (model prog w) A c' R s') (fun e s' => R (.error e) s') s := by
  show wpAny _ _ (do let old ← Builtin.List.listItems (.ref S); Builtin.List.listUpdate (.ref S) (fun _ => #[]); letGo old.toList.reverse; Builtin.List.listExtendWith (.ref S) (.ref it) .none) _ _ s
  refine wpAny_bind ?_
  unfold Builtin.List.listItems
  refine wpAny_bind (wpAny_seqItems hS rfl (wpAny_pure ?_))
  show wpAny _ _ (updateSeq S (fun _ => #[]) >>= fun _ => letGo (#[] : Array Value).toList.reverse >>= fun _ => Builtin.List.listExtendWith (.ref S) (.ref it) .none) _ _ s
  refine wpAny_bind (wpAny_updateSeq hS rfl ?_)
  have hS₂ := Heap.get?_update_self (Obj.mapSeq (fun _ => (#[] : Array Value))) hS rfl
  have oth : ∀ b o, b ≠ S → s.heap.get? b = some o → (s.heap.update S (Obj.mapSeq (fun _ => (#[] : Array Value)))).get? b = some o :=
    fun b o hb e => (Heap.get?_update_other _ _ (Ne.symm hb)).trans e
  refine wpAny_bind (wpAny_letGo ?_)
  refine wpAny_extend_rev hh (hit.at fun o e => oth _ _ (Ne.symm hSi) e) ?_ hne hn S .none _ hS₂ hSi hSl fun h' tk acc' c' hk hS' hacc => ?_
  · obtain ⟨o, e, r⟩ := hl
    exact ⟨o, oth _ _ (Ne.symm hSl) e, r⟩
  · exact hR h' tk acc' c' (fun b o hb hb2 e => hk b o hb hb2 (oth b o hb e)) hS' hacc
theorem call_list_rev {Q : Value → Shared → Prop} {it l : Addr} {items : Array Value} (hh : A.handled = none) (hit : s.heap.IsRevIter it l ((items.size : Int) - 1)) (hl : s.heap.IsList l items) (hne : l ≠ it) (hn : items.size ≤ sizeLine)
    (hQ : ∀ h' tk acc' c', (∀ b o, b ≠ it → s.heap.get? b = some o → h'.get? b = some o) →
      h'.get? s.heap.objs.size = some { cls := .type "list", dict := none, data := .seq acc' c', slots := #[] } → ItemsOf (fun i v => items[items.size - 1 - i]? = some v) acc' items.size → Q (.ref s.heap.objs.size) { s with heap := h', toks := tk }) :
    wpAny (model prog w) A (call (.type "list") [.ref it]) Q E s := by
  refine callType_codes (Q₁ := fun obj s₁ => obj = .ref s.heap.objs.size ∧ s₁ = { s with heap := s.heap.push { cls := .type "list", data := .seq #[] } }) F.called_list (F.typeCall_list_1 _) F.entry_list_init
    (code_list_new _ ⟨rfl, rfl⟩) fun obj s₁ h₁ => ?_
  obtain ⟨rfl, rfl⟩ := h₁
  have hS : (s.heap.push { cls := .type "list", data := .seq #[] }).get? s.heap.objs.size = some { cls := .type "list", data := .seq #[] } := Heap.get?_push_size _ rfl
  obtain ⟨oi, hoi, _⟩ := id hit
  obtain ⟨ol, hol, _⟩ := id hl
  refine ⟨⟨_, hS, rfl⟩, F.args_list_init_2 _ _, wpAny_list_init_rev (A := A.in1) hh (hit.at fun o e => Heap.get?_push_of_some _ e) (hl.push _) hne hn _ hS (Nat.ne_of_gt (Heap.lt_size hoi)) (Nat.ne_of_gt (Heap.lt_size hol)) fun h' tk acc' c' hk hS' hacc => ?_⟩
  exact ⟨rfl, hQ h' tk acc' c' (fun b o hb e => hk b o (Nat.ne_of_lt (Heap.lt_size e)) hb (Heap.get?_push_of_some _ e)) hS' hacc⟩
end

/-! ### calls of built-ins -/
def PkL (E : Env) (H : Hp) (F : Addr → Prop) (ι : List Addr) : List D → List V → Prop
  | [], xs => xs = []
  | d :: ds, xs => ∃ x r, xs = x :: r ∧ Pk E H F ι d x ∧ PkL E H F ι ds r
section
variable {E : Env} {Wx : WX} {Sg : L2.St → Prop} {Fo Tm T T1 T2 : Addr → Prop} {ι ι1 ι2 : List Addr} {ω ω1 ω2 : List (Option Addr)} {σ0 σ : L2.St} {H H1 H2 : Hp} {st st1 st2 : W} {α : Type} {C : Cfg} {te : TE} {tl : TL} {Q : VK} {F F' : Addr → Prop}
  {G : α → (Addr → Prop) → List Addr → List (Option Addr) → L2.St → Hp → W → Prop}
theorem PkL.less : ∀ {ds : List D} {xs : List V}, PkL E H F ι ds xs → (∀ a, F' a → F a) → PkL E H F' ι ds xs
  | [], _, h, _ => h
  | d :: ds, _, ⟨x, r, e, h1, h2⟩, l => ⟨x, r, e, h1.less l, PkL.less h2 l⟩
theorem PkL.dr {ds : List D} {xs : List V} (p : PkL E H (FF Fo (orP T T1) ι ω) ι ds xs) : PkL E H (FF Fo T1 ι ω) ι ds xs := p.less fun a z => FF.less (fun _ z => .inr z) z
theorem bind_ok {α β : Type} {m : M α} {f : α → M β} {s s' : W} {b : β} (h : (m >>= f) s = .ok b s') : ∃ a s1, m s = .ok a s1 ∧ f a s1 = .ok b s' := by
  have e : (m >>= f) s = (match m s with | .ok a s' => f a s' | .exc x s' => .exc x s' | .stuck => .stuck) := rfl
  rw [e] at h
  cases hm : m s with
  | ok a s1 => rw [hm] at h; exact ⟨a, s1, rfl, h⟩
  | exc x s1 => rw [hm] at h; cases h
  | stuck => rw [hm] at h; cases h
theorem bind_exc {α β : Type} {m : M α} {f : α → M β} {s s' : W} {x : Ex} (h : (m >>= f) s = .exc x s') : m s = .exc x s' ∨ ∃ a s1, m s = .ok a s1 ∧ f a s1 = .exc x s' := by
  have e : (m >>= f) s = (match m s with | .ok a s' => f a s' | .exc x s' => .exc x s' | .stuck => .stuck) := rfl
  rw [e] at h
  cases hm : m s with
  | ok a s1 => rw [hm] at h; exact .inr ⟨a, s1, rfl, h⟩
  | exc x s1 => rw [hm] at h; cases h; exact .inl rfl
  | stuck => rw [hm] at h; cases h
theorem peekL_ok (R : Rel E Fo Tm ι ω σ H st) : ∀ {hs : List Hd} {T : Addr → Prop} {vs : List V} {ds : List D} {st' : W}, HkL E H (FF Fo Tm ι ω) ι σ T hs vs → peekL hs st = .ok ds st' → st' = st ∧ PkL E H (FF Fo Tm ι ω) ι ds vs
  | [], T, vs, ds, st', ⟨e0, _⟩, e => by cases e; subst e0; exact ⟨rfl, rfl⟩
  | h :: hs, T, vs, ds, st', ⟨x, r, T1, T2, ev, s, d, q, l⟩, e => by
    rw [peekL] at e
    obtain ⟨d0, s1, e1, e⟩ := bind_ok e
    obtain ⟨es, pk⟩ := peek_ok R q e1
    rw [es] at e
    obtain ⟨d1, s2, e2, e⟩ := bind_ok e
    obtain ⟨es2, pl⟩ := peekL_ok R l e2
    cases e
    exact ⟨es2, x, r, ev, pk, pl⟩
theorem peekL_nx : ∀ (hs : List Hd) (s : W) (x : Ex) (s' : W), peekL hs s ≠ .exc x s'
  | [], s, x, s', e => by cases e
  | h :: hs, s, x, s', e => by
    rw [peekL] at e
    rcases bind_exc e with e | ⟨d0, s1, e1, e⟩
    · exact peek_nx _ _ _ _ e
    · rcases bind_exc e with e | ⟨d1, s2, e2, e⟩
      · exact peekL_nx _ _ _ _ e
      · cases e
theorem Fut.peekL {hs : List Hd} {vs : List V} {f : List D → M α} (R : Rel E Fo T ι1 ω1 σ H1 st1) (q : HkL E H1 (FF Fo T ι1 ω1) ι1 σ T1 hs vs) (hh : Fut E Wx Sg Fo Tm ι ω σ0 H st ((EV.peekL hs >>= f) st1) G) :
    ∃ ds, PkL E H1 (FF Fo T ι1 ω1) ι1 ds vs ∧ Fut E Wx Sg Fo Tm ι ω σ0 H st (f ds st1) G := by
  obtain ⟨ds, s', e, hf⟩ := hh.op (peekL_nx hs st1)
  obtain ⟨e1, p⟩ := peekL_ok R q e
  subst e1
  exact ⟨ds, p, hf⟩
theorem PkL.one {d : D} {xs : List V} (h : PkL E H F ι [d] xs) : ∃ x, xs = [x] ∧ Pk E H F ι d x := by
  obtain ⟨x, r, e, p, h⟩ := h
  have h : r = [] := h
  subst h
  exact ⟨x, e, p⟩
theorem PkL.two {d d' : D} {xs : List V} (h : PkL E H F ι [d, d'] xs) : ∃ x y, xs = [x, y] ∧ Pk E H F ι d x ∧ Pk E H F ι d' y := by
  obtain ⟨x, r, e, p, h⟩ := h
  obtain ⟨y, e2, p2⟩ := h.one
  subst e2
  exact ⟨x, y, e, p, p2⟩
theorem intsD_is : ∀ {l : List D} {xs : List V} {ns : List Int}, intsD l = some ns → IsL E H F ι l xs → xs = ns.map V.int
  | [], xs, ns, e, h => by cases e; exact h
  | .int i :: l, xs, ns, e, ⟨x, r, ex, h1, h2⟩ => by
    obtain ⟨m, e1, e2⟩ := Option.map_eq_some_iff.mp e
    subst e2 ex
    rw [show x = .int i from h1, intsD_is e1 h2]
    rfl
  | .non :: l, _, _, e, _ => by cases e
  | .bl _ :: l, _, _, e, _ => by cases e
  | .str _ :: l, _, _, e, _ => by cases e
  | .tup _ :: l, _, _, e, _ => by cases e
  | .lst _ :: l, _, _, e, _ => by cases e
  | .dic _ _ :: l, _, _, e, _ => by cases e
  | .kon _ _ :: l, _, _, e, _ => by cases e
  | .ins _ _ _ :: l, _, _, e, _ => by cases e
  | .ref _ :: l, _, _, e, _ => by cases e
  | .loc _ :: l, _, _, e, _ => by cases e
theorem boolsD_is : ∀ {l : List D} {xs : List V} {ns : List Bool}, boolsD l = some ns → IsL E H F ι l xs → xs = ns.map V.bl
  | [], xs, ns, e, h => by cases e; exact h
  | .bl i :: l, xs, ns, e, ⟨x, r, ex, h1, h2⟩ => by
    obtain ⟨m, e1, e2⟩ := Option.map_eq_some_iff.mp e
    subst e2 ex
    rw [show x = .bl i from h1, boolsD_is e1 h2]
    rfl
  | .non :: l, _, _, e, _ => by cases e
  | .int _ :: l, _, _, e, _ => by cases e
  | .str _ :: l, _, _, e, _ => by cases e
  | .tup _ :: l, _, _, e, _ => by cases e
  | .lst _ :: l, _, _, e, _ => by cases e
  | .dic _ _ :: l, _, _, e, _ => by cases e
  | .kon _ _ :: l, _, _, e, _ => by cases e
  | .ins _ _ _ :: l, _, _, e, _ => by cases e
  | .ref _ :: l, _, _, e, _ => by cases e
  | .loc _ :: l, _, _, e, _ => by cases e
theorem strsD_is : ∀ {l : List D} {xs : List V} {ns : List Str}, strsD l = some ns → IsL E H F ι l xs → xs = ns.map V.str
  | [], xs, ns, e, h => by cases e; exact h
  | .str i :: l, xs, ns, e, ⟨x, r, ex, h1, h2⟩ => by
    obtain ⟨m, e1, e2⟩ := Option.map_eq_some_iff.mp e
    subst e2 ex
    rw [show x = .str i from h1, strsD_is e1 h2]
    rfl
  | .non :: l, _, _, e, _ => by cases e
  | .int _ :: l, _, _, e, _ => by cases e
  | .bl _ :: l, _, _, e, _ => by cases e
  | .tup _ :: l, _, _, e, _ => by cases e
  | .lst _ :: l, _, _, e, _ => by cases e
  | .dic _ _ :: l, _, _, e, _ => by cases e
  | .kon _ _ :: l, _, _, e, _ => by cases e
  | .ins _ _ _ :: l, _, _, e, _ => by cases e
  | .ref _ :: l, _, _, e, _ => by cases e
  | .loc _ :: l, _, _, e, _ => by cases e
theorem seq_is {d : D} {l : List D} {v : V} (e : seq? d = some l) (p : Pk E H F ι d v) : ∃ a xs, v = .ref a ∧ (SqL E.K H a xs ∨ SqT E.K H a xs) ∧ IsL E H F ι l xs := by
  unfold seq? at e
  split at e
  · cases e; obtain ⟨a, xs, e, r, h⟩ := p; exact ⟨a, xs, e, .inl (.inl r), h⟩
  · cases e; obtain ⟨a, xs, e, r, h⟩ := p; exact ⟨a, xs, e, .inr r, h⟩
  · cases e
end
section
variable {X : Cx} {E : Env}
theorem CallR.any {f : Value} {r' : List V → Hp → VK → Prop} (h : ∀ xs H Q, r' xs H Q → ∃ r, CallR X f r ∧ r xs H Q) : CallR X f r' := fun pins s σ H xs us Q I rs q => by
  obtain ⟨r, ho, hr⟩ := h xs H Q q
  exact ho pins s σ H xs us Q I rs hr
theorem call_len_dic : CallR X (.builtin "len") (fun xs H Q => ∃ a kvs, xs = [.ref a] ∧ Rd H a (.dK kvs) ∧ Q (.int kvs.length) H) := by
  intro pins s σ H xs us Q I r h
  obtain ⟨a, kvs, rfl, e, q⟩ := h
  obtain ⟨u, rfl, rx⟩ := vals1 r
  cases rx
  exact d_len I e fun t s' I' => ⟨.int kvs.length, H, I', ⟨t, rfl⟩, q⟩
theorem call_repr_non : CallR X (.builtin "repr") (fun xs H Q => xs = [.non] ∧ Q (.str (Str.ofString "None")) H) := by
  intro pins s σ H xs us Q I r h
  obtain ⟨rfl, q⟩ := h
  obtain ⟨u, rfl, rfl⟩ := vals1 r
  exact PySem.P.repr_of_none ⟨.str _, H, I.tok _, ⟨_, rfl⟩, q⟩
theorem call_repr_int : CallR X (.builtin "repr") (fun xs H Q => ∃ i, xs = [.int i] ∧ i.natAbs.log2 < 1920 ∧ Q (.str (Str.ofString (toString i))) H) := by
  intro pins s σ H xs us Q I r h
  obtain ⟨i, rfl, hz, q⟩ := h
  obtain ⟨u, rfl, t, rfl⟩ := vals1 r
  exact PySem.P.repr_of_int hz ⟨.str _, H, I.tok _, ⟨_, rfl⟩, q⟩
theorem call_repr_str : CallR X (.builtin "repr") (fun xs H Q => ∃ a, xs = [.str a] ∧ (reprText a).length ≤ sizeLine ∧ Q (.str (reprText a)) H) := by
  intro pins s σ H xs us Q I r h
  obtain ⟨a, rfl, hz, q⟩ := h
  obtain ⟨u, rfl, t, rfl⟩ := vals1 r
  exact PySem.P.repr_of_str ⟨.str _, H, I.tok _, ⟨_, rfl⟩, q⟩ hz
/-- the calls that are told -/
def bltVal : Blt → Value
  | .len => .builtin "len" | .list => .type "list" | .tuple => .type "tuple" | .int => .type "int" | .str => .type "str" | .repr => .builtin "repr" | .sum => .builtin "sum" | .all => .builtin "all" | .any => .builtin "any"
  | .max2 => .builtin "max" | .min2 => .builtin "min" | .sorted => .builtin "sorted"
  | _ => .none
def rBlt (E : Env) (o : Blt) : List V → Hp → VK → Prop := fun xs H Q => ∃ Fo Tm ι ω σ st ds h, Rel E Fo Tm ι ω σ H st ∧ PkL E H (FF Fo Tm ι ω) ι ds xs ∧ bltop o ds = some h ∧ Ans E Fo Tm ι ω σ H st h Q
def bltAll : List Blt := [.len, .list, .tuple, .int, .str, .repr, .sum, .all, .any, .max2, .min2, .sorted]
theorem IsL.ws {F : Addr → Prop} {H : Hp} {ι : List Addr} : ∀ {ds : List D} {xs : List V}, IsL E H F ι ds xs → ∃ ws : List (V × D), xs = ws.map Prod.fst ∧ ds = ws.map Prod.snd ∧ ∀ w ∈ ws, Is E H F ι w.2 w.1
  | [], xs, h => by
    have h : xs = [] := h
    subst h
    exact ⟨[], rfl, rfl, fun _ z => by cases z⟩
  | d :: ds, xs, h => by
    obtain ⟨x, r, e, p, hr⟩ := h
    obtain ⟨ws, e1, e2, k⟩ := IsL.ws hr
    refine ⟨(x, d) :: ws, by rw [e, e1]; rfl, by rw [e2]; rfl, fun w hw => ?_⟩
    rcases List.mem_cons.mp hw with z | z
    · rw [z]; exact p
    · exact k w z
theorem IsL.of_ws {F : Addr → Prop} {H : Hp} {ι : List Addr} : ∀ {ws : List (V × D)}, (∀ w ∈ ws, Is E H F ι w.2 w.1) → IsL E H F ι (ws.map Prod.snd) (ws.map Prod.fst)
  | [], _ => rfl
  | w :: ws, h => ⟨w.1, ws.map Prod.fst, rfl, h w List.mem_cons_self, IsL.of_ws fun v hv => h v (List.mem_cons_of_mem _ hv)⟩
theorem sk_pure : ∀ {d : D}, Sd.sk d.py = true → d.pure = true
  | .str s, h => h
  | .tup l, h => sk_pureL (show Sd.skL (D.pyL l) = true from h)
  | .non, h => by cases h
  | .bl _, h => by cases h
  | .int _, h => by cases h
  | .lst _, h => by cases h
  | .dic _ _, h => by cases h
  | .kon _ _, h => by cases h
  | .ins _ _ _, h => by cases h
  | .ref _, h => by cases h
  | .loc _, h => by cases h
where
  sk_pureL : ∀ {l : List D}, Sd.skL (D.pyL l) = true → D.pureL l = true
    | [], _ => rfl
    | d :: l, h => by
      obtain ⟨h1, h2⟩ := Sd.skL_cons (show Sd.skL (d.py :: D.pyL l) = true from h)
      show (d.pure && D.pureL l) = true
      rw [sk_pure h1, sk_pureL h2]
      rfl
theorem headS_py {d : D} (h : d.headS = true) : ∃ t r, d.py = .tuple (.str t :: r) := by
  match d, h with
  | .tup (.str t :: l), _ => exact ⟨t, D.pyL l, rfl⟩
theorem blt_ok (ok : EnvOk E X) (hu : X.A.units + 65 < cLine) (hc : X.calm = true) (o : Blt) (ho : o ∈ bltAll) : CallR X (bltVal o) (rBlt E o) := CallR.any fun xs H Q ⟨Fo, Tm, ι, ω, σ, st, ds, h, R, p, e, a⟩ => by
  unfold bltop at e
  split at e <;> first | (cases e; done) | (exact absurd ho (by decide)) | skip
  · obtain ⟨x, rfl, px⟩ := p.one
    cases e
    obtain ⟨q, xs, rfl, r, l⟩ := px
    exact ⟨_, call_len_seq, q, xs, rfl, .inl (.inl r), by rw [l.length]; exact a.val R rfl (.inl rfl)⟩
  · obtain ⟨x, rfl, px⟩ := p.one
    cases e
    obtain ⟨q, xs, rfl, r, l⟩ := px
    exact ⟨_, call_len_seq, q, xs, rfl, .inr (ok.K ▸ r), by rw [l.length]; exact a.val R rfl (.inl rfl)⟩
  · obtain ⟨x, rfl, px⟩ := p.one
    cases e
    obtain ⟨q, kvs, rfl, r, rfl, l⟩ := px
    refine ⟨_, call_len_dic, q, kvs, rfl, .inl r, ?_⟩
    rw [List.length_map] at a
    exact a.val R rfl (.inl rfl)
  · obtain ⟨x, rfl, px⟩ := p.one
    split at e <;> cases e
    rename_i c
    cases px
    exact ⟨_, call_len_str, _, rfl, c, a.val R rfl (.inl rfl)⟩
  · obtain ⟨x, rfl, px⟩ := p.one
    obtain ⟨l, e1, e2⟩ := Option.map_eq_some_iff.mp e
    subst e2
    obtain ⟨q, xs, rfl, r, l⟩ := seq_is e1 px
    exact ⟨_, call_list_of, q, xs, rfl, ok.K ▸ r, fun z hz => a.lst R l hz⟩
  · obtain ⟨x, rfl, px⟩ := p.one
    obtain ⟨l, e1, e2⟩ := Option.map_eq_some_iff.mp e
    subst e2
    obtain ⟨q, xs, rfl, r, l⟩ := seq_is e1 px
    refine ⟨_, call_tuple_of, q, xs, rfl, ?_⟩
    rcases r with r | r
    · exact .inl ⟨ok.K ▸ r, fun z hz => a.tup R l hz⟩
    · exact .inr ⟨ok.K ▸ r, a.val R ⟨q, xs, rfl, r, l⟩ (.inl rfl)⟩
  · obtain ⟨x, rfl, px⟩ := p.one
    cases e
    cases px
    exact ⟨_, call_int1, .inl ⟨_, rfl, a.val R rfl (.inl rfl)⟩⟩
  · obtain ⟨x, rfl, px⟩ := p.one
    cases e
    cases px
    exact ⟨_, call_int1, .inr ⟨_, rfl, a.val R rfl (.inl rfl)⟩⟩
  · obtain ⟨x, rfl, px⟩ := p.one
    split at e
    · rename_i c
      obtain ⟨n, e1, e2⟩ := Option.map_eq_some_iff.mp e
      subst e2
      cases px
      exact ⟨_, call_int_str, _, n, rfl, e1, c, a.val R rfl (.inl rfl)⟩
    · cases e
  · obtain ⟨x, rfl, px⟩ := p.one
    split at e <;> cases e
    rename_i c
    cases px
    exact ⟨_, call_str_int, _, rfl, c, a.val R rfl (.inl rfl)⟩
  · obtain ⟨x, rfl, px⟩ := p.one
    obtain ⟨l, e1, e2⟩ := Option.map_eq_some_iff.mp e
    subst e2
    unfold reprD at e1
    split at e1
    · cases e1
      cases px
      exact ⟨_, call_repr_non, rfl, a.val R rfl (.inl rfl)⟩
    · split at e1 <;> cases e1
      rename_i c
      cases px
      exact ⟨_, call_repr_int, _, rfl, c, a.val R rfl (.inl rfl)⟩
    · split at e1 <;> cases e1
      rename_i c
      cases px
      exact ⟨_, call_repr_str, _, rfl, c, a.val R rfl (.inl rfl)⟩
    · cases e1
  · obtain ⟨x, rfl, px⟩ := p.one
    obtain ⟨n, e1, e2⟩ := Option.map_eq_some_iff.mp e
    subst e2
    obtain ⟨q, xs, rfl, r, l⟩ := px
    have := intsD_is e1 l
    subst this
    exact ⟨_, cr_sum hc, q, n, rfl, .inl r, a.val R rfl (.inl rfl)⟩
  · obtain ⟨x, rfl, px⟩ := p.one
    obtain ⟨n, e1, e2⟩ := Option.map_eq_some_iff.mp e
    subst e2
    obtain ⟨q, xs, rfl, r, l⟩ := px
    have := boolsD_is e1 l
    subst this
    exact ⟨_, cr_all hc, q, n, rfl, .inl r, a.val R rfl (.inl rfl)⟩
  · obtain ⟨x, rfl, px⟩ := p.one
    obtain ⟨n, e1, e2⟩ := Option.map_eq_some_iff.mp e
    subst e2
    obtain ⟨q, xs, rfl, r, l⟩ := px
    have := boolsD_is e1 l
    subst this
    exact ⟨_, cr_any hc, q, n, rfl, .inl r, a.val R rfl (.inl rfl)⟩
  · obtain ⟨x, y, rfl, px, py⟩ := p.two
    cases e
    cases px; cases py
    exact ⟨_, call_max2 hc, _, _, rfl, a.val R rfl (.inl rfl)⟩
  · obtain ⟨x, y, rfl, px, py⟩ := p.two
    cases e
    cases px; cases py
    exact ⟨_, call_min2 hc, _, _, rfl, a.val R rfl (.inl rfl)⟩
  · obtain ⟨x, rfl, px⟩ := p.one
    obtain ⟨l, e1, e2⟩ := Option.bind_eq_some_iff.mp e
    split at e2 <;> cases e2
    rename_i c
    obtain ⟨q, xs, rfl, r, l⟩ := seq_is e1 px
    obtain ⟨ws, rfl, rfl, k⟩ := l.ws
    have c : ∀ w ∈ ws, w.2.sortable = true ∧ ∀ w' ∈ ws, Sd.fit w.2.py w'.2.py = true := fun w hw => by
      unfold sortOk at c
      rw [List.all_eq_true] at c
      have := c w.2 (List.mem_map_of_mem hw)
      rw [Bool.and_eq_true, List.all_eq_true] at this
      exact ⟨this.1, fun w' hw' => this.2 _ (List.mem_map_of_mem hw')⟩
    have c1 : ∀ w ∈ ws, w.2.headS = true ∧ Sd.sk w.2.py = true ∧ w.2.py.depth ≤ 60 := fun w hw => by
      have := (c w hw).1
      unfold D.sortable at this
      simp only [Bool.and_eq_true, decide_eq_true_eq] at this
      exact ⟨this.1.1, this.1.2, this.2⟩
    have m1 : (ws.map fun w => (w.1, w.2.py)).map Prod.fst = ws.map Prod.fst := by rw [List.map_map]; rfl
    have mem : ∀ {z : V × PyData}, z ∈ (ws.map fun w => (w.1, w.2.py)) → ∃ w ∈ ws, z = (w.1, w.2.py) := fun h => by
      obtain ⟨w, h1, h2⟩ := List.mem_map.mp h
      exact ⟨w, h1, h2.symm⟩
    have mem2 : ∀ {d : PyData}, d ∈ (ws.map fun w => (w.1, w.2.py)).map Prod.snd → ∃ w ∈ ws, d = w.2.py := fun h => by
      obtain ⟨z, h1, h2⟩ := List.mem_map.mp h
      obtain ⟨w, h3, rfl⟩ := mem h1
      exact ⟨w, h3, h2.symm⟩
    refine ⟨_, call_sortD hu, q, ws.map fun w => (w.1, w.2.py), rfl, by rw [m1]; exact ok.K ▸ r, fun z hz => ?_, fun d hd => ?_, ⟨fun d hd => ?_, fun d hd d' hd' => ?_⟩, fun z hz => ?_, fun z hz => ?_⟩
    · obtain ⟨w, hw, rfl⟩ := mem hz
      exact ok.K ▸ (k w hw).dp (sk_pure (c1 w hw).2.1)
    · obtain ⟨w, hw, rfl⟩ := mem2 hd
      exact headS_py (c1 w hw).1
    · obtain ⟨w, hw, rfl⟩ := mem2 hd
      exact (c1 w hw).2.1
    · obtain ⟨w, hw, rfl⟩ := mem2 hd
      obtain ⟨w', hw', rfl⟩ := mem2 hd'
      exact (c w hw).2 w' hw'
    · obtain ⟨w, hw, rfl⟩ := mem hz
      exact (c1 w hw).2.2
    · have s1 : (ws.mergeSort fun w w' => D.le w.2 w'.2).map (fun w => (w.1, w.2.py)) = (ws.map fun w => (w.1, w.2.py)).mergeSort sdLe := W.sort_maps _ fun _ _ _ _ => rfl
      have s2 : (ws.mergeSort fun w w' => D.le w.2 w'.2).map Prod.snd = (ws.map Prod.snd).mergeSort D.le := W.sort_maps _ fun _ _ _ _ => rfl
      rw [← s1, List.map_map]
      refine a.lst R ?_ hz
      show IsL E _ _ _ ((ws.map Prod.snd).mergeSort D.le) ((ws.mergeSort fun w w' => D.le w.2 w'.2).map Prod.fst)
      rw [← s2]
      exact IsL.of_ws fun w hw => k w (List.mem_mergeSort.mp hw)
end
end EV

set_option autoImplicit false
set_option linter.all false
set_option maxRecDepth 10000
namespace EV
open PySem L2 PyProof.Rows

def bltNm : Blt → Str × Nat
  | .len => ("len", 1) | .list => ("list", 1) | .tuple => ("tuple", 1) | .int => ("int", 1) | .str => ("str", 1) | .repr => ("repr", 1) | .sum => ("sum", 1) | .all => ("all", 1) | .any => ("any", 1) | .max2 => ("max", 2) | .min2 => ("min", 2) | .sorted => ("sorted", 1)
  | _ => ("", 0)
def bltOf (f : Str) (n : Nat) : Option Blt := bltAll.find? fun o => decide (bltNm o = (f, n))
theorem bltOf_is {f : Str} {n : Nat} {o : Blt} (h : bltOf f n = some o) : o ∈ bltAll ∧ bltNm o = (f, n) := by
  refine ⟨List.mem_of_find?_eq_some h, ?_⟩
  have := List.find?_some h
  simpa using this
section
variable {X : Cx} {C : Cfg} {E : Env} {Wx : WX} {c : SC} {a b e : Expr} {es : List Expr} {ta tb tc : TE} {tl : TL} {pos p : Pos}
theorem stars_plain {env : PySem.Env} : ∀ {es : List Expr}, es.all noStar = true → (backTo pos (starEach es env)).any (·.1) = false
  | [], _ => rfl
  | e :: es, h => by
    rw [List.all_cons, Bool.and_eq_true] at h
    rw [star_cons h.1]
    show (false || (backTo pos (starEach es env)).any (·.1)) = false
    rw [stars_plain h.2]
    rfl
theorem stars_few {env : PySem.Env} : ∀ {es : List Expr}, es.all noStar = true → (backTo pos (starEach es env)).all (fun x => !x.1) = true
  | [], _ => rfl
  | e :: es, h => by
    rw [List.all_cons, Bool.and_eq_true] at h
    rw [star_cons h.1]
    show (true && (backTo pos (starEach es env)).all (fun x => !x.1)) = true
    rw [stars_few h.2]
    rfl
theorem blt_read (C : Cfg) (E : Env) (Wx : WX) (o : Blt) (tl : TL) (σ : L2.St) (H : Hp) (Q : VK) (h : tE C E Wx (.blt o tl) σ H Q) : tCB (rBlt E o) (tH C E Wx tl) σ H Q := by
  obtain ⟨Fo, Tm, ι, ω, st, R, hh⟩ := h
  refine nextH1 R hh rfl fun hs xs T2 ι2 ω2 H2 st2 g2 l2 hh => ?_
  obtain ⟨ds, pl, hh⟩ := Fut.peekL g2.rel l2 hh
  obtain ⟨r, er, an⟩ := Fut.ans g2 hh
  exact ⟨Fo, Tm, ι2, ω2, σ, st2, ds, r, g2.rel0, pl.dr, er, an⟩
theorem s_blt (g : Good X C E Wx c) {f : Str} {n : Nat} {o : Blt} (ho : bltOf f n = some o) (hg : globC c.sc f = true) (hf : c.fns.contains f = false) (hc : c.clss.contains f = false) (hs : (e :: es).all noStar = true) (ha : PA X (e :: es) (tH C E Wx tl)) :
    PE X (.Call (.Name f p) (e :: es) [] pos) (tE C E Wx (.blt o tl)) := by
  obtain ⟨hm, hn⟩ := bltOf_is ho
  have hgl : Gl X f := globC_gl g hg
  rw [List.all_cons, Bool.and_eq_true] at hs
  have ok := blt_ok g.env g.hu g.calm o hm
  have fin : PE X (.Call (.Name f p) (e :: es) [] pos) (tCB (rBlt E o) (tH C E Wx tl)) := by
    have mg : f ∈ bltNames → X.mg f = none := fun h => g.blt f h hf hc
    have st := star_cons (a := e) (es := es) (env := X.env) hs.1
    have pl := stars_plain (pos := pos) (env := X.env) hs.2
    cases o <;> first
      | (exact absurd hm (by decide))
      | (cases hn; exact pe_callB ok hgl (mg (by decide)) (by decide +kernel) ha (by decide) (by decide) st pl)
      | (cases hn; exact pe_callTy ok hgl (mg (by decide)) (by decide +kernel) ha (by decide) (by decide) st pl)
  exact fin.imp (blt_read C E Wx o tl)
/-- the reading of one looked-at term -/
theorem one_read {o : Blt} {σ : L2.St} {H : Hp} {Q : VK} (h : tE C E Wx (.blt o (.cons ta .nil)) σ H Q) : tE C E Wx ta σ H fun v H1 => rBlt E o [v] H1 Q := by
  obtain ⟨Fo, Tm, ι, ω, st, R, hh⟩ := h
  have e : evE C (.blt o (.cons ta .nil)) = (evE C ta >>= fun h => EV.peek h >>= fun x => liftO (bltop o [x])) := by
    show ((evE C ta >>= fun h => (M.pure [] : M (List Hd)) >>= fun hs => (M.pure (h :: hs) : M (List Hd))) >>= fun hs => EV.peekL hs >>= fun ds => liftO (bltop o ds)) = _
    simp only [M_assoc, M_pure]
    congr 1
    funext h
    rw [EV.peekL]
    simp only [M_assoc, M_pure]
    rfl
  rw [e] at hh
  refine nextE1 R hh rfl fun h x T2 ι2 ω2 H2 st2 g2 q2 hh => ?_
  obtain ⟨d, pd, hh⟩ := Fut.peek g2.rel q2 hh
  obtain ⟨r, er, an⟩ := Fut.ans g2 hh
  exact ⟨Fo, Tm, ι2, ω2, σ, st2, [d], r, g2.rel0, ⟨x, [], rfl, pd.dr, rfl⟩, er, an⟩
theorem boot_list' : bootBuiltins "list" = some (.type "list") := by decide +kernel
theorem boot_reversed' : bootBuiltins "reversed" = some (.type "reversed") := by decide +kernel
def tListRev (K : PySem.W.Frag) (te : L2.TE) : L2.TE := fun σ H Q => te σ H fun x H1 => ∃ a xs, x = .ref a ∧ SqL K H1 a xs ∧ ∀ p, H1 p = none → Q (.ref p) (upd H1 p (.lst xs.reverse))
theorem pe_listRev {te : L2.TE} {p2 pos2 : Pos} (hc : X.calm = true) (hg : Gl X "list") (hm : X.mg "list" = none) (hg2 : Gl X "reversed") (hm2 : X.mg "reversed" = none) (he : PE X e te)
    (hs : starEach [e] X.env = (false, eval e X.env) :: starEach [] X.env)
    (hs2 : starEach [.Call (.Name "reversed" p2) [e] [] pos2] X.env = (false, eval (.Call (.Name "reversed" p2) [e] [] pos2) X.env) :: starEach [] X.env := by rfl) :
    PE X (.Call (.Name "list" p) [.Call (.Name "reversed" p2) [e] [] pos2] [] pos) (tListRev X.K te) := by
  refine ⟨fun pins s σ H Q I h => ?_⟩
  refine Call_ (ld_blt I hg hm boot_list' (PyProof.Rows.callWith_type1 (args_cons (Call_ (ld_blt I hg2 hm2 boot_reversed' (PyProof.Rows.callWith_type1 (args_cons (thn (he.run pins s σ H _ I h) fun u s1 ⟨v, H1, I1, r1, q1⟩ => args_nil ?_) hs) hs rfl))) hs2) hs2 rfl))
  obtain ⟨a, xs, ev, hq, q⟩ := q1
  subst ev
  obtain rfl : u = Value.ref a := r1
  obtain ⟨its, rv, p', hz⟩ := I1.list hq
  refine call_reversed_list p'.isList (args_nil ?_)
  have k0 : ∀ b o, s1.heap.get? b = some o → (s1.heap.push (revObj a ((its.toArray.size : Int) - 1))).get? b = some o := fun b o e => Heap.get?_push_of_some _ e
  have I2 : Inv X pins σ H1 { s1 with heap := s1.heap.push (revObj a ((its.toArray.size : Int) - 1)) } := I1.kept (t' := s1.toks) k0
  obtain ⟨f0, f1, f2, f3, f4, f5⟩ := I1.fpOk (H' := H1) (b := s1.heap.objs.size) (Nat.le_refl _) (I1.hok.fresh (Nat.le_refl _))
  have hl := p'.isList
  obtain ⟨ol, hol, _⟩ := id hl
  have hne : a ≠ s1.heap.objs.size := Nat.ne_of_lt (Heap.lt_size hol)
  have hn : its.toArray.size ≤ sizeLine := by rw [List.size_toArray, ← rv.length]; exact hz
  refine call_list_rev (s := { s1 with heap := s1.heap.push (revObj a ((its.toArray.size : Int) - 1)) }) (I1.ok.hd hc) ⟨_, Heap.get?_push_size _ rfl, rfl, rfl⟩ (hl.push _) hne hn fun h' tk acc c' hk hS hi => ?_
  have hsz : (s1.heap.push (revObj a ((its.toArray.size : Int) - 1))).objs.size = s1.heap.objs.size + 1 := Heap.size_push ..
  have h0 : H1 (s1.heap.objs.size + 1) = none := I1.hok.fresh (Nat.le_succ _)
  have I3 := I2.laid (a := s1.heap.objs.size + 1) (o := .lst xs.reverse) (h' := (s1.heap.push (revObj a ((its.toArray.size : Int) - 1))).push { cls := .type "list", dict := none, data := .seq acc c', slots := #[] }) (t' := tk)
    (fun b o e => Heap.get?_push_of_some _ e) (Nat.le_of_eq hsz) (show ObjOk X.prog X.w _ _ _ (.lst xs.reverse) from ⟨by rw [List.length_reverse]; exact hz, acc.toList, c', RT.vals_rev rv hi, by rw [Array.toArray_toList, ← hsz]; exact Heap.get?_push_size _ rfl⟩)
  have I4 := I3.turned (h' := h') (t' := tk) (it := s1.heap.objs.size) (fun b o hb e => ?_) (by rw [upd_ne (Nat.ne_of_lt (Nat.lt_succ_self _))]; exact f0) f1 f3 f4 f5
  · rw [hsz]
    exact ⟨.ref (s1.heap.objs.size + 1), _, I4, rfl, q _ h0⟩
  · by_cases hb2 : b = (s1.heap.push (revObj a ((its.toArray.size : Int) - 1))).objs.size
    · subst hb2
      have e2 := Heap.get?_push_size (s1.heap.push (revObj a ((its.toArray.size : Int) - 1))) (o := { cls := .type "list", dict := none, data := .seq acc c', slots := #[] }) rfl
      have e3 := e.symm.trans e2
      rw [hS, e3]
    · rcases Heap.get?_push_cases e with ⟨e1, _⟩ | e
      · exact absurd e1 hb2
      · exact hk b o hb e
theorem tE_mono {te : TE} {σ : L2.St} {H : Hp} {Q Q' : VK} (h : tE C E Wx te σ H Q) (k : ∀ v H, Q v H → Q' v H) : tE C E Wx te σ H Q' := by
  obtain ⟨Fo, Tm, ι, ω, st, R, hh⟩ := h
  exact ⟨Fo, Tm, ι, ω, st, R, hh.mono fun hd T' ι' ω' σ' H' st' es gg kk v q => k v _ (kk v q)⟩
theorem s_listrev (g : Good X C E Wx c) {p2 pos2 : Pos} (hg : globC c.sc "list" = true) (hf : c.fns.contains "list" = false) (hc : c.clss.contains "list" = false) (hg2 : globC c.sc "reversed" = true) (hf2 : c.fns.contains "reversed" = false) (hc2 : c.clss.contains "reversed" = false)
    (hn : noStar e = true) (he : PE X e (tE C E Wx ta)) : PE X (.Call (.Name "list" p) [.Call (.Name "reversed" p2) [e] [] pos2] [] pos) (tE C E Wx (.blt .listrev (.cons ta .nil))) := by
  refine (pe_listRev g.calm (globC_gl g hg) (g.blt _ (by decide) hf hc) (globC_gl g hg2) (g.blt _ (by decide) hf2 hc2) he (star_cons hn)).imp fun σ H Q h => ?_
  have h := one_read h
  refine ?_
  obtain ⟨Fo, Tm, ι, ω, st, R, hh⟩ := h
  refine ⟨Fo, Tm, ι, ω, st, R, hh.mono fun hd T' ι' ω' σ' H' st' es gg k v q => ?_⟩
  obtain ⟨Fo, Tm, ι, ω, σ, st, ds, h, R, p, er, an⟩ := k v q
  obtain ⟨x, r, ex, px, hr⟩ : ∃ x r, [v] = x :: r ∧ True ∧ True := ⟨v, [], rfl, trivial, trivial⟩
  cases ds with
  | nil => cases p
  | cons d ds =>
    obtain ⟨x, r, ex, px, pr⟩ := p
    cases ex
    cases ds with
    | cons _ _ => obtain ⟨_, _, e, _⟩ := pr; cases e
    | nil =>
      cases d with
      | lst l =>
        cases er
        obtain ⟨a, xs, rfl, r1, l1⟩ := px
        exact ⟨a, xs, rfl, .inl r1, fun z hz => an.lst R l1.reverse hz⟩
      | _ => cases er
end
end EV

set_option autoImplicit false
set_option linter.all false
set_option maxRecDepth 10000
namespace EV
open PySem L2 PyProof.Rows

theorem kit_table : ∀ a ∈ ["NoneType", "bool", "int", "str", "tuple", "list", "dict"], ∀ b ∈ ["int", "bool", "str", "tuple", "list", "dict"], kitB a b = some (decide (a = b) || (decide (a = "bool") && decide (b = "int"))) := by decide +kernel
section
variable {E : Env} {H : Hp} {F : Addr → Prop} {ι : List Addr}
theorem tyS_mem {d : D} {a : String} (h : d.tyS = some a) : a ∈ ["NoneType", "bool", "int", "str", "tuple", "list", "dict"] := by
  cases d <;> first | (cases h; done) | (cases h; decide)
theorem Ty.s_mem {t : Ty} {a : String} (h : t.s = some a) : a ∈ ["int", "bool", "str", "tuple", "list", "dict"] := by
  cases t <;> first | (cases h; done) | (cases h; decide)
/-- a value looked at, behind a new object -/
theorem Pk.laid {d : D} {v : V} {z : Addr} {o : HO} (p : Pk E H F ι d v) (hz : H z = none) : Pk E (upd H z o) F ι d v := by
  have k : Kp E H F ι (upd H z o) F ι := Kp.laid hz fun a q => .inl q
  cases d with
  | lst ds =>
    obtain ⟨a, xs, e, r, q⟩ := p
    refine ⟨a, xs, e, ?_, k.isL q⟩
    rcases r with r | ⟨ob, r⟩
    · exact .inl (by rw [upd_ne (ne_of_none r hz)]; exact r)
    · exact .inr ⟨ob, by rw [upd_ne (ne_of_none r hz)]; exact r⟩
  | dic ks vs => obtain ⟨a, kvs, e, r, q, l⟩ := p; exact ⟨a, kvs, e, by rw [upd_ne (ne_of_none r hz)]; exact r, q, k.isL l⟩
  | ins c fs vs => obtain ⟨a, C, dx, xs, e, r, c1, c2, q⟩ := p; exact ⟨a, C, dx, xs, e, by rw [upd_ne (ne_of_none r hz)]; exact r, c1, c2, k.isL q⟩
  | _ => exact k.is p
theorem tyx_of {X : Cx} (ok : EnvOk E X) {d : D} {v : V} {a : String} (e : d.tyS = some a) (p : Pk E H F ι d v) : TyX X.K H v (.type a) := by
  cases d with
  | non => cases e; cases p; exact .base .non
  | bl b => cases e; cases p; exact .base (.bl b)
  | int b => cases e; cases p; exact .base (.int b)
  | str b => cases e; cases p; exact .base (.str b)
  | tup l =>
    cases e
    obtain ⟨q, xs, rfl, r, _⟩ := p
    have r : SqT X.K H q xs := ok.K ▸ r
    rcases r with (r | ⟨o, r⟩) | ⟨o, its, n, hk, hc, _⟩
    · exact .base (.tup r)
    · exact .fTuple r
    · exact .kTuple hk hc
  | lst l =>
    cases e
    obtain ⟨q, xs, rfl, r, _⟩ := p
    rcases r with r | ⟨o, r⟩
    · exact .base (.lst r)
    · exact .base (.frz r)
  | dic ks vs =>
    cases e
    obtain ⟨q, kvs, rfl, r, _⟩ := p
    exact .base (.dK r)
  | kon ks vs =>
    cases e
    obtain ⟨q, kvs, rfl, r, _⟩ := p
    obtain ⟨⟨es, n, kd⟩, _⟩ := ok.kd q kvs r
    exact .kDict kd.at_ rfl
  | _ => cases e
/-- what a value is of -/
def TyE (K : PySem.W.Frag) (H : Hp) (x : V) (t : Value) : Prop := TyX K H x t ∨ ∃ a C, x = .ref a ∧ t = .ref C ∧ (∃ d, H a = some (exv a C d) ∧ ∀ dx, d = some dx → ∃ fs, H dx = some (.xd fs)) ∧ ExcC K C
theorem kit_ofE {X : Cx} {pins : List (Addr × Obj)} {σ : L2.St} {s : Shared} {x : V} {u t : Value} (I : Inv X pins σ H s) (rx : RelV x u) (ty : TyE X.K H x t) : ∃ P : Heap → Prop, PySem.W.KitX X.K u t P ∧ P s.heap ∧ u ≠ .builtin "__main__.__loader__#opaque" := by
  rcases ty with ty | ⟨a, D, rfl, rfl, ⟨d, e, hd⟩, C⟩
  · exact kit_of I rx ty
  · cases (show u = Value.ref a from rx)
    obtain ⟨⟨oe, fv, hget, ⟨h1, h2⟩, hv⟩, _⟩ := I.hok a _ e
    have J : ∃ od, PySem.W.InstAt s.heap a oe D od := by
      obtain ⟨oc, od, oda, osl⟩ := oe
      dsimp only at h1 h2 hv
      subst h1 h2 hv
      cases od with
      | none => exact ⟨none, hget, rfl, rfl, trivial⟩
      | some dx =>
        obtain ⟨fs, hx⟩ := hd dx rfl
        have hx : ObjOk X.prog X.w H s.heap dx (.xd fs) := I.hok dx _ hx
        obtain ⟨mA, hns, hr⟩ := hx
        obtain ⟨o, ho, _⟩ := lookIn_ns hns
        exact ⟨some o, hget, rfl, rfl, ho⟩
    obtain ⟨od, J⟩ := J
    have hcl : (PySem.W.clsIn X.K D).isSome = true := by
      obtain ⟨cd, hc, _⟩ := PySem.W.any_some C.hd
      rw [hc]
      rfl
    exact ⟨_, PySem.W.kitx_exc hcl C.hg C.hk C.hs C.ha C.hn C.ht C.hm, J, fun z => nomatch z⟩
def rIsiE (K : PySem.W.Frag) : List V → Hp → VK → Prop := fun xs H Q => ∃ (x c : V) (t u : Value) (b : Bool), xs = [x, c] ∧ ClsV c u ∧ TyE K H x t ∧ PySem.W.kitOne K t u = some b ∧ Q (.bl b) H
def rIsiTE (K : PySem.W.Frag) : List V → Hp → VK → Prop := fun xs H Q => ∃ (x : V) (tp : Addr) (cs : List V) (t : Value) (us : List Value) (b : Bool), xs = [x, .ref tp] ∧ H tp = some (.tup cs) ∧ Paired ClsV cs us ∧ TyE K H x t ∧ PySem.W.kitAny K t us = some b ∧ Q (.bl b) H
theorem call_isiE {X : Cx} : CallR X (.builtin "isinstance") (rIsiE X.K) := by
  intro pins s σ H xs us Q I r h
  obtain ⟨x, c, t, u, b, rfl, k, ty, e, q⟩ := h
  obtain ⟨u1, u2, rfl, r1, r2⟩ := vals2 r
  have e2 := k.eq r2
  subst e2
  obtain ⟨P, Z, p, hx⟩ := kit_ofE I r1 ty
  exact PySem.W.kia_one Z I.kIn p e hx fun tk => ⟨.bl b, H, I.tok tk, rfl, q⟩
theorem call_isiTE {X : Cx} : CallR X (.builtin "isinstance") (rIsiTE X.K) := by
  intro pins s σ H xs us Q I r h
  obtain ⟨x, tp, cs, t, ws, b, rfl, hT, k, ty, e, q⟩ := h
  obtain ⟨u1, u2, rfl, r1, r2⟩ := vals2 r
  cases (show u2 = Value.ref tp from r2)
  obtain ⟨P, Z, p, hx⟩ := kit_ofE I r1 ty
  obtain ⟨_, its, rv, o, h1, h2, n, h3⟩ := (show ObjOk X.prog X.w H s.heap tp (.tup cs) from I.hok tp _ hT)
  have e3 := ClsV.all k rv
  subst e3
  obtain ⟨oc, od, dt, sl⟩ := o
  simp only at h2 h3
  subst h2 h3
  exact PySem.W.kia_tup Z I.kIn p h1 e hx fun tk => ⟨.bl b, H, I.tok tk, rfl, q⟩
/-- a type asked for, as the model's class -/
def TyV (E : Env) (t : Ty) (u : Value) : Prop := (∃ n, t.s = some n ∧ u = .type n) ∨ ∃ x, t = .cls x ∧ E.xt x = some u
theorem tyOk_kind {d : D} {t : Ty} {r : Bool} (h : tyOk d t = some r) : (∃ a, d.tyS = some a) ∨ ∃ cs fs vs, d = .exn cs fs vs := by
  have h0 : ∀ {t : Ty}, tyOk0 d t = some r → ∃ a, d.tyS = some a := fun {t} h => by
    unfold tyOk0 at h
    obtain ⟨a, e1, _⟩ := Option.bind_eq_some_iff.mp h
    exact ⟨a, e1⟩
  cases t with
  | cls x =>
    have h : tyX d x = some r := h
    unfold tyX at h
    split at h
    · exact .inr ⟨_, _, _, rfl⟩
    · obtain ⟨a, e, _⟩ := Option.map_eq_some_iff.mp h
      exact .inl ⟨a, e⟩
  | _ => exact .inl (h0 h)
theorem tv_of {X : Cx} (ok : EnvOk E X) {d : D} {v : V} (p : Pk E H F ι d v) (h : (∃ a, d.tyS = some a) ∨ ∃ cs fs vs, d = .exn cs fs vs) :
    ∃ tv, TyE X.K H v tv ∧ (∀ {H' : Hp} {F' : Addr → Prop}, Pk E H' F' ι d v → TyE X.K H' v tv) ∧ ∀ {t : Ty} {u : Value} {r : Bool}, TyV E t u → tyOk d t = some r → PySem.W.kitOne X.K tv u = some r := by
  rcases h with ⟨a, e⟩ | ⟨cs, fs, vs, rfl⟩
  · refine ⟨.type a, .inl (tyx_of ok e p), fun p' => .inl (tyx_of ok e p'), fun {t u r} hv ht => ?_⟩
    rcases hv with ⟨n, hn, rfl⟩ | ⟨x, rfl, hx⟩
    · have ht : tyOk0 d t = some r := by cases t <;> first | exact ht | (cases hn; done)
      unfold tyOk0 at ht
      rw [e, hn] at ht
      cases ht
      exact kit_ty (kit_table a (tyS_mem e) n (Ty.s_mem hn))
    · have ht : tyX d x = some r := ht
      have hr : r = false := by
        unfold tyX at ht
        split at ht
        · cases e
        · rw [e] at ht
          cases ht
          rfl
      subst hr
      exact (ok.xt x u hx).val a (tyS_mem e)
  · obtain ⟨a, C, d, rfl, hH, hc, q⟩ := (show Is E H F ι (.exn cs fs vs) v from p)
    have dd : ∀ {H : Hp} {F : Addr → Prop} {d : Option Addr}, ((fs = [] ∧ vs = [] ∧ d = none) ∨ fs ≠ [] ∧ ∃ dx xs, d = some dx ∧ H dx = some (.xd (fs.zip xs)) ∧ fs.length = xs.length ∧ IsL E H F ι vs xs) → ∀ dx, d = some dx → ∃ fs, H dx = some (.xd fs) := fun {H F d} q dx e => by
      rcases q with ⟨_, _, q⟩ | ⟨_, dx', xs, q, h, _⟩
      · rw [q] at e; cases e
      · rw [q] at e; cases e; exact ⟨_, h⟩
    refine ⟨.ref C, .inr ⟨a, C, rfl, rfl, ⟨d, hH, dd q⟩, ok.xc cs C hc⟩, fun p' => ?_, fun {t u r} hv ht => ?_⟩
    · obtain ⟨a', C', d', e', hH', hc', q'⟩ := (show Is E _ _ ι (.exn cs fs vs) _ from p')
      cases e'
      rw [hc] at hc'
      cases hc'
      exact .inr ⟨a, C, rfl, rfl, ⟨d', hH', dd q'⟩, ok.xc cs C hc⟩
    · rcases hv with ⟨n, hn, rfl⟩ | ⟨x, rfl, hx⟩
      · have ht : tyOk0 (.exn cs fs vs) t = some r := by cases t <;> first | exact ht | (cases hn; done)
        cases ht
      · have ht : some (cs.contains x) = some r := ht
        cases ht
        exact ((ok.xt x u hx).exc cs C hc).1
theorem any_kit {K : PySem.W.Frag} {d : D} {tv : Value} (hk : ∀ {t : Ty} {u : Value} {r : Bool}, TyV E t u → tyOk d t = some r → PySem.W.kitOne K tv u = some r) : ∀ {tys : List Ty} {us : List Value} {r : Bool}, Paired (TyV E) tys us → tyAny d tys = some r → PySem.W.kitAny K tv us = some r
  | _, _, r, .nil, h => by
    have h : some false = some r := h
    cases h
    exact kitAny_nil
  | _, _, r, .cons (a := t) (l₁ := ts) p ps, h => by
    have h : (match tyOk d t with
      | some true => some true
      | some false => tyAny d ts
      | none => none) = some r := h
    cases ht : tyOk d t with
    | none => rw [ht] at h; cases h
    | some b =>
      rw [ht] at h
      have k1 := hk p ht
      cases b with
      | true =>
        cases h
        exact kitAny_cons k1 (fun h => by cases h) fun _ => rfl
      | false => exact kitAny_cons k1 (fun _ => any_kit hk ps h) fun h => by cases h
end
section
variable {X : Cx} {C : Cfg} {E : Env} {Wx : WX} {c : SC} {a b e : Expr} {es : List Expr} {ta tb tc : TE} {tl : TL} {pos p : Pos}
/-- a built-in type's name -/
def tyNm : Ty → Str
  | .int => "int" | .bool => "bool" | .str => "str" | .tuple => "tuple" | .list => "list" | .dict => "dict"
  | .cls c => c
def tyAll : List Ty := [.int, .bool, .str, .tuple, .list, .dict]
def tyOf (x : Str) : Option Ty := tyAll.find? fun t => decide (tyNm t = x)
theorem tyOf_is {x : Str} {t : Ty} (h : tyOf x = some t) : t ∈ tyAll ∧ tyNm t = x := by
  refine ⟨List.mem_of_find?_eq_some h, ?_⟩
  have := List.find?_some h
  simpa using this
/-- a type's name, as the text has it -/
def TyN (c : SC) (x : Str) (t : Ty) : Prop := (tyOf x = some t ∧ globC c.sc x = true ∧ c.fns.contains x = false ∧ c.clss.contains x = false) ∨ (t = .cls x ∧ globC c.sc x = true ∧ c.xty.contains x = true)
theorem s_ty (g : Good X C E Wx c) {x : Str} {t : Ty} (h : TyN c x t) : ∃ cv u, ClsV cv u ∧ TyV E t u ∧ PE X (.Name x p) (tC cv) := by
  rcases h with ⟨ht, hg, hf, hc⟩ | ⟨rfl, hg, hx⟩
  · obtain ⟨hm, hn⟩ := tyOf_is ht
    have hgl : Gl X x := globC_gl g hg
    have mg : x ∈ bltNames → X.mg x = none := fun h => g.blt x h hf hc
    cases t <;> first
      | (simp [tyAll] at hm; done)
      | (subst hn; exact ⟨_, _, .ty _, .inl ⟨_, rfl, rfl⟩, pe_bltn hgl (mg (by decide)) (by decide +kernel) rfl (by decide) (by decide)⟩)
  · obtain ⟨u, hu⟩ := g.xty x hx
    have o := g.env.xt x u hu
    obtain ⟨cv, k, r⟩ := o.cv
    refine ⟨cv, u, k, .inr ⟨x, rfl, hu⟩, ?_⟩
    rcases o.nm with h | ⟨h1, h2, h3⟩
    · exact pe_glob (globC_gl g hg) h r o.db
    · exact pe_bltn (globC_gl g hg) h1 h2 r h3 o.db
theorem isi_boot : bootBuiltins "isinstance" = some (.builtin "isinstance") := by decide +kernel
theorem isi_read {ty : Ty → Prop} {tys : List Ty} {σ : L2.St} {H : Hp} {Q : VK} (h : tE C E Wx (.isi ta tys) σ H Q) : tE C E Wx ta σ H fun x H1 => ∃ Fo Tm ι ω st d r, Rel E Fo Tm ι ω σ H1 st ∧ Pk E H1 (FF Fo Tm ι ω) ι d x ∧ tyAny d tys = some r ∧ Ans E Fo Tm ι ω σ H1 st (.bl r, false) Q := by
  obtain ⟨Fo, Tm, ι, ω, st, R, hh⟩ := h
  refine nextE1 R hh rfl fun h x T2 ι2 ω2 H2 st2 g2 q2 hh => ?_
  obtain ⟨d, pd, hh⟩ := Fut.peek g2.rel q2 hh
  obtain ⟨r, er, hh⟩ := hh.lift
  exact ⟨Fo, Tm, ι2, ω2, st2, d, r, g2.rel0, pd.dr, er, Fut.pans g2 hh⟩
theorem s_tys (g : Good X C E Wx c) : ∀ {es : List Expr} {tys : List Ty}, (∀ q ∈ es.zip tys, ∃ x p, q.1 = .Name x p ∧ TyN c x q.2) → es.length = tys.length →
    ∃ (cvs : List V) (us : List Value), Paired ClsV cvs us ∧ Paired (TyV E) tys us ∧ cvs.length = tys.length ∧ PA X es (fun _ H Q => Q cvs H)
  | [], [], _, _ => ⟨[], [], .nil, .nil, rfl, pa_nil⟩
  | [], _ :: _, _, h => by cases h
  | _ :: _, [], _, h => by cases h
  | e :: es, t :: tys, h, hl => by
    obtain ⟨cvs, us, e1, e2, e3, pa⟩ := s_tys g (es := es) (tys := tys) (fun q hq => h q (List.mem_cons_of_mem _ hq)) (by simpa using hl)
    obtain ⟨x, p, ex, h1⟩ := h (e, t) List.mem_cons_self
    obtain ⟨cv, u, k1, k2, pe⟩ := s_ty (p := p) g h1
    have ex : e = .Name x p := ex
    subst ex
    exact ⟨cv :: cvs, u :: us, .cons k1 e1, .cons k2 e2, by rw [List.length_cons, List.length_cons, e3], (pa_cons pe pa (star_cons rfl)).imp fun σ H Q q => q⟩
theorem tyAny_kind {d : D} : ∀ {tys : List Ty} {r : Bool}, tys ≠ [] → tyAny d tys = some r → (∃ a, d.tyS = some a) ∨ ∃ cs fs vs, d = .exn cs fs vs
  | [], _, h, _ => absurd rfl h
  | t :: tys, r, _, h => by
    have h : (match tyOk d t with
      | some true => some true
      | some false => tyAny d tys
      | none => none) = some r := h
    cases ht : tyOk d t with
    | none => rw [ht] at h; cases h
    | some b => exact tyOk_kind ht
theorem s_isiN (g : Good X C E Wx c) {tys : List Ty} {k : Nat} {q : Pos} (hg : globC c.sc "isinstance" = true) (hf : c.fns.contains "isinstance" = false) (hc : c.clss.contains "isinstance" = false)
    (ht : ∀ q ∈ es.zip tys, ∃ x p, q.1 = .Name x p ∧ TyN c x q.2) (hl : es.length = tys.length) (hne : tys ≠ []) (hsz : tys.length ≤ 1000) (hn : noStar a = true) (ha : PE X a (tE C E Wx ta)) :
    PE X (.Call (.Name "isinstance" p) [a, .Tuple es k q] [] pos) (tE C E Wx (.isi ta tys)) := by
  obtain ⟨cvs, us, en, eu, hln, hty⟩ := s_tys g ht hl
  refine (pe_callB call_isiTE (globC_gl g hg) (g.blt _ (by decide) hf hc) isi_boot (pa_cons ha (pa_cons (pe_tup hty) pa_nil rfl) (star_cons hn)) (by decide) (by decide) (star_cons hn) rfl).imp fun σ H Q h => ?_
  refine tE_mono (isi_read (ty := fun _ => True) h) fun x H1 q => ?_
  obtain ⟨Fo, Tm, ι, ω, st, d, r, R, pd, er, an⟩ := q
  refine ⟨?_, fun z hz => ?_⟩
  · rw [hln, sizeLine_eq]
    omega
  · obtain ⟨tv, _, tk, kk⟩ := tv_of g.env pd (tyAny_kind hne er)
    have gg : Go E Fo Tm ι ω σ H1 st noP ι ω σ (upd H1 z (.tup cvs)) st := Go.laidT R hz
    have pd' : Pk E (upd H1 z (.tup cvs)) (FF Fo Tm ι ω) ι d x := pd.laid hz
    refine ⟨x, z, cvs, tv, us, r, rfl, upd_same, en, tk pd', any_kit kk eu er, ?_⟩
    exact an noP ι ω _ _ gg (Hk.sh rfl (.inl rfl))
theorem s_isi1 (g : Good X C E Wx c) {x : Str} {t : Ty} {q : Pos} (hg : globC c.sc "isinstance" = true) (hf : c.fns.contains "isinstance" = false) (hc : c.clss.contains "isinstance" = false)
    (ht : TyN c x t) (hn : noStar a = true) (ha : PE X a (tE C E Wx ta)) :
    PE X (.Call (.Name "isinstance" p) [a, .Name x q] [] pos) (tE C E Wx (.isi ta [t])) := by
  obtain ⟨cv, u, k1, k2, hty⟩ := s_ty (p := q) g ht
  refine (pe_callB call_isiE (globC_gl g hg) (g.blt _ (by decide) hf hc) isi_boot (pa_cons ha (pa_cons hty pa_nil rfl) (star_cons hn)) (by decide) (by decide) (star_cons hn) rfl).imp fun σ H Q h => ?_
  refine tE_mono (isi_read (ty := fun _ => True) h) fun x H1 q => ?_
  obtain ⟨Fo, Tm, ι, ω, st, d, r, R, pd, er, an⟩ := q
  have er : (match tyOk d t with
    | some true => some true
    | some false => tyAny d []
    | none => none) = some r := er
  cases hk : tyOk d t with
  | none => rw [hk] at er; cases er
  | some b =>
    rw [hk] at er
    have hb : b = r := by cases b <;> cases er <;> rfl
    subst hb
    obtain ⟨tv, te, _, kk⟩ := tv_of g.env pd (tyOk_kind hk)
    exact ⟨x, cv, tv, u, b, rfl, k1, te, kk k2 hk, an.bl R⟩
end
end EV

set_option autoImplicit false
set_option linter.all false
set_option maxRecDepth 10000
namespace EV
open PySem L2 PyProof.Rows

section
variable {E : Env} {Wx : WX} {Sg : L2.St → Prop} {Fo Tm T T1 T2 : Addr → Prop} {ι ι1 ι2 : List Addr} {ω ω1 ω2 : List (Option Addr)} {σ0 σ : L2.St} {H H1 H2 : Hp} {st st1 st2 : W} {α : Type} {C : Cfg} {te : TE} {tl : TL} {Q : VK} {F F' : Addr → Prop}
  {G : α → (Addr → Prop) → List Addr → List (Option Addr) → L2.St → Hp → W → Prop}
theorem Hk.less {h : Hd} {v : V} (q : Hk E H F ι σ T h v) (l : ∀ a, F' a → F a) : Hk E H F' ι σ T h v := q.keep (Kp.less l) fun _ _ => rfl
/-- an object's content changed -/
theorem Go.change {h h' : Hd} {v : V} {f : D → Option (D × D)} (g : Go E Fo Tm ι ω σ0 H st T ι1 ω1 σ H1 st1) (q : Hk E H1 (FF Fo (orP T Tm) ι1 ω1) ι1 σ T h v) (e : EV.change h f st1 = .ok h' st2) :
    ∃ a d r d', v = .ref a ∧ Cell E H1 (FF Fo (orP T Tm) ι1 ω1) ι1 a d ∧ f d = some (r, d') ∧ h' = (r, false) ∧ FF Fo (orP T Tm) ι1 ω1 a ∧
      ∀ (o : HO) (w : V), ChgOk E H1 (FF Fo (orP T Tm) ι1 ω1) ι1 a w r d' o → Go E Fo Tm ι ω σ0 H st T ι1 ω1 σ (upd H1 a o) st2 := by
  obtain ⟨a, d, r, d', e1, e2, e3, e4, nT, nF, nM, fa, lk, nl, k⟩ := change_ok g.rel q e
  refine ⟨a, d, r, d', e1, e2, e3, e4, fa, fun o w c => ?_⟩
  obtain ⟨R', kp⟩ := k o w c
  refine g.next g.nT R' kp (fun b z => upd_ne fun w => ?_) fun i d e => ⟨(lk i d e).1, rfl, (lk i d e).2, fun b z => upd_ne fun w => nl i d e (w ▸ z)⟩
  subst w
  exact z.elim nF nM
theorem Cell.upd {a : Addr} {u o : HO} {l : List D} {xs : List V} (c : H a = some u) (hu : notTup u) (fa : F a) (h : IsL E H F ι l xs) : IsL E (upd H a o) F ι l xs := (Kp.upd c hu fa).isL h
theorem Is.upd {a : Addr} {u o : HO} {l : D} {xs : V} (c : H a = some u) (hu : notTup u) (fa : F a) (h : Is E H F ι l xs) : Is E (upd H a o) F ι l xs := (Kp.upd c hu fa).is h
theorem find_is {ds : List D} {x : D} {j : Nat} (h : (ds.findIdx? fun z => D.eqv z x) = some j) : ∃ z, ds[j]? = some z ∧ D.eqv z x = true ∧ ∀ m z', m < j → ds[m]? = some z' → D.eqv z' x = false := by
  obtain ⟨hj, e, n⟩ := List.findIdx?_eq_some_iff_getElem.mp h
  refine ⟨ds[j], List.getElem?_eq_getElem hj, e, fun m z' hm hz => ?_⟩
  have := n m hm
  obtain ⟨hm', e'⟩ := List.getElem?_eq_some_iff.mp hz
  rw [e'] at this
  simpa using this
theorem pyL_get : ∀ {ds : List D} {j : Nat}, (D.pyL ds)[j]? = (ds[j]?).map D.py
  | [], j => by cases j <;> rfl
  | d :: ds, 0 => rfl
  | d :: ds, j + 1 => by
    show (D.pyL ds)[j]? = (ds[j]?).map D.py
    exact pyL_get
theorem pureL_get : ∀ {ds : List D} {j : Nat} {z : D}, D.pureL ds = true → ds[j]? = some z → z.pure = true
  | [], j, z, _, e => by simp at e
  | d :: ds, 0, z, h, e => by
    have h : (D.pure d && D.pureL ds) = true := h
    rw [Bool.and_eq_true] at h
    simp at e
    subst e
    exact h.1
  | d :: ds, j + 1, z, h, e => by
    have h : (D.pure d && D.pureL ds) = true := h
    rw [Bool.and_eq_true] at h
    exact pureL_get h.2 (by simpa using e)
end
section
variable {X : Cx} {E : Env}
def rExtendR : V → List V → Hp → VK → Prop := fun x vs H Q => ∃ l b xs zs, x = .ref l ∧ vs = [.ref b] ∧ H l = some (.lst xs) ∧ Rd H b (.lst zs) ∧ xs.length + zs.length ≤ sizeLine ∧ Q .non (upd H l (.lst (xs ++ zs)))
theorem mt_extendR : MtR X "list.extend" rExtendR := by
  intro pins s σ H x vs v us Q I rx rv h
  obtain ⟨l, b, xs, zs, rfl, rfl, hH, hB, hz, q⟩ := h
  cases rx
  obtain ⟨u, rfl, ru⟩ := rv.one
  cases ru
  obtain ⟨z, its, n, r, hl, e⟩ := I.lstM hH
  obtain ⟨z2, its2, n2, r2, hl2, e2⟩ := rdL I hB
  have hsz : its.toArray.size + its2.toArray.size ≤ sizeLine := by rw [List.size_toArray, List.size_toArray]; omega
  have hlong : ¬ (!its.toArray.isEmpty && Builtin.List.listTooLong (its.toArray.size + its2.toArray.size)) = true := by
    rw [notLongL hsz, Bool.and_false]
    exact Bool.false_ne_true
  refine call_meets F.slot_list_extend ⟨_, e, rfl⟩ F.entry_list_extend (F.args_list_extend_2 _ _)
    (AutoSeq1.list_extend_list_list_0 l its.toArray n b its2.toArray n2 hlong (by rw [List.size_toArray]; omega) (by omega)) ⟨e, e2, ?_⟩
  refine ⟨.non, _, I.lset (its' := its ++ its2) hH e (by simp) (r.append r2) ?_, rfl, q⟩
  rw [List.length_append]
  omega
def rGet1 : V → List V → Hp → VK → Prop := fun x vs H Q => ∃ a y o, x = .ref a ∧ vs = [y] ∧ DGet H a y o ∧ Q (o.getD .non) H
theorem mt_get1 (hu : X.A.units + 1 < cLine) : MtR X "dict.get" rGet1 := by
  intro pins s σ H x vs v us Q I rx rv h
  obtain ⟨a, y, o, rfl, rfl, g, q⟩ := h
  cases rx
  obtain ⟨u, rfl, ru⟩ := rv.one
  exact d_get1 hu I g ru fun w' s3 I3 rw' => ⟨_, H, I3, rw', q⟩
def rGet2 : V → List V → Hp → VK → Prop := fun x vs H Q => ∃ a y z o, x = .ref a ∧ vs = [y, z] ∧ DGet H a y o ∧ Q (o.getD z) H
theorem mt_get2 (hu : X.A.units + 1 < cLine) : MtR X "dict.get" rGet2 := by
  intro pins s σ H x vs v us Q I rx rv h
  obtain ⟨a, y, z, o, rfl, rfl, g, q⟩ := h
  cases rx
  obtain ⟨u, w, rfl, ru, rw'⟩ := rv.two
  exact d_get2 hu I g ru rw' fun w' s3 I3 rw' => ⟨_, H, I3, rw', q⟩

/-- the methods that are told: name, arguments, type, what is called -/
def bmNm : BM → Str × Nat
  | .append => ("append", 1) | .pop0 => ("pop", 0) | .pop1 => ("pop", 1) | .extend => ("extend", 1) | .insert => ("insert", 2) | .clear => ("clear", 0) | .reverse => ("reverse", 0)
  | .index => ("index", 1) | .join => ("join", 1) | .split => ("split", 1) | .get1 => ("get", 1) | .get2 => ("get", 2)
  | .upper => ("upper", 0) | .strip => ("strip", 0) | .find2 => ("find", 2)
  | _ => ("", 9)
def bmAll : List BM := [.append, .pop0, .pop1, .extend, .insert, .clear, .reverse, .index, .join, .split, .get1, .get2, .upper, .strip, .find2]
def bmId : BM → String × String
  | .append => ("list", "list.append") | .pop0 => ("list", "list.pop") | .pop1 => ("list", "list.pop") | .extend => ("list", "list.extend") | .insert => ("list", "list.insert") | .clear => ("list", "list.clear") | .reverse => ("list", "list.reverse")
  | .index => ("list", "list.index") | .join => ("str", "str.join") | .split => ("str", "str.split") | .get1 => ("dict", "dict.get") | .get2 => ("dict", "dict.get")
  | .upper => ("str", "str.upper") | .strip => ("str", "str.strip") | .find2 => ("str", "str.find")
  | _ => ("", "")
theorem bm_facts (b : BM) (h : b ∈ bmAll) : PlainAttrs (bmId b).1 ∧ PySem.Slot (bmId b).1 (bmNm b).1 (bmId b).2 ∧ typeOf (.builtin (bmId b).2) = pure (.type "method_descriptor") := by
  cases b <;> first
    | (exact absurd h (by decide))
    | exact ⟨F.plainAttrs_list, F.slot_list_append, F.type_list_append⟩
    | exact ⟨F.plainAttrs_list, F.slot_list_pop, F.type_list_pop⟩
    | exact ⟨F.plainAttrs_list, F.slot_list_extend, F.type_list_extend⟩
    | exact ⟨F.plainAttrs_list, F.slot_list_insert, F.type_list_insert⟩
    | exact ⟨F.plainAttrs_list, F.slot_list_clear, F.type_list_clear⟩
    | exact ⟨F.plainAttrs_list, F.slot_list_reverse, F.type_list_reverse⟩
    | exact ⟨F.plainAttrs_list, F.slot_list_index, F.type_list_index⟩
    | exact ⟨F.plainAttrs_str, F.slot_str_join, F.type_str_join⟩
    | exact ⟨F.plainAttrs_str, F.slot_str_split, F.type_str_split⟩
    | exact ⟨F.plainAttrs_dict, F.slot_dict_get, F.type_dict_get⟩
    | exact ⟨F.plainAttrs_str, F.slot_str_upper, F.type_str_upper⟩
    | exact ⟨F.plainAttrs_str, F.slot_str_strip, F.type_str_strip⟩
    | exact ⟨F.plainAttrs_str, F.slot_str_find, F.type_str_find⟩
theorem bmTy_is {F : Addr → Prop} {H : Hp} {ι : List Addr} {K : PySem.W.Frag} (b : BM) (h : b ∈ bmAll) {d : D} {v : V} (e : bmTy b d = true) (p : Pk E H F ι d v) : tyV K (bmId b).1 v H := by
  have ls : ∀ l, d = .lst l → tyV K "list" v H := fun l z => by
    subst z
    obtain ⟨a, xs, rfl, r, _⟩ := p
    exact .inl ⟨rfl, xs, .inl r⟩
  have ss : ∀ l, d = .str l → tyV K "str" v H := fun l z => by
    subst z
    cases p
    exact rfl
  have ds : ∀ l m, d = .dic l m → tyV K "dict" v H := fun l m z => by
    subst z
    obtain ⟨a, xs, rfl, r, _⟩ := p
    exact .inr (.inr (.inl ⟨rfl, .inl ⟨xs, r⟩⟩))
  cases b <;> first
    | (exact absurd h (by decide))
    | (cases d <;> first
        | (cases e; done)
        | exact ls _ rfl
        | exact ss _ rfl
        | exact ds _ _ rfl)
end
end EV

set_option autoImplicit false
set_option linter.all false
set_option maxRecDepth 10000
namespace EV
open PySem L2 PyProof.Rows

section
variable {X : Cx} {C : Cfg} {E : Env} {Wx : WX} {c : SC} {a b o e : Expr} {es : List Expr} {ta tb tc : TE} {tl : TL} {pos cpos apos : Pos} {name : Str}
theorem pe_bmG {to : L2.TE} {t : L2.TA} (ho : PE X o to) (ha : PA X es t) (h0 : es = [] → ∀ σ H Q, t σ H Q → Q [] H) (hbase : attributeBase o name X.env (eval o X.env) = eval o X.env) (hline : (apos.endLine == cpos.line) = true) (hs : es.all noStar = true) (hlen : es.length < 20) :
    PE X (.Call (.Attribute o name apos) es [] cpos) (fun σ H Q => to σ H fun x H1 => ∃ T id r, PlainAttrs T ∧ PySem.Slot T name id ∧ typeOf (.builtin id) = pure (.type "method_descriptor") ∧ MtR X id r ∧ tyV X.K T x H1 ∧ t σ H1 fun xs H2 => r x xs H2 Q) := by
  refine ⟨fun pins s σ H Q I h => ?_⟩
  cases es with
  | nil =>
    refine wpAny_Call_method0_late hbase hline (thn (ho.run pins s σ H _ I h) fun v s1 ⟨x, H1, I1, r1, T, id, r, pa, slot, hty, hm, ty, q1⟩ => ?_)
    obtain ⟨h1, h2⟩ := tyV_is I1 r1 ty
    exact ⟨T, id, pa, slot, hty, h1, h2, Calls.callWith_builtin rfl (PySem.evalArgs_none (hm pins s1 σ H1 x [] v [] Q I1 r1 .nil (h0 rfl _ _ _ q1)))⟩
  | cons e es =>
    have hs' := hs
    rw [List.all_cons, Bool.and_eq_true] at hs'
    have hfew : ((backTo cpos (starEach (e :: es) X.env)).all (fun x => !x.1) && (backToKw cpos (keywordEach [] X.env)).all (fun x => x.1.isSome)
      && decide ((e :: es).length + ([] : List Keyword).length + (if ([] : List Keyword).isEmpty then 0 else 1) < 30)) = true := by
      rw [stars_few hs]
      show (true && true && decide ((e :: es).length + 0 + 0 < 30)) = true
      rw [decide_eq_true (by omega)]
      rfl
    refine wpAny_Call_method_late hbase hfew hline rfl (thn (ho.run pins s σ H _ I h) fun v s1 ⟨x, H1, I1, r1, T, id, r, pa, slot, hty, hm, ty, q1⟩ => ?_)
    obtain ⟨h1, h2⟩ := tyV_is I1 r1 ty
    refine ⟨T, id, pa, slot, hty, h1, h2, ?_⟩
    have hA := ha.run cpos pins s1 σ H1 _ I1 q1
    rw [star_cons hs'.1] at hA ⊢
    refine Calls.callWith_builtin (by show (false || (backTo cpos (starEach es X.env)).any (·.1)) = false; rw [stars_plain hs'.2] <;> rfl) (Calls.evalArgs_plain ?_)
    exact thn hA fun us s2 ⟨vs, H2, I2, r2, q2⟩ => hm pins s2 σ H2 x vs v us Q I2 r1 r2 q2
theorem tL_nil {σ : L2.St} {H : Hp} {Q : List V → Hp → Prop} (h : tL C E Wx .nil σ H Q) : Q [] H := by
  obtain ⟨Fo, Tm, ι, ω, st, R, hh⟩ := h
  have hh : Fut E Wx (· = σ) Fo Tm ι ω σ H st ((M.pure [] : M (List D)) st) (GL E Fo Tm Q) := hh
  exact hh.pure_use rfl (Go.refl R) [] rfl
theorem tH_nil {σ : L2.St} {H : Hp} {Q : List V → Hp → Prop} (h : tH C E Wx .nil σ H Q) : Q [] H := by
  obtain ⟨Fo, Tm, ι, ω, st, R, hh⟩ := h
  have hh : Fut E Wx (· = σ) Fo Tm ι ω σ H st ((M.pure [] : M (List Hd)) st) (GH E Fo Tm σ Q) := hh
  exact hh.pure_use rfl (Go.refl R) [] ⟨rfl, fun _ z => z⟩
theorem IsL.one_is {F : Addr → Prop} {H : Hp} {ι : List Addr} {d : D} {xs : List V} (h : IsL E H F ι [d] xs) : ∃ x, xs = [x] ∧ Is E H F ι d x := by
  obtain ⟨x, r, e, p, h⟩ := h
  have h : r = [] := h
  subst h
  exact ⟨x, e, p⟩
theorem IsL.two_is {F : Addr → Prop} {H : Hp} {ι : List Addr} {d d' : D} {xs : List V} (h : IsL E H F ι [d, d'] xs) : ∃ x y, xs = [x, y] ∧ Is E H F ι d x ∧ Is E H F ι d' y := by
  obtain ⟨x, r, e, p, h⟩ := h
  obtain ⟨y, e2, p2⟩ := h.one_is
  subst e2
  exact ⟨x, y, e, p, p2⟩
def isMut : BM → Bool
  | .append | .pop0 | .pop1 | .remove | .insert | .clear | .reverse => true
  | _ => false
/-- a list's method that changes it: from the contents -/
theorem mut_ok {F : Addr → Prop} {H : Hp} {ι : List Addr} (b : BM) (hb : b ∈ bmAll) (hm : isMut b = true) {ds : List D} {vs : List V} {f : D → Option (D × D)} {x : Addr} {d r d' : D} (l : IsL E H F ι ds vs) (e : bmch b ds = some f) (fa : F x) (cl : Cell E H F ι x d) (ed : f d = some (r, d')) {Q : VK}
    (k : ∀ (ob : HO) (w : V), ChgOk E H F ι x w r d' ob → Q w (upd H x ob)) : ∃ rr, MtR X (bmId b).2 rr ∧ rr (.ref x) vs H Q := by
  unfold bmch at e
  split at e <;> first | (exact absurd hm (by decide)) | (exact absurd hb (by decide)) | (cases e; done) | skip
  · -- append
    cases e
    obtain ⟨y, rfl, hy⟩ := l.one_is
    cases d with
    | lst l0 =>
      obtain ⟨xs, hx, hl⟩ := cl
      simp only at ed
      split at ed <;> cases ed
      rename_i c
      refine ⟨_, mt_append, x, xs, y, rfl, rfl, hx, by rw [hl.length]; exact c, k _ _ ⟨trivial, rfl, xs ++ [y], upd_same, ?_⟩⟩
      exact (Cell.upd hx trivial fa hl).append (.one (Is.upd hx trivial fa hy))
    | _ => cases ed
  · -- pop
    cases e
    have hv : vs = [] := l
    subst hv
    cases d with
    | lst l0 =>
      obtain ⟨xs, hx, hl⟩ := cl
      obtain ⟨y, e1, e2⟩ := Option.map_eq_some_iff.mp ed
      cases e2
      have e1' : l0[l0.length - 1]? = some r := by rw [← List.getLast?_eq_getElem?]; exact e1
      obtain ⟨v, e3, hv⟩ := hl.get e1'
      rw [← hl.length] at e3
      refine ⟨_, mt_pop, x, xs, v, rfl, rfl, hx, e3, k _ _ ⟨trivial, Is.upd hx trivial fa hv, xs.dropLast, upd_same, ?_⟩⟩
      exact (Cell.upd hx trivial fa hl).dropLast
    | _ => cases ed
  · -- pop at
    cases e
    obtain ⟨y, rfl, hy⟩ := l.one_is
    cases hy
    cases d with
    | lst l0 =>
      obtain ⟨xs, hx, hl⟩ := cl
      simp only at ed
      split at ed
      · rename_i c
        simp only [Bool.and_eq_true, decide_eq_true_eq] at c
        obtain ⟨z, e1, e2⟩ := Option.map_eq_some_iff.mp ed
        cases e2
        obtain ⟨v, e3, hv⟩ := hl.get e1
        have hlt := (List.getElem?_eq_some_iff.mp e3).1
        refine ⟨_, mt_popAt, x, xs, _, _, v, rfl, rfl, hx, by omega, by omega, seqIndex_of c.1 (by omega), e3, k _ _ ⟨trivial, Is.upd hx trivial fa hv, _, upd_same, ?_⟩⟩
        exact (Cell.upd hx trivial fa hl).eraseIdx _
      · cases ed
    | _ => cases ed
  · -- insert
    cases e
    obtain ⟨y, z, rfl, hy, hz⟩ := l.two_is
    cases hy
    cases d with
    | lst l0 =>
      obtain ⟨xs, hx, hl⟩ := cl
      simp only at ed
      split at ed <;> cases ed
      rename_i c
      simp only [Bool.and_eq_true, decide_eq_true_eq] at c
      refine ⟨_, mt_insert, x, xs, _, z, rfl, rfl, hx, by rw [hl.length]; exact c.2, c.1.1, by omega, k _ _ ⟨trivial, rfl, _, upd_same, ?_⟩⟩
      have h1 : ∀ ob, IsL E (upd H x ob) F ι l0 xs := fun ob => Cell.upd hx trivial fa hl
      exact (((h1 _).take _).append (.one (Is.upd hx trivial fa hz))).append ((h1 _).drop _)
    | _ => cases ed
  · -- clear
    cases e
    have hv : vs = [] := l
    subst hv
    cases d with
    | lst l0 =>
      obtain ⟨xs, hx, hl⟩ := cl
      cases ed
      exact ⟨_, mt_clear, x, xs, rfl, rfl, hx, k _ _ ⟨trivial, rfl, [], upd_same, rfl⟩⟩
    | _ => cases ed
  · -- reverse
    cases e
    have hv : vs = [] := l
    subst hv
    cases d with
    | lst l0 =>
      obtain ⟨xs, hx, hl⟩ := cl
      cases ed
      exact ⟨_, mt_reverse, x, xs, rfl, rfl, hx, k _ _ ⟨trivial, rfl, _, upd_same, (Cell.upd hx trivial fa hl).reverse⟩⟩
    | _ => cases ed
theorem MtR.any {id : String} {r' : V → List V → Hp → VK → Prop} (h : ∀ x xs H Q, r' x xs H Q → ∃ r, MtR X id r ∧ r x xs H Q) : MtR X id r' := fun pins s σ H x xs v us Q I rx rs q => by
  obtain ⟨r, ho, hr⟩ := h x xs H Q q
  exact ho pins s σ H x xs v us Q I rx rs hr
def rAnyMt (X : Cx) (id : String) : V → List V → Hp → VK → Prop := fun x xs H Q => ∃ r, MtR X id r ∧ r x xs H Q
theorem mt_any {id : String} : MtR X id (rAnyMt X id) := MtR.any fun _ _ _ _ h => h
/-- methods that leave the object: from the values -/
theorem bmop_ok (ok : EnvOk E X) (hu : X.A.units + 65 < cLine) (b : BM) (hb : b ∈ bmAll) (hg : b ≠ .get2) {Fo Tm : Addr → Prop} {ι : List Addr} {ω : List (Option Addr)} {σ : L2.St} {H : Hp} {st : W} {ds : List D} {vs : List V} {d : D} {x : V} {h : Hd} {Q : VK} (R : Rel E Fo Tm ι ω σ H st)
    (l : PkL E H (FF Fo Tm ι ω) ι ds vs) (px : Pk E H (FF Fo Tm ι ω) ι d x) (e : bmop b d ds = some h) (an : Ans E Fo Tm ι ω σ H st h Q) : rAnyMt X (bmId b).2 x vs H Q := by
  unfold bmop at e
  split at e <;> first | (exact absurd hb (by decide)) | (exact absurd rfl hg) | (cases e; done) | skip
  · -- join
    obtain ⟨y, rfl, py⟩ := l.one
    cases px
    obtain ⟨ys, e1, e2⟩ := Option.bind_eq_some_iff.mp e
    obtain ⟨m, e3, e4⟩ := Option.bind_eq_some_iff.mp e1
    split at e2 <;> cases e2
    rename_i c
    obtain ⟨p, xs, rfl, r, hl⟩ := seq_is e3 py
    have := strsD_is e4 hl
    subst this
    exact ⟨_, mt_join, _, p, ys, rfl, rfl, ok.K ▸ r, c, an.val R rfl (.inl rfl)⟩
  · -- split
    obtain ⟨y, rfl, py⟩ := l.one
    cases px
    cases py
    split at e <;> cases e
    rename_i c
    simp only [ne_eq, Bool.and_eq_true, decide_eq_true_eq, decide_not, Bool.not_eq_true', decide_eq_false_iff_not] at c
    refine ⟨_, mt_split, _, _, rfl, rfl, by simpa using c.1, c.2, fun z hz => an.lst R ?_ hz⟩
    have sl : ∀ ys : List Str, IsL E H (FF Fo Tm ι ω) ι (ys.map .str) (ys.map V.str) := fun ys => by
      induction ys with
      | nil => exact rfl
      | cons y ys ih => exact ⟨_, _, rfl, rfl, ih⟩
    exact sl _
  · -- get
    obtain ⟨y, rfl, py⟩ := l.one
    obtain ⟨p, kvs, rfl, r, rfl, hl⟩ := px
    split at e <;> cases e
    rename_i c
    obtain ⟨k, rfl, rfl⟩ := fk_key c py
    refine ⟨_, mt_get1 (by omega), p, _, _, rfl, rfl, DGet.k r, ?_⟩
    cases hk : look (kvs.map fun p => keyD p.1) _ (keyD k) with
    | none =>
      rw [hk] at an
      rw [look_none hl hk]
      exact an.val R rfl (.inl rfl)
    | some w =>
      rw [hk] at an
      obtain ⟨v, e1, e2⟩ := look_key hl hk
      rw [e1]
      exact an.val R e2 (.inl rfl)
  · -- index
    obtain ⟨y, rfl, py⟩ := l.one
    obtain ⟨p, xs, rfl, r, hl⟩ := px
    split at e
    · rename_i c
      rw [Bool.and_eq_true] at c
      obtain ⟨j, e1, e2⟩ := Option.map_eq_some_iff.mp e
      subst e2
      have p1 := D.ok_pure c.1
      have p2 : D.pureL _ = true := D.ok_pure c.2
      obtain ⟨z, z1, z2, z3⟩ := find_is e1
      have dx' : Dp X.K H y _ := ok.K ▸ py.dp p1
      have dy' : Dp X.K H (.ref p) (.list (D.pyL _)) := ok.K ▸ Pk.dp (F := FF Fo Tm ι ω) (ι := ι) (d := .lst _) p2 ⟨p, xs, rfl, r, hl⟩
      refine ⟨_, mt_indexD hu, p, y, _, D.pyL _, j, z.py, rfl, rfl, dy', dx', D.shaped c.2, D.shaped c.1, by rw [pyL_get, z1]; rfl, by rw [D.py_eqv (pureL_get p2 z1) p1]; exact z2, fun m z' hm hz => ?_, an.val R rfl (.inl rfl)⟩
      rw [pyL_get] at hz
      obtain ⟨w, w1, w2⟩ := Option.map_eq_some_iff.mp hz
      subst w2
      rw [D.py_eqv (pureL_get p2 w1) p1]
      exact z3 m w hm w1
    · cases e
  · -- find
    obtain ⟨y, z, rfl, py, pz⟩ := l.two
    cases px
    cases py
    cases pz
    cases e
    exact ⟨_, mt_find3, _, _, _, rfl, rfl, an.val R rfl (.inl rfl)⟩
  · -- strip
    have hv : vs = [] := l
    subst hv
    cases px
    split at e <;> cases e
    rename_i c
    exact ⟨_, mt_strip, _, rfl, rfl, c, an.val R rfl (.inl rfl)⟩
  · -- upper
    have hv : vs = [] := l
    subst hv
    cases px
    split at e <;> cases e
    rename_i c
    exact ⟨_, mt_upper, _, rfl, rfl, c, an.val R rfl (.inl rfl)⟩
end
section
variable {X : Cx} {C : Cfg} {E : Env} {Wx : WX} {c : SC} {a b o e : Expr} {es : List Expr} {ta tb tc : TE} {tl : TL} {pos cpos apos : Pos} {name : Str}
/-- what is seen of the text of a method's call -/
structure BmText (a : Expr) (es : List Expr) (apos cpos : Pos) : Prop where
  nc : noCall0 a = true
  line : (apos.endLine == cpos.line) = true
  stars : es.all noStar = true
  few : es.length < 20
theorem Fut.chk {β : Type} {Sg : L2.St → Prop} {Fo Tm : Addr → Prop} {ι : List Addr} {ω : List (Option Addr)} {σ : L2.St} {H : Hp} {st : W} {b : Bool} {f : Unit → M β} {G : β → (Addr → Prop) → List Addr → List (Option Addr) → L2.St → Hp → W → Prop} {s : W} (h : Fut E Wx Sg Fo Tm ι ω σ H st ((EV.chk b >>= f) s) G) : b = true ∧ Fut E Wx Sg Fo Tm ι ω σ H st (f () s) G := by
  cases b with
  | true => exact ⟨rfl, h⟩
  | false => exact h.elim
theorem s_bmMut (g : Good X C E Wx c) {b : BM} (hb : b ∈ bmAll) (hm : isMut b = true) (tx : BmText a es apos cpos) (ha : PE X a (tE C E Wx ta)) (hes : PA X es (tL C E Wx tl)) (h0 : es = [] → ∀ σ H Q, tL C E Wx tl σ H Q → Q [] H) :
    PE X (.Call (.Attribute a (bmNm b).1 apos) es [] cpos) (tE C E Wx (.bm b ta tl)) := by
  obtain ⟨pa, sl, ty⟩ := bm_facts b hb
  refine (pe_bmG ha hes (fun he σ H Q h => by subst he; exact h0 rfl σ H Q h) (base_of tx.nc) tx.line tx.stars tx.few).imp fun σ H Q ⟨Fo, Tm, ι, ω, st, R, hh⟩ => ?_
  have hh : Fut E Wx (· = σ) Fo Tm ι ω σ H st ((evE C ta >>= fun h => EV.peek h >>= fun x => chk (bmTy b x) >>= fun _ => evL C tl >>= fun ds => liftO (bmch b ds) >>= fun f => EV.change h f) st) (GE E Fo Tm σ Q) := by
    have e : evE C (.bm b ta tl) = (evE C ta >>= fun h => EV.peek h >>= fun x => chk (bmTy b x) >>= fun _ => evL C tl >>= fun ds => liftO (bmch b ds) >>= fun f => EV.change h f) := by
      cases b <;> first | (exact absurd hm (by decide)) | rfl
    rw [← e]
    exact hh
  refine nextE1 R hh rfl fun h x T2 ι2 ω2 H2 st2 g2 q2 hh => ?_
  obtain ⟨d, px, hh⟩ := Fut.peek g2.rel q2 hh
  obtain ⟨ct, hh⟩ := hh.chk
  refine ⟨_, _, _, pa, sl, ty, mt_any, bmTy_is b hb ct px, ?_⟩
  refine nextL g2 hh rfl fun ds vs T3 ι3 ω3 H3 st3 g3' g3 l3 hh => ?_
  obtain ⟨f, ef, hh⟩ := hh.lift
  have q3 := q2.keep g3'.kp fun a z => g3'.same a (.inr (.inl z))
  have g4 := g3.less (T1 := T2) fun a z => .inr z
  have q4 : Hk E H3 (FF Fo (orP T2 Tm) ι3 ω3) ι3 σ T2 h x := q3.less fun a z => FF.less (fun _ z => .inr z) z
  obtain ⟨r, st4, ec, hh⟩ : ∃ r st4, EV.change h f st3 = .ok r st4 ∧ Fut E Wx (· = σ) Fo Tm ι ω σ H st ((M.pure r : M Hd) st4) (GE E Fo Tm σ Q) := by
    have e : (EV.change h f >>= fun r => (M.pure r : M Hd)) = EV.change h f := by
      funext s
      show M.bind (EV.change h f) (fun r => (M.pure r : M Hd)) s = _
      unfold M.bind
      cases EV.change h f s <;> rfl
    rw [← e] at hh
    exact hh.op (change_nx h f st3)
  obtain ⟨p, d1, r1, d2, e1, e2, e3, e4, fa, k⟩ := g4.change q4 ec
  subst e1 e4
  obtain ⟨rr, m1, m2⟩ := mut_ok (X := X) (F := FF Fo (orP T2 Tm) ι3 ω3) b hb hm l3.dr ef fa e2 e3 (Q := Q) fun ob w ck => by
    have g5 := k ob w ck
    exact (Fut.pans g5 hh).val g5.rel0 ck.2.1.dr (.inl rfl)
  exact ⟨rr, m1, m2⟩
theorem change_end {h : Hd} {f : D → Option (D × D)} : (EV.change h f >>= fun r => (M.pure r : M Hd)) = EV.change h f := by
  funext s
  show M.bind (EV.change h f) (fun r => (M.pure r : M Hd)) s = _
  unfold M.bind
  cases EV.change h f s <;> rfl
/-- l.extend(m) -/
theorem ext_ok {F : Addr → Prop} {H : Hp} {ι : List Addr} {ds : List D} {vs : List V} {f : D → Option (D × D)} {x : Addr} {d r d' : D} (l : PkL E H F ι ds vs) (e : bmch .extend ds = some f) (fa : F x) (cl : Cell E H F ι x d) (ed : f d = some (r, d')) {Q : VK}
    (k : ∀ (ob : HO) (w : V), ChgOk E H F ι x w r d' ob → Q w (upd H x ob)) : ∃ rr, MtR X "list.extend" rr ∧ rr (.ref x) vs H Q := by
  unfold bmch at e
  split at e <;> first | (rename_i z; cases z; done) | (cases e; done) | skip
  cases e
  obtain ⟨y, rfl, py⟩ := l.one
  obtain ⟨b, zs, rfl, rz, lz⟩ := py
  cases d with
  | lst l0 =>
    obtain ⟨xs, hx, hl⟩ := cl
    simp only at ed
    split at ed <;> cases ed
    rename_i c
    exact ⟨_, mt_extendR, x, b, xs, zs, rfl, rfl, hx, rz, by rw [hl.length, lz.length]; exact c, k _ _ ⟨trivial, rfl, xs ++ zs, upd_same, (Cell.upd hx trivial fa hl).append (Cell.upd hx trivial fa lz)⟩⟩
  | _ => cases ed
theorem s_bmExt (g : Good X C E Wx c) (tx : BmText a es apos cpos) (ha : PE X a (tE C E Wx ta)) (hes : PA X es (tH C E Wx tl)) (hne : es ≠ []) :
    PE X (.Call (.Attribute a "extend" apos) es [] cpos) (tE C E Wx (.bm .extend ta tl)) := by
  obtain ⟨pa, sl, ty⟩ := bm_facts .extend (by decide)
  refine (pe_bmG ha hes (fun he => absurd he hne) (base_of tx.nc) tx.line tx.stars tx.few).imp fun σ H Q ⟨Fo, Tm, ι, ω, st, R, hh⟩ => ?_
  have hh : Fut E Wx (· = σ) Fo Tm ι ω σ H st ((evE C ta >>= fun h => EV.peek h >>= fun x => chk (bmTy .extend x) >>= fun _ => evH C tl >>= fun hs => EV.peekL hs >>= fun ds => liftO (bmch .extend ds) >>= fun f => EV.change h f) st) (GE E Fo Tm σ Q) := hh
  refine nextE1 R hh rfl fun h x T2 ι2 ω2 H2 st2 g2 q2 hh => ?_
  obtain ⟨d, px, hh⟩ := Fut.peek g2.rel q2 hh
  obtain ⟨ct, hh⟩ := hh.chk
  refine ⟨_, _, _, pa, sl, ty, mt_any, bmTy_is .extend (by decide) ct px, ?_⟩
  refine nextH g2 hh rfl fun hs vs T3 ι3 ω3 H3 st3 g3' g3 l3 hh => ?_
  obtain ⟨ds, pl, hh⟩ := Fut.peekL g3'.rel l3 hh
  obtain ⟨f, ef, hh⟩ := hh.lift
  have q3 := q2.keep g3'.kp fun a z => g3'.same a (.inr (.inl z))
  have g4 := g3.less (T1 := T2) fun a z => .inr z
  have q4 : Hk E H3 (FF Fo (orP T2 Tm) ι3 ω3) ι3 σ T2 h x := q3.less fun a z => FF.less (fun _ z => .inr z) z
  have pl4 : PkL E H3 (FF Fo (orP T2 Tm) ι3 ω3) ι3 ds vs := pl.less fun a z => FF.less (fun _ z => .inr z) z
  rw [← change_end] at hh
  obtain ⟨r, st4, ec, hh⟩ := hh.op (change_nx h f st3)
  obtain ⟨p, d1, r1, d2, e1, e2, e3, e4, fa, k⟩ := g4.change q4 ec
  subst e1 e4
  obtain ⟨rr, m1, m2⟩ := ext_ok (X := X) (F := FF Fo (orP T2 Tm) ι3 ω3) pl4 ef fa e2 e3 (Q := Q) fun ob w ck => by
    have g5 := k ob w ck
    exact (Fut.pans g5 hh).val g5.rel0 ck.2.1.dr (.inl rfl)
  exact ⟨rr, m1, m2⟩
theorem s_bmOp (g : Good X C E Wx c) {b : BM} (hb : b ∈ bmAll) (hm : isMut b = false) (h2 : b ≠ .get2) (h3 : b ≠ .extend) (tx : BmText a es apos cpos) (ha : PE X a (tE C E Wx ta)) (hes : PA X es (tH C E Wx tl)) (h0 : es = [] → ∀ σ H Q, tH C E Wx tl σ H Q → Q [] H) :
    PE X (.Call (.Attribute a (bmNm b).1 apos) es [] cpos) (tE C E Wx (.bm b ta tl)) := by
  obtain ⟨pa, sl, ty⟩ := bm_facts b hb
  refine (pe_bmG ha hes (fun he σ H Q h => h0 he σ H Q h) (base_of tx.nc) tx.line tx.stars tx.few).imp fun σ H Q ⟨Fo, Tm, ι, ω, st, R, hh⟩ => ?_
  have hh : Fut E Wx (· = σ) Fo Tm ι ω σ H st ((evE C ta >>= fun h => EV.peek h >>= fun x => chk (bmTy b x) >>= fun _ => evH C tl >>= fun hs => EV.peekL hs >>= fun ds => EV.peek h >>= fun x => liftO (bmop b x ds)) st) (GE E Fo Tm σ Q) := by
    have e : evE C (.bm b ta tl) = (evE C ta >>= fun h => EV.peek h >>= fun x => chk (bmTy b x) >>= fun _ => evH C tl >>= fun hs => EV.peekL hs >>= fun ds => EV.peek h >>= fun x => liftO (bmop b x ds)) := by
      cases b <;> first | (exact absurd hm (by decide)) | (exact absurd rfl h2) | (exact absurd rfl h3) | rfl
    rw [← e]
    exact hh
  refine nextE1 R hh rfl fun h x T2 ι2 ω2 H2 st2 g2 q2 hh => ?_
  obtain ⟨d, px, hh⟩ := Fut.peek g2.rel q2 hh
  obtain ⟨ct, hh⟩ := hh.chk
  refine ⟨_, _, _, pa, sl, ty, mt_any, bmTy_is b hb ct px, ?_⟩
  refine nextH g2 hh rfl fun hs vs T3 ι3 ω3 H3 st3 g3' g3 l3 hh => ?_
  obtain ⟨ds, pl, hh⟩ := Fut.peekL g3'.rel l3 hh
  have q3 := q2.keep g3'.kp fun a z => g3'.same a (.inr (.inl z))
  obtain ⟨d3, px3, hh⟩ := Fut.peek g3'.rel q3 hh
  obtain ⟨r, er, an⟩ := Fut.ans g3 hh
  exact bmop_ok g.env g.hu b hb h2 g3.rel0 pl.dr.dr px3.dr.dr er an
theorem s_bmGet2 (g : Good X C E Wx c) (tx : BmText a es apos cpos) (ha : PE X a (tE C E Wx ta)) (hes : PA X es (tL C E Wx tl)) (hne : es ≠ []) :
    PE X (.Call (.Attribute a "get" apos) es [] cpos) (tE C E Wx (.bm .get2 ta tl)) := by
  obtain ⟨pa, sl, ty⟩ := bm_facts .get2 (by decide)
  refine (pe_bmG ha hes (fun he => absurd he hne) (base_of tx.nc) tx.line tx.stars tx.few).imp fun σ H Q ⟨Fo, Tm, ι, ω, st, R, hh⟩ => ?_
  have hh : Fut E Wx (· = σ) Fo Tm ι ω σ H st ((evE C ta >>= fun h => EV.peek h >>= fun x => chk (bmTy .get2 x) >>= fun _ => evL C tl >>= fun ds => EV.peek h >>= fun x => liftO (bmop .get2 x ds)) st) (GE E Fo Tm σ Q) := hh
  refine nextE1 R hh rfl fun h x T2 ι2 ω2 H2 st2 g2 q2 hh => ?_
  obtain ⟨d, px, hh⟩ := Fut.peek g2.rel q2 hh
  obtain ⟨ct, hh⟩ := hh.chk
  refine ⟨_, _, _, pa, sl, ty, mt_any, bmTy_is .get2 (by decide) ct px, ?_⟩
  refine nextL g2 hh rfl fun ds vs T3 ι3 ω3 H3 st3 g3' g3 l3 hh => ?_
  have q3 := q2.keep g3'.kp fun a z => g3'.same a (.inr (.inl z))
  obtain ⟨d3, px3, hh⟩ := Fut.peek g3'.rel q3 hh
  obtain ⟨r, er, an⟩ := Fut.ans g3 hh
  have px4 := px3.dr.dr
  have l4 := l3.dr.dr
  unfold bmop at er
  split at er <;> first | (rename_i z _; cases z; done) | (rename_i z; cases z; done) | (cases er; done) | skip
  obtain ⟨y, z, rfl, hy, hz⟩ := l4.two_is
  obtain ⟨p, kvs, rfl, rk, rfl, hl⟩ := px4
  split at er <;> cases er
  rename_i cc
  obtain ⟨k, rfl, rfl⟩ := fk_key cc hy.pk
  refine ⟨_, mt_get2 (by have := g.hu; omega), p, _, z, _, rfl, rfl, DGet.k rk, ?_⟩
  cases hk : look (kvs.map fun p => keyD p.1) _ (keyD k) with
  | none =>
    rw [hk] at an
    rw [look_none hl hk]
    exact an.val g3.rel0 hz (.inl rfl)
  | some w =>
    rw [hk] at an
    obtain ⟨v, e1, e2⟩ := look_key hl hk
    rw [e1]
    exact an.val g3.rel0 e2 (.inl rfl)
/-! ### replace, of written texts -/
/-- what begins by a written text -/
def headT : Expr → Bool
  | .Call (.Attribute o _ _) _ [] _ => match o with
    | .Constant (.str _) _ _ => true
    | o => noCall0 o && headT o
  | _ => false
theorem bind_const {M : Model} {A : Around} {Ee : Value → Shared → Prop} {env : PySem.Env} {s : Shared} {x : Str} {j : Nat} {p : Pos} {f : Value → Sem Value} {Q : Value → Shared → Prop} (h : wpAny M A (eval (.Constant (.str x) j p) env >>= f) Q Ee s) : wpAny M A (f (.str x s.toks)) Q Ee { s with toks := s.toks + 1 } :=
  fun Γ p hΓ => h Γ p hΓ
theorem headT_is {env : PySem.Env} : ∀ {e : Expr}, headT e = true → ∃ (x : Str) (j : Nat) (p : Pos) (f : Value → Sem Value), eval e env = (eval (.Constant (.str x) j p) env >>= f)
  | .Call (.Attribute o n apos) args [] pos, h => by
    cases o with
    | Constant k j p =>
      cases k with
      | str x =>
        have e0 := arm_eval_Call (.Constant (.str x) j p) n apos args [] pos env
        rw [show attributeBase (.Constant (.str x) j p) n env (eval (.Constant (.str x) j p) env) = eval (.Constant (.str x) j p) env from rfl] at e0
        exact ⟨x, j, p, _, e0⟩
      | _ => cases h
    | Call o' args' kws' pos' =>
      have h : (noCall0 (.Call o' args' kws' pos') && headT (.Call o' args' kws' pos')) = true := h
      rw [Bool.and_eq_true] at h
      obtain ⟨x, j, p, f, e⟩ := headT_is (e := .Call o' args' kws' pos') h.2
      have e0 := arm_eval_Call (.Call o' args' kws' pos') n apos args [] pos env
      rw [base_of h.1, e, bind_assoc] at e0
      exact ⟨x, j, p, _, e0⟩
    | _ => cases h
  | .Call (.Attribute o n apos) args (_ :: _) pos, h => by cases h
theorem toks_head {M : Model} {A : Around} {Ee : Value → Shared → Prop} {env : PySem.Env} {s : Shared} {e : Expr} {Q : Value → Shared → Prop} (g : headT e = true) (h : wpAny M A (eval e env) Q Ee s) : wpAny M A (eval e env) (fun v s' => 1 ≤ s'.toks ∧ Q v s') Ee s := by
  obtain ⟨x, j, p, f, eq⟩ := headT_is (env := env) g
  rw [eq] at h ⊢
  refine wpAny_bind (Calls.Constant_str ?_)
  exact wpAny_mono (wpAny_toks_of (n := 1) (Nat.le_add_left 1 s.toks) (bind_const h)) (fun _ _ z => z) fun _ _ z => z.2
theorem pe_replH {o : Expr} {to : L2.TE} {y z : Str} {j k : Nat} {c0 c1 apos cpos : Pos} (ho : PE X o to) (hg : headT o = true) (hyz : (y == z) = false) (hbase : attributeBase o "replace" X.env (eval o X.env) = eval o X.env) (hline : (apos.endLine == cpos.line) = true) :
    PE X (.Call (.Attribute o "replace" apos) [.Constant (.str y) j c0, .Constant (.str z) k c1] [] cpos) (fun σ H Q => to σ H fun v H1 => ∃ x, v = .str x ∧ x.length + (x.length + 1) * z.length ≤ 16777216 ∧ Q (.str (Txt.replace x y z)) H1) := by
  refine ⟨fun pins s σ H Q I h => ?_⟩
  have stars : starEach [.Constant (.str y) j c0, .Constant (.str z) k c1] X.env = [(false, eval (.Constant (.str y) j c0) X.env), (false, eval (.Constant (.str z) k c1) X.env)] := rfl
  refine PySem.Call_method2 hbase stars hline (wpAny_mono (toks_head hg (ho.run pins s σ H _ I h)) (fun v s1 q => ?_) fun _ _ z => z)
  obtain ⟨hk, v', H1, I1, r1, x, e1, hb, q⟩ := q
  subst e1
  obtain ⟨tx, e2⟩ := r1
  subst e2
  have slot : PySem.Slot "str" "replace" "str.replace" := PySem.F.slot_str_replace
  refine ⟨"str", _, PySem.F.plainAttrs_str, slot, PySem.F.type_str_replace, typeIs_str _ _ _, (fun _ e => nomatch e), Calls.callWith_builtin rfl (Calls.evalArgs_plain (Calls.spliced_cons ?_))⟩
  refine Calls.Constant_str (Calls.spliced_cons (Calls.Constant_str (Calls.spliced_nil ?_)))
  have t1 : s1.toks ≠ 0 := by omega
  have t2 : s1.toks + 1 ≠ 0 := by omega
  have t3 : s1.toks ≠ s1.toks + 1 := by omega
  exact PySem.SC.replace t1 t2 t3 hyz hb fun t' k => ⟨.str (Txt.replace x y z), H1, I1.tok k, ⟨t', rfl⟩, q⟩
theorem s_repl {o : Expr} {to : TE} {y z : Str} {j k : Nat} {c0 c1 apos cpos : Pos} (ho : PE X o (tE C E Wx to)) (hg : headT o = true) (hyz : (y == z) = false) (hn : noCall0 o = true) (hline : (apos.endLine == cpos.line) = true) :
    PE X (.Call (.Attribute o "replace" apos) [.Constant (.str y) j c0, .Constant (.str z) k c1] [] cpos) (tE C E Wx (.bm .replace2 to (.cons (.con (.str y)) (.cons (.con (.str z)) .nil)))) := by
  refine (pe_replH ho hg hyz (base_of hn) hline).imp fun σ H Q ⟨Fo, Tm, ι, ω, st, R, hh⟩ => ?_
  have eqB : evE C (.bm .replace2 to (.cons (.con (.str y)) (.cons (.con (.str z)) .nil))) = (evE C to >>= fun h => EV.peek h >>= fun x => chk (bmTy .replace2 x) >>= fun _ => EV.peek h >>= fun x => liftO (bmop .replace2 x [.str y, .str z])) := by
    show (evE C to >>= fun h => EV.peek h >>= fun x => chk (bmTy .replace2 x) >>= fun _ => _) = _
    congr 1
  rw [eqB] at hh
  refine nextE1 R hh rfl fun h x T2 ι2 ω2 H2 st2 g2 q2 hh => ?_
  obtain ⟨d, pd, hh⟩ := Fut.peek g2.rel q2 hh
  cases hc : bmTy .replace2 d with
  | false => rw [hc] at hh; exact hh.elim
  | true =>
    rw [hc] at hh
    have hh : Fut E Wx (· = σ) Fo Tm ι ω σ H st ((EV.peek h >>= fun x => liftO (bmop .replace2 x [.str y, .str z])) st2) (GE E Fo Tm σ Q) := hh
    obtain ⟨d', pd', hh⟩ := Fut.peek g2.rel q2 hh
    obtain ⟨r, er, an⟩ := Fut.ans g2 hh
    cases d' with
    | str s =>
      cases pd'
      have er : (if s.length + (s.length + 1) * z.length ≤ line then some (.str (Txt.replace s y z), false) else none : Option Hd) = some r := er
      split at er <;> cases er
      rename_i c
      exact ⟨s, rfl, c, an.val g2.rel0 rfl (.inl rfl)⟩
    | _ => cases er
end
end EV

set_option autoImplicit false
set_option linter.all false
set_option maxRecDepth 10000
namespace EV
open PySem L2 PyProof.Rows

/-- the items that a walk gives, whatever is done meanwhile -/
def ItFor (E : Env) (Fo Tm : Addr → Prop) (ι : List Addr) (ω : List (Option Addr)) (σ : L2.St) (H : Hp) (st : W) (J : It) (ds : List D) : Prop :=
  ∀ T' ι' ω' σ' H' st', Go E Fo Tm ι ω σ H st T' ι' ω' σ' H' st' → ∀ i : Nat,
    (∀ d, ds[i]? = some d → J.go i H' ∧ ∀ x H'', J.yld i H' x H'' → Go E Fo (orP T' Tm) ι' ω' σ' H' st' noP ι' ω' σ' H'' st' ∧ Is E H'' (FF Fo (orP T' Tm) ι' ω') ι' d x) ∧
    (ds[i]? = none → J.stop i H')
def GI (E : Env) (Fo Tm : Addr → Prop) (σ : L2.St) (R : It → Hp → Prop) : List D × List Nat → (Addr → Prop) → List Addr → List (Option Addr) → L2.St → Hp → W → Prop :=
  fun r T ι' ω' _ H' st' => ∀ J, ItFor E Fo (orP T Tm) ι' ω' σ H' st' J r.1 → R J H'
def tI (C : Cfg) (E : Env) (Wx : WX) (t : TI) : L2.TI := fun σ H R => ∃ Fo Tm ι ω st, Rel E Fo Tm ι ω σ H st ∧ Fut E Wx (· = σ) Fo Tm ι ω σ H st (evI C t st) (GI E Fo Tm σ R)
theorem _root_.L2.PI.imp {X : Cx} {tg e : Expr} {t t' : L2.TI} (h : PI X tg e t) (k : ∀ σ H R, t' σ H R → t σ H R) : PI X tg e t' := ⟨fun pins s σ H R I q => h.run pins s σ H R I (k σ H R q)⟩
section
variable {E : Env} {Wx : WX} {Sg : L2.St → Prop} {Fo Tm T T1 T2 : Addr → Prop} {ι ι1 ι2 : List Addr} {ω ω1 ω2 : List (Option Addr)} {σ0 σ : L2.St} {H H1 H2 : Hp} {st st1 st2 : W} {α : Type} {C : Cfg} {te : TE} {tl : TL} {Q : VK} {F F' : Addr → Prop}
  {G : α → (Addr → Prop) → List Addr → List (Option Addr) → L2.St → Hp → W → Prop}
theorem rd_inj {a : Addr} {xs ys : List V} (h : SqL E.K H a xs) (k : Rd H a (.lst ys)) (n : ∀ o, E.K.lookup a = some o → H a = none) : xs = ys := by
  rcases h with h | ⟨o, its, m, hk, _⟩
  · rcases h with h | ⟨o, h⟩ <;> rcases k with k | ⟨o', k⟩
    · rw [h] at k; cases k; rfl
    · rw [h] at k; cases k
    · rw [h] at k; cases k
    · rw [h] at k; cases k; rfl
  · have := n o hk
    rcases k with k | ⟨o', k⟩ <;> (rw [this] at k; cases k)
/-- a list that is walked -/
theorem it_list {a : Addr} {xs : List V} {ds : List D} (l : IsL E H (FF Fo Tm ι ω) ι ds xs) (k : ∀ T' ι' ω' σ' H' st', Go E Fo Tm ι ω σ H st T' ι' ω' σ' H' st' → Rd H' a (.lst xs)) : ItFor E Fo Tm ι ω σ H st (Itl E.K a) ds := by
  intro T' ι' ω' σ' H' st' g i
  have r := k _ _ _ _ _ _ g
  have l' := g.kp.isL l
  refine ⟨fun d e => ?_, fun e => ⟨xs, .inl r, by have := List.getElem?_eq_none_iff.mp e; rw [l.length]; exact this⟩⟩
  obtain ⟨x, e1, is⟩ := l'.get e
  refine ⟨⟨xs, x, .inl r, e1⟩, fun y H'' ⟨e2, h⟩ => ?_⟩
  subst e2
  have := h xs (.inl r)
  rw [e1] at this
  cases this
  exact ⟨Go.refl g.rel, is⟩
theorem it_tup {a : Addr} {xs : List V} {ds : List D} (l : IsL E H (FF Fo Tm ι ω) ι ds xs) (k : SqT E.K H a xs) : ItFor E Fo Tm ι ω σ H st (Itt E.K a) ds := by
  intro T' ι' ω' σ' H' st' g i
  have r := g.kp.sqt k
  have l' := g.kp.isL l
  refine ⟨fun d e => ?_, fun e => ⟨xs, r, by have := List.getElem?_eq_none_iff.mp e; rw [l.length]; exact this⟩⟩
  obtain ⟨x, e1, is⟩ := l'.get e
  refine ⟨⟨xs, x, r, e1⟩, fun y H'' ⟨e2, h⟩ => ?_⟩
  subst e2
  have := h xs r
  rw [e1] at this
  cases this
  exact ⟨Go.refl g.rel, is⟩
theorem it_str {x : Str} : ItFor E Fo Tm ι ω σ H st (Its x) (x.cps.toList.map fun c => .str ⟨#[c]⟩) := by
  intro T' ι' ω' σ' H' st' g i
  refine ⟨fun d e => ?_, fun e => ?_⟩
  · rw [List.getElem?_map] at e
    obtain ⟨c, e1, e2⟩ := Option.map_eq_some_iff.mp e
    subst e2
    have e3 : x.cps[i]? = some c := by rw [← Array.getElem?_toList]; exact e1
    refine ⟨(Array.getElem?_eq_some_iff.mp e3).1, fun y H'' ⟨e2, c', h1, h2⟩ => ?_⟩
    subst e2 h2
    rw [e3] at h1
    cases h1
    exact ⟨Go.refl g.rel, rfl⟩
  · have := List.getElem?_eq_none_iff.mp e
    show x.cps.size ≤ i
    simpa using this
theorem it_range {lo : Int} {n : Nat} : ItFor E Fo Tm ι ω σ H st (Itr lo n) ((List.range n).map fun (k : Nat) => .int (lo + k)) := by
  intro T' ι' ω' σ' H' st' g i
  refine ⟨fun d e => ?_, fun e => ?_⟩
  · rw [List.getElem?_map] at e
    obtain ⟨c, e1, e2⟩ := Option.map_eq_some_iff.mp e
    subst e2
    obtain ⟨hlt, e3⟩ := List.getElem?_eq_some_iff.mp e1
    rw [List.getElem_range] at e3
    subst e3
    refine ⟨(show i < n by simpa using hlt), fun y H'' ⟨e2, h⟩ => ?_⟩
    subst e2 h
    exact ⟨Go.refl g.rel, rfl⟩
  · have := List.getElem?_eq_none_iff.mp e
    show n ≤ i
    simpa using this
theorem it_down {lo : Int} {n : Nat} : ItFor E Fo Tm ι ω σ H st (Itc lo (-1) n) ((List.range n).map fun (k : Nat) => .int (lo - k)) := by
  intro T' ι' ω' σ' H' st' g i
  refine ⟨fun d e => ?_, fun e => ?_⟩
  · rw [List.getElem?_map] at e
    obtain ⟨c, e1, e2⟩ := Option.map_eq_some_iff.mp e
    subst e2
    obtain ⟨hlt, e3⟩ := List.getElem?_eq_some_iff.mp e1
    rw [List.getElem_range] at e3
    subst e3
    refine ⟨(show i < n by simpa using hlt), fun y H'' ⟨e2, h⟩ => ?_⟩
    subst e2 h
    exact ⟨Go.refl g.rel, show V.int _ = V.int _ by congr 1; omega⟩
  · have := List.getElem?_eq_none_iff.mp e
    show n ≤ i
    simpa using this
theorem it_rev {a : Addr} {xs : List V} {ds : List D} (l : IsL E H (FF Fo Tm ι ω) ι ds xs) (k : ∀ T' ι' ω' σ' H' st', Go E Fo Tm ι ω σ H st T' ι' ω' σ' H' st' → Rd H' a (.lst xs)) : ItFor E Fo Tm ι ω σ H st (Itv E.K a xs.length) ds.reverse := by
  intro T' ι' ω' σ' H' st' g i
  have r := k _ _ _ _ _ _ g
  have l' := g.kp.isL l
  refine ⟨fun d e => ?_, fun e => ?_⟩
  · obtain ⟨x, e1, is⟩ := l'.reverse.get e
    have hlt : i < xs.length := by
      have := (List.getElem?_eq_some_iff.mp e1).1
      simpa using this
    rw [List.getElem?_reverse hlt] at e1
    refine ⟨⟨hlt, xs, x, .inl r, e1⟩, fun y H'' ⟨e2, h⟩ => ?_⟩
    subst e2
    have := h xs (.inl r)
    rw [e1] at this
    cases this
    exact ⟨Go.refl g.rel, is⟩
  · have := List.getElem?_eq_none_iff.mp e
    show xs.length ≤ i
    rw [l.length]
    simpa using this
theorem enum_get : ∀ {l : List D} {n i : Nat}, (enumD n l)[i]? = (l[i]?).map fun d => .tup [.int ((n + i : Nat) : Int), d]
  | [], n, i => by simp [enumD]
  | d :: l, n, 0 => by simp [enumD]
  | d :: l, n, i + 1 => by
    show (enumD (n + 1) l)[i]? = (l[i]?).map _
    rw [enum_get]
    have e : n + 1 + i = n + (i + 1) := by omega
    rw [e]
theorem it_enum {a : Addr} {xs : List V} {ds : List D} (l : IsL E H (FF Fo Tm ι ω) ι ds xs) (k : ∀ T' ι' ω' σ' H' st', Go E Fo Tm ι ω σ H st T' ι' ω' σ' H' st' → Rd H' a (.lst xs)) : ItFor E Fo Tm ι ω σ H st (Ite E.K a) (enumD 0 ds) := by
  intro T' ι' ω' σ' H' st' g i
  have r := k _ _ _ _ _ _ g
  have l' := g.kp.isL l
  rw [enum_get]
  refine ⟨fun d e => ?_, fun e => ?_⟩
  · obtain ⟨d0, e0, e1⟩ := Option.map_eq_some_iff.mp e
    subst e1
    obtain ⟨x, e1, is⟩ := l'.get e0
    refine ⟨⟨xs, x, .inl r, e1⟩, fun y H'' ⟨T, z, e2, e3, e4, h⟩ => ?_⟩
    subst e2 e4
    have := h xs (.inl r)
    rw [e1] at this
    cases this
    have g' : Go E Fo (orP T' Tm) ι' ω' σ' H' st' noP ι' ω' σ' (upd H' T (.tup [.int (i : Nat), x])) st' := Go.laidT g.rel e3
    have kp := g'.kp
    rw [orP_no] at kp
    refine ⟨g', T, [.int (i : Nat), x], rfl, SqT.of upd_same, _, _, rfl, show V.int _ = V.int _ by simp, _, _, rfl, kp.is is, rfl⟩
  · have e : ds[i]? = none := by
      cases h : ds[i]? with
      | none => rfl
      | some d => rw [h] at e; cases e
    have := List.getElem?_eq_none_iff.mp e
    exact ⟨xs, .inl r, by rw [l.length]; exact this⟩
theorem zip_get : ∀ {l m : List D} {i : Nat}, (zipD l m)[i]? = (l[i]?).bind fun a => (m[i]?).map fun b => .tup [a, b]
  | [], m, i => by cases m <;> simp [zipD]
  | a :: l, [], i => by
    have : zipD (a :: l) [] = [] := rfl
    rw [this]
    cases i <;> simp
  | a :: l, b :: m, 0 => by simp [zipD]
  | a :: l, b :: m, i + 1 => by
    show (zipD l m)[i]? = _
    rw [zip_get]
    simp
theorem it_zip {a b : Addr} {xs ys : List V} {ds es : List D} (l : IsL E H (FF Fo Tm ι ω) ι ds xs) (m : IsL E H (FF Fo Tm ι ω) ι es ys) (k : ∀ T' ι' ω' σ' H' st', Go E Fo Tm ι ω σ H st T' ι' ω' σ' H' st' → Rd H' a (.lst xs))
    (k2 : ∀ T' ι' ω' σ' H' st', Go E Fo Tm ι ω σ H st T' ι' ω' σ' H' st' → Rd H' b (.lst ys)) : ItFor E Fo Tm ι ω σ H st (Itz E.K a b) (zipD ds es) := by
  intro T' ι' ω' σ' H' st' g i
  have r := k _ _ _ _ _ _ g
  have r2 := k2 _ _ _ _ _ _ g
  have l' := g.kp.isL l
  have m' := g.kp.isL m
  rw [zip_get]
  refine ⟨fun d e => ?_, fun e => ?_⟩
  · obtain ⟨d0, e0, e1⟩ := Option.bind_eq_some_iff.mp e
    obtain ⟨d1, e2, e3⟩ := Option.map_eq_some_iff.mp e1
    subst e3
    obtain ⟨x, x1, is⟩ := l'.get e0
    obtain ⟨y, y1, is2⟩ := m'.get e2
    refine ⟨⟨xs, ys, x, y, .inl r, .inl r2, x1, y1⟩, fun v H'' ⟨T, z, w, e2, e3, e4, h, h2⟩ => ?_⟩
    subst e2 e4
    have := h xs (.inl r)
    rw [x1] at this
    cases this
    have := h2 ys (.inl r2)
    rw [y1] at this
    cases this
    have g' : Go E Fo (orP T' Tm) ι' ω' σ' H' st' noP ι' ω' σ' (upd H' T (.tup [x, y])) st' := Go.laidT g.rel e3
    have kp := g'.kp
    rw [orP_no] at kp
    exact ⟨g', T, [x, y], rfl, SqT.of upd_same, _, _, rfl, kp.is is, _, _, rfl, kp.is is2, rfl⟩
  · refine ⟨xs, ys, .inl r, .inl r2, ?_⟩
    cases h : ds[i]? with
    | none => exact .inl (by rw [l.length]; exact List.getElem?_eq_none_iff.mp h)
    | some d =>
      rw [h] at e
      cases h2 : es[i]? with
      | none => exact .inr (by rw [m.length]; exact List.getElem?_eq_none_iff.mp h2)
      | some d2 => rw [h2] at e; cases e
theorem it_zipT {a b : Addr} {xs ys : List V} {ds es : List D} (l : IsL E H (FF Fo Tm ι ω) ι ds xs) (m : IsL E H (FF Fo Tm ι ω) ι es ys) (k : SqT E.K H a xs) (k2 : SqT E.K H b ys) : ItFor E Fo Tm ι ω σ H st (RZ.ItzT E.K a b) (zipD ds es) := by
  intro T' ι' ω' σ' H' st' g i
  have r := g.kp.sqt k
  have r2 := g.kp.sqt k2
  have l' := g.kp.isL l
  have m' := g.kp.isL m
  rw [zip_get]
  refine ⟨fun d e => ?_, fun e => ?_⟩
  · obtain ⟨d0, e0, e1⟩ := Option.bind_eq_some_iff.mp e
    obtain ⟨d1, e2, e3⟩ := Option.map_eq_some_iff.mp e1
    subst e3
    obtain ⟨x, x1, is⟩ := l'.get e0
    obtain ⟨y, y1, is2⟩ := m'.get e2
    refine ⟨⟨xs, ys, x, y, r, r2, x1, y1⟩, fun v H'' ⟨T, z, w, e2, e3, e4, h, h2⟩ => ?_⟩
    subst e2 e4
    have := h xs r
    rw [x1] at this
    cases this
    have := h2 ys r2
    rw [y1] at this
    cases this
    have g' : Go E Fo (orP T' Tm) ι' ω' σ' H' st' noP ι' ω' σ' (upd H' T (.tup [x, y])) st' := Go.laidT g.rel e3
    have kp := g'.kp
    rw [orP_no] at kp
    exact ⟨g', T, [x, y], rfl, SqT.of upd_same, _, _, rfl, kp.is is, _, _, rfl, kp.is is2, rfl⟩
  · refine ⟨xs, ys, r, r2, ?_⟩
    cases h : ds[i]? with
    | none => exact .inl (by rw [l.length]; exact List.getElem?_eq_none_iff.mp h)
    | some d =>
      rw [h] at e
      cases h2 : es[i]? with
      | none => exact .inr (by rw [m.length]; exact List.getElem?_eq_none_iff.mp h2)
      | some d2 => rw [h2] at e; cases e
/-- the walk of a handle -/
theorem Go.lockd {h : Hd} {v : V} {d : D} {is : List Nat} (g : Go E Fo Tm ι ω σ0 H st T ι1 ω1 σ H1 st1) (hT : ∀ a, T1 a → T a) (q : Hk E H1 (FF Fo (orP T Tm) ι1 ω1) ι1 σ T1 h v) (e : lockH h st1 = .ok (d, is) st2) :
    Go E Fo Tm ι ω σ0 H st T ι1 ω1 σ H1 st2 ∧ Held E Fo (orP T Tm) ι1 ω1 σ H1 st2 d v := by
  obtain ⟨R2, eS, lk, nl, hd⟩ := lockH_ok g.rel (fun a z => .inl (hT a z)) q e
  exact ⟨g.next g.nT R2 Kp.refl (fun _ _ => rfl) lk.go, hd⟩
end
section
variable {X : Cx} {C : Cfg} {E : Env} {Wx : WX} {c : SC} {a b e tg : Expr} {es : List Expr} {ta tb tc : TE} {tl : TL} {pos p : Pos}
theorem pi_any {te : L2.TE} (hl : PE X e te) : PI X tg e (fun σ H R => te σ H fun x H1 => (∃ a xs, x = .ref a ∧ SqL X.K H1 a xs ∧ R (Itl X.K a) H1) ∨ (∃ a xs, x = .ref a ∧ SqT X.K H1 a xs ∧ R (Itt X.K a) H1) ∨ ∃ z, x = .str z ∧ R (Its z) H1) := by
  refine ⟨fun pins s σ H R I h => ?_⟩
  refine thn (hl.run pins s σ H _ I h) fun v s1 ⟨x, H1, I1, r1, q1⟩ => ?_
  rcases q1 with ⟨a, xs, ex, hq, q⟩ | ⟨a, xs, ex, hq, q⟩ | ⟨z, ex, q⟩
  · subst ex
    cases r1
    obtain ⟨its, rv, p, hz⟩ := I1.list hq
    refine wpAny_pyIter_list p.isList ?_
    refine ⟨s1.heap.objs.size, [s1.heap.objs.size], _, _, H1, rfl, I1.kept (t' := s1.toks) fun b o e => Heap.get?_push_of_some _ e, turn_list a _, ⟨_, Heap.get?_push_size _ rfl, rfl, rfl⟩, fun b hb => ?_, q⟩
    have e : b = s1.heap.objs.size := by simpa using hb
    subst e
    exact I1.fpOk (Nat.le_refl _) (I1.hok.fresh (Nat.le_refl _))
  · subst ex
    cases r1
    obtain ⟨its, rv, p, hz⟩ := I1.tuple hq
    refine wpAny_pyIter_tuple (show s1.heap.IsTuple a its.toArray from p) ?_
    refine ⟨s1.heap.objs.size, [s1.heap.objs.size], _, _, H1, rfl, I1.kept (t' := s1.toks) fun b o e => Heap.get?_push_of_some _ e, turn_tuple a _, ⟨_, Heap.get?_push_size _ rfl, rfl, rfl⟩, fun b hb => ?_, q⟩
    have e : b = s1.heap.objs.size := by simpa using hb
    subst e
    exact I1.fpOk (Nat.le_refl _) (I1.hok.fresh (Nat.le_refl _))
  · subst ex
    obtain ⟨t, rfl⟩ := r1
    cases ha : z.cps.all (· < 128)
    · exact wpAny_pyIter_wide ha (pi_one (tk := s1.toks) I1 _ (turn_str _ z t "str_iterator" (.inr rfl)) ⟨_, Heap.get?_push_size _ rfl, rfl, rfl⟩ q)
    · exact wpAny_pyIter_ascii ha (pi_one (tk := s1.toks) I1 _ (turn_str _ z t "str_ascii_iterator" (.inl rfl)) ⟨_, Heap.get?_push_size _ rfl, rfl, rfl⟩ q)
theorem s_ival (g : Good X C E Wx c) (ha : PE X a (tE C E Wx ta)) : PI X tg a (tI C E Wx (.val ta)) := by
  refine (pi_any ha).imp fun σ H Rr ⟨Fo, Tm, ι, ω, st, R, hh⟩ => ?_
  refine nextE1 R hh rfl fun h x T2 ι2 ω2 H2 st2 g2 q2 hh => ?_
  obtain ⟨⟨d, is⟩, st3, el, hh⟩ := hh.op (lockH_nx h st2)
  obtain ⟨g3, hd⟩ := g2.lockd (fun _ z => z) q2 el
  obtain ⟨l, ew, hh⟩ := hh.lift
  have fin := hh.pure_use rfl g3
  unfold walk? at ew
  split at ew
  · cases ew
    rename_i e
    have e : d = _ := e
    subst e
    obtain ⟨p, xs, rfl, l1, k⟩ := hd
    refine .inl ⟨p, xs, rfl, .inl (k _ _ _ _ _ _ (Go.refl g3.rel)), ?_⟩
    rw [← g.env.K]
    exact fin _ (it_list l1 k)
  · cases ew
    rename_i e
    have e : d = _ := e
    subst e
    obtain ⟨p, xs, rfl, r, l1⟩ := hd
    refine .inr (.inl ⟨p, xs, rfl, g.env.K ▸ r, ?_⟩)
    rw [← g.env.K]
    exact fin _ (it_tup l1 r)
  · cases ew
    rename_i e
    have e : d = _ := e
    subst e
    cases hd
    exact .inr (.inr ⟨_, rfl, fin _ it_str⟩)
  · cases ew
theorem evL_cons {α : Type} (C : Cfg) (a : TE) (l : TL) (f : List D → M α) : (evL C (.cons a l) >>= f) = (evE C a >>= fun h => EV.esc h >>= fun h => evL C l >>= fun ds => f (h.1 :: ds)) := by
  show ((evE C a >>= fun h => EV.esc h >>= fun h => evL C l >>= fun ds => (M.pure (h.1 :: ds) : M (List D))) >>= f) = _
  simp only [M_assoc, M_pure]
theorem evL_nil {α : Type} (C : Cfg) (f : List D → M α) : (evL C .nil >>= f) = f [] := rfl
section
variable {α : Type} {Sg : L2.St → Prop} {Fo Tm T T1 T2 : Addr → Prop} {ι ι1 ι2 : List Addr} {ω ω1 ω2 : List (Option Addr)} {σ0 σ : L2.St} {H H1 H2 : Hp} {st st1 st2 : W} {te : TE} {G : α → (Addr → Prop) → List Addr → List (Option Addr) → L2.St → Hp → W → Prop}
theorem nextS {f : Hd → M α} {Q' : VK} (g : Go E Fo Tm ι ω σ0 H st T ι1 ω1 σ H1 st1) (hh : Fut E Wx Sg Fo Tm ι ω σ0 H st ((evE C te >>= fun h => EV.esc h >>= f) st1) G) (hS : Sg σ)
    (k : ∀ h x ι2 ω2 H2 st2, Go E Fo (orP T Tm) ι1 ω1 σ H1 st1 noP ι2 ω2 σ H2 st2 → Go E Fo Tm ι ω σ0 H st T ι2 ω2 σ H2 st2 → Is E H2 (FF Fo (orP T Tm) ι2 ω2) ι2 h.1 x → Fut E Wx Sg Fo Tm ι ω σ0 H st (f h st2) G → Q' x H2) :
    tE C E Wx te σ H1 Q' := by
  refine nextE g hh hS fun h x T2 ι2 ω2 H2 st2 g2' g2 q2 hh => ?_
  obtain ⟨h', st3, e, hh⟩ := hh.op (esc_nx h st2)
  obtain ⟨ω3, g3', is⟩ := g2'.esc q2 e
  have g3 := g.trans g3'
  rw [orP_no2] at g3
  exact k h' x ι2 ω3 H2 st3 g3' g3 is hh
theorem nextS1 {f : Hd → M α} {Q' : VK} (R : Rel E Fo Tm ι ω σ H st) (hh : Fut E Wx Sg Fo Tm ι ω σ H st ((evE C te >>= fun h => EV.esc h >>= f) st) G) (hS : Sg σ)
    (k : ∀ h x ι2 ω2 H2 st2, Go E Fo Tm ι ω σ H st noP ι2 ω2 σ H2 st2 → Is E H2 (FF Fo Tm ι2 ω2) ι2 h.1 x → Fut E Wx Sg Fo Tm ι ω σ H st (f h st2) G → Q' x H2) :
    tE C E Wx te σ H Q' := by
  refine nextS (Go.refl R) hh hS fun h x ι2 ω2 H2 st2 _ g2 q hf => ?_
  rw [orP_no] at q
  exact k h x ι2 ω2 H2 st2 g2 q hf
end
theorem bnd_is {i : Int} (h : bnd i = true) : -(2 ^ 62) ≤ i ∧ i < 2 ^ 62 := by
  simpa [bnd] using h
theorem rangeI (C : Cfg) (tl : TL) : evI C (.range tl) = (evL C tl >>= fun ds => liftO (rangeop ds) >>= fun l => (M.pure (l, []) : M (List D × List Nat))) := rfl
theorem s_range1 (g : Good X C E Wx c) (hg : globC c.sc "range" = true) (hf : c.fns.contains "range" = false) (hc : c.clss.contains "range" = false) (hn : noStar a = true) (ha : PE X a (tE C E Wx ta)) :
    PI X tg (.Call (.Name "range" p) [a] [] pos) (tI C E Wx (.range (.cons ta .nil))) := by
  refine (pi_range1 (globC_gl g hg) (g.blt _ (by decide) hf hc) (pa_cons ha pa_nil (star_cons hn)) (star_cons hn)).imp fun σ H Rr ⟨Fo, Tm, ι, ω, st, R, hh⟩ => ?_
  rw [rangeI, evL_cons] at hh
  refine nextS1 R hh rfl fun h x ι2 ω2 H2 st2 g2 is hh => ?_
  obtain ⟨l, er, hh⟩ := hh.lift
  have fin := hh.pure_use rfl g2
  obtain ⟨d, fr⟩ := h
  cases d with
  | int j =>
    have er : (if bnd j = true then some (rangeD 0 j) else none) = some l := er
    split at er <;> cases er
    rename_i cb
    have hb := bnd_is cb
    cases is
    refine ⟨j, rfl, hb.1, hb.2, fin _ ?_⟩
    have := it_range (E := E) (Fo := Fo) (Tm := orP noP Tm) (ι := ι2) (ω := ω2) (σ := σ) (H := H2) (st := st2) (lo := 0) (n := j.toNat)
    unfold rangeD
    rw [show (j - 0).toNat = j.toNat by omega]
    exact this
  | _ => cases er
theorem s_range2 (g : Good X C E Wx c) (hg : globC c.sc "range" = true) (hf : c.fns.contains "range" = false) (hc : c.clss.contains "range" = false) (hn : noStar a = true) (hn2 : noStar b = true) (ha : PE X a (tE C E Wx ta)) (hb : PE X b (tE C E Wx tb)) :
    PI X tg (.Call (.Name "range" p) [a, b] [] pos) (tI C E Wx (.range (.cons ta (.cons tb .nil)))) := by
  refine (pi_range2 (globC_gl g hg) (g.blt _ (by decide) hf hc) (pa_cons ha (pa_cons hb pa_nil (star_cons hn2)) (star_cons hn)) (by rw [star_cons hn, star_cons hn2]; rfl) (star_cons hn2)).imp fun σ H Rr ⟨Fo, Tm, ι, ω, st, R, hh⟩ => ?_
  rw [rangeI, evL_cons] at hh
  refine nextS1 R hh rfl fun h x ι2 ω2 H2 st2 g2 is hh => ?_
  rw [evL_cons] at hh
  refine nextS g2 hh rfl fun h' y ι3 ω3 H3 st3 g3' g3 is3 hh => ?_
  have is := g3'.kp.is (by rw [orP_no]; exact is)
  obtain ⟨l, er, hh⟩ := hh.lift
  have fin := hh.pure_use rfl g3
  obtain ⟨d, fr⟩ := h
  obtain ⟨d', fr'⟩ := h'
  cases d with
  | int i =>
    cases d' with
    | int j =>
      have er : (if (bnd i && bnd j) = true then some (rangeD i j) else none) = some l := er
      split at er <;> cases er
      rename_i cb
      rw [Bool.and_eq_true] at cb
      have hb1 := bnd_is cb.1
      have hb2 := bnd_is cb.2
      cases is
      cases is3
      refine ⟨i, j, rfl, ⟨hb1.1, hb1.2, hb2.1, hb2.2⟩, fin _ it_range⟩
    | _ => cases er
  | _ => cases er
theorem s_range3 (g : Good X C E Wx c) {e : Expr} (hg : globC c.sc "range" = true) (hf : c.fns.contains "range" = false) (hc : c.clss.contains "range" = false) (hn : noStar a = true) (hn2 : noStar b = true) (hn3 : noStar e = true) (ha : PE X a (tE C E Wx ta)) (hb : PE X b (tE C E Wx tb)) (he : PE X e (tE C E Wx tc)) :
    PI X tg (.Call (.Name "range" p) [a, b, e] [] pos) (tI C E Wx (.range (.cons ta (.cons tb (.cons tc .nil))))) := by
  refine (pi_range3 (globC_gl g hg) (g.blt _ (by decide) hf hc) (pa_cons ha (pa_cons hb (pa_cons he pa_nil (star_cons hn3)) (star_cons hn2)) (star_cons hn)) (star_cons hn) (stars_plain (by simp [hn2, hn3]))).imp fun σ H Rr ⟨Fo, Tm, ι, ω, st, R, hh⟩ => ?_
  rw [rangeI, evL_cons] at hh
  refine nextS1 R hh rfl fun h x ι2 ω2 H2 st2 g2 is hh => ?_
  rw [evL_cons] at hh
  refine nextS g2 hh rfl fun h' y ι3 ω3 H3 st3 g3' g3 is3 hh => ?_
  have is := g3'.kp.is (by rw [orP_no]; exact is)
  rw [evL_cons] at hh
  refine nextS g3 hh rfl fun h'' z ι4 ω4 H4 st4 g4' g4 is4 hh => ?_
  have is := g4'.kp.is (by rw [← orP_no2 (T := orP noP Tm)]; exact is)
  have is3 := g4'.kp.is is3
  obtain ⟨l, er, hh⟩ := hh.lift
  have fin := hh.pure_use rfl g4
  obtain ⟨d, fr⟩ := h
  obtain ⟨d', fr'⟩ := h'
  obtain ⟨d'', fr''⟩ := h''
  cases d with
  | int i =>
    cases d' with
    | int j =>
      cases d'' with
      | int k =>
        have er : (if (bnd i && bnd j && decide (k = -1)) = true then some ((List.range (i - j).toNat).map fun (n : Nat) => D.int (i - n)) else none) = some l := er
        split at er <;> cases er
        rename_i cb
        simp only [Bool.and_eq_true, decide_eq_true_eq] at cb
        have hb1 := bnd_is cb.1.1
        have hb2 := bnd_is cb.1.2
        obtain ⟨_, rfl⟩ := cb
        cases is
        cases is3
        cases is4
        exact ⟨i, j, -1, (i - j).toNat, rfl, RgC.neg hb1.1 hb1.2 hb2.1 hb2.2, fin _ it_down⟩
      | _ => cases er
    | _ => cases er
  | _ => cases er
theorem s_enum (g : Good X C E Wx c) {elts : List Expr} {kk : Nat} {tpos : Pos} (hg : globC c.sc "enumerate" = true) (hf : c.fns.contains "enumerate" = false) (hc : c.clss.contains "enumerate" = false) (hn : noStar a = true) (ha : PE X a (tE C E Wx ta)) :
    PI X (.Tuple elts kk tpos) (.Call (.Name "enumerate" p) [a] [] pos) (tI C E Wx (.enum ta)) := by
  refine (pi_enum (globC_gl g hg) (g.blt _ (by decide) hf hc) (pa_cons ha pa_nil (star_cons hn)) (star_cons hn)).imp fun σ H Rr ⟨Fo, Tm, ι, ω, st, R, hh⟩ => ?_
  refine nextE1 R hh rfl fun h x T2 ι2 ω2 H2 st2 g2 q2 hh => ?_
  obtain ⟨⟨d, is⟩, st3, el, hh⟩ := hh.op (lockH_nx h st2)
  obtain ⟨g3, hd⟩ := g2.lockd (fun _ z => z) q2 el
  obtain ⟨l, ew, hh⟩ := hh.lift
  have fin := hh.pure_use rfl g3
  cases d with
  | lst l0 =>
    cases ew
    obtain ⟨q, xs, rfl, l1, k⟩ := hd
    refine ⟨q, xs, rfl, .inl (k _ _ _ _ _ _ (Go.refl g3.rel)), ?_⟩
    rw [← g.env.K]
    exact fin _ (it_enum l1 k)
  | _ => cases ew
theorem s_irev (g : Good X C E Wx c) (hg : globC c.sc "reversed" = true) (hf : c.fns.contains "reversed" = false) (hc : c.clss.contains "reversed" = false) (hn : noStar a = true) (ha : PE X a (tE C E Wx ta)) :
    PI X tg (.Call (.Name "reversed" p) [a] [] pos) (tI C E Wx (.rev ta)) := by
  refine (pi_reversed (globC_gl g hg) (g.blt _ (by decide) hf hc) (pa_cons ha pa_nil (star_cons hn)) (star_cons hn)).imp fun σ H Rr ⟨Fo, Tm, ι, ω, st, R, hh⟩ => ?_
  refine nextE1 R hh rfl fun h x T2 ι2 ω2 H2 st2 g2 q2 hh => ?_
  obtain ⟨⟨d, is⟩, st3, el, hh⟩ := hh.op (lockH_nx h st2)
  obtain ⟨g3, hd⟩ := g2.lockd (fun _ z => z) q2 el
  obtain ⟨l, ew, hh⟩ := hh.lift
  have fin := hh.pure_use rfl g3
  cases d with
  | lst l0 =>
    cases ew
    obtain ⟨q, xs, rfl, l1, k⟩ := hd
    refine ⟨q, xs, rfl, .inl (k _ _ _ _ _ _ (Go.refl g3.rel)), ?_⟩
    rw [← g.env.K]
    exact fin _ (it_rev l1 k)
  | _ => cases ew
/-- what is walked stays so behind later steps -/
theorem Held.later {Fo Tm T : Addr → Prop} {ι ι' : List Addr} {ω ω' : List (Option Addr)} {σ σ' : L2.St} {H H' : Hp} {st st' : W} {d : D} {v : V} (h : Held E Fo Tm ι ω σ H st d v) (g : Go E Fo Tm ι ω σ H st T ι' ω' σ' H' st') : Held E Fo (orP T Tm) ι' ω' σ' H' st' d v := by
  cases d with
  | lst ds =>
    obtain ⟨a, xs, e, l, k⟩ := h
    exact ⟨a, xs, e, g.kp.isL l, fun T' ι'' ω'' σ'' H'' st'' g2 => k _ _ _ _ _ _ (g.trans g2)⟩
  | dic ks vs =>
    obtain ⟨a, kvs, e, q, l, k⟩ := h
    exact ⟨a, kvs, e, q, g.kp.isL l, fun T' ι'' ω'' σ'' H'' st'' g2 => k _ _ _ _ _ _ (g.trans g2)⟩
  | ins _ _ _ => exact trivial
  | ref _ => exact trivial
  | _ => exact g.kp.is h
theorem s_zip (g : Good X C E Wx c) {elts : List Expr} {kk : Nat} {tpos : Pos} (hg : globC c.sc "zip" = true) (hf : c.fns.contains "zip" = false) (hc : c.clss.contains "zip" = false) (hn : noStar a = true) (hn2 : noStar b = true) (ha : PE X a (tE C E Wx ta)) (hb : PE X b (tE C E Wx tb)) :
    PI X (.Tuple elts kk tpos) (.Call (.Name "zip" p) [a, b] [] pos) (tI C E Wx (.zip ta tb)) := by
  refine (RZ.pi_zipA (globC_gl g hg) (g.blt _ (by decide) hf hc) (pa_cons ha (pa_cons hb pa_nil (star_cons hn2)) (star_cons hn)) (star_cons hn) (stars_plain (by simp [hn2]))).imp fun σ H Rr ⟨Fo, Tm, ι, ω, st, R, hh⟩ => ?_
  refine next2E R hh rfl fun h x h' y T2 T3 ι3 ω3 H3 st3 g3 q2 q3 R3 hh => ?_
  obtain ⟨⟨d, is⟩, st4, el, hh⟩ := hh.op (lockH_nx h st3)
  rw [← orP_assoc] at q2 q3
  obtain ⟨g4, hd⟩ := g3.lockd (fun _ z => .inr z) q2 el
  obtain ⟨⟨d', is'⟩, st5, el', hh⟩ := hh.op (lockH_nx h' st4)
  obtain ⟨g5, hd'⟩ := g4.lockd (fun _ z => .inl z) q3 el'
  have g45 : Go E Fo (orP (orP T3 T2) Tm) ι3 ω3 σ H3 st4 noP ι3 ω3 σ H3 st5 := by
    obtain ⟨R2, eS, lk, nl, _⟩ := lockH_ok g4.rel (fun a z => .inl (.inl z)) q3 el'
    exact ⟨fun _ z => z.elim, by rw [orP_no]; exact R2, by rw [orP_no]; exact Kp.refl, fun _ _ => rfl, lk.go⟩
  have hd5 := hd.later g45
  rw [orP_no2] at hd5
  obtain ⟨l, ew, hh⟩ := hh.lift
  have fin := hh.pure_use rfl g5
  unfold zip? at ew
  split at ew
  · cases ew
    rename_i e1 e2
    have e1 : d = _ := e1
    have e2 : d' = _ := e2
    subst e1 e2
    obtain ⟨q, xs, rfl, l1, k⟩ := hd5
    obtain ⟨q', ys, rfl, l2, k2⟩ := hd'
    refine ⟨q, q', xs, ys, rfl, .inl ⟨.inl (k _ _ _ _ _ _ (Go.refl g5.rel)), .inl (k2 _ _ _ _ _ _ (Go.refl g5.rel)), ?_⟩⟩
    rw [← g.env.K]
    exact fin _ (it_zip l1 l2 k k2)
  · cases ew
    rename_i e1 e2
    have e1 : d = _ := e1
    have e2 : d' = _ := e2
    subst e1 e2
    obtain ⟨q, xs, rfl, r1, l1⟩ := hd5
    obtain ⟨q', ys, rfl, r2, l2⟩ := hd'
    refine ⟨q, q', xs, ys, rfl, .inr ⟨g.env.K ▸ r1, g.env.K ▸ r2, ?_⟩⟩
    rw [← g.env.K]
    exact fin _ (it_zipT l1 l2 r1 r2)
  · cases ew
end
end EV

set_option autoImplicit false
set_option linter.all false
set_option maxRecDepth 10000
namespace EV
open PySem L2 PyProof.Rows

/-- any state behind -/
abbrev anyS : L2.St → Prop := fun _ => True
def GG (Q : L2.St → Hp → Prop) : Unit → (Addr → Prop) → List Addr → List (Option Addr) → L2.St → Hp → W → Prop := fun _ _ _ _ σ' H' _ => Q σ' H'
/-- the names but those are as they were -/
def Keep (is : List Nat) (σ σ' : L2.St) : Prop := σ'.length = σ.length ∧ ∀ j : Nat, j ∉ is → σ'[j]? = σ[j]?
/-- a target's reading -/
def tG (E : Env) (Wx : WX) (tg : TG) : L2.TG := fun v σ H Q => ∃ Sg Fo Tm ι0 ω0 σ0 H0 st0 T ι ω st h, (∀ σ', Keep (slotsG tg) σ σ' → Sg σ') ∧ Go E Fo Tm ι0 ω0 σ0 H0 st0 T ι ω σ H st ∧ Hk E H (FF Fo (orP T Tm) ι ω) ι σ T h v ∧ Fut E Wx Sg Fo Tm ι0 ω0 σ0 H0 st0 (assignG tg h st) (GG Q)
def tGs (E : Env) (Wx : WX) (l : List TG) : L2.TGs := fun vs σ H Q => ∃ Sg Fo Tm ι0 ω0 σ0 H0 st0 ι ω st ds, (∀ σ', Keep (slotsG.slotsL l) σ σ' → Sg σ') ∧ Go E Fo Tm ι0 ω0 σ0 H0 st0 noP ι ω σ H st ∧ IsL E H (FF Fo Tm ι ω) ι ds vs ∧ Fut E Wx Sg Fo Tm ι0 ω0 σ0 H0 st0 (assignL l ds st) (GG Q)
theorem _root_.L2.PG.imp {X : Cx} {e : Expr} {t t' : L2.TG} (h : PG X e t) (k : ∀ v σ H Q, t' v σ H Q → t v σ H Q) : PG X e t' := ⟨fun pins s σ H v u Q I r q => h.run pins s σ H v u Q I r (k v σ H Q q)⟩
theorem _root_.L2.PGs.imp {X : Cx} {e : List Expr} {t t' : L2.TGs} (h : PGs X e t) (k : ∀ v σ H Q, t' v σ H Q → t v σ H Q) : PGs X e t' := ⟨fun pins s σ H v u Q I r q => h.run pins s σ H v u Q I r (k v σ H Q q)⟩
theorem bind_run {α β : Type} (m : M α) (f : α → M β) (s : W) : (m >>= f) s = (match m s with | .ok a s' => f a s' | .exc x s' => .exc x s' | .stuck => .stuck) := rfl
section
variable {E : Env} {Wx : WX} {Sg : L2.St → Prop} {Fo Tm T T1 T2 : Addr → Prop} {ι ι1 ι2 : List Addr} {ω ω1 ω2 : List (Option Addr)} {σ0 σ : L2.St} {H H1 H2 : Hp} {st st1 st2 : W} {α : Type} {C : Cfg} {te : TE} {tl : TL} {Q : VK} {F F' : Addr → Prop}
  {G : α → (Addr → Prop) → List Addr → List (Option Addr) → L2.St → Hp → W → Prop}
theorem Go.store {i : Nat} {p : Bool} {h : Hd} {v : V} {u : Unit} (g : Go E Fo Tm ι ω σ0 H st T ι1 ω1 σ H1 st1) (q : Hk E H1 (FF Fo (orP T Tm) ι1 ω1) ι1 σ T h v) (e : setSlot i p h st1 = .ok u st2) :
    ∃ ι2 ω2, Go E Fo Tm ι ω σ0 H st noP ι2 ω2 (σ.set i (some v)) H1 st2 ∧ Kp E H1 (FF Fo (orP T Tm) ι1 ω1) ι1 H1 (FF Fo Tm ι2 ω2) ι2 := by
  obtain ⟨ι2, ω2, R2, k, lk, nl⟩ := setSlot_ok g.rel q g.nT e
  refine ⟨ι2, ω2, g.next (fun _ z => z.elim) (by rw [orP_no]; exact R2) (by rw [orP_no]; exact k) (fun _ _ => rfl) fun j d hj => ⟨(lk j d hj).1, ?_, (lk j d hj).2, fun _ _ => rfl⟩, k⟩
  exact List.getElem?_set_ne (Ne.symm (nl j d hj))
end
section
variable {X : Cx} {C : Cfg} {E : Env} {Wx : WX} {c : SC} {a b e : Expr} {es : List Expr} {ta tb tc : TE} {tl : TL} {pos p : Pos}
theorem s_gslot (g : Good X C E Wx c) {x : Str} {i : Nat} {pr : Bool} (hv : locC c.st x = true) (hi : c.N.findIdx? (· == x) = some i) : PG X (.Name x pos) (tG E Wx (.slot i pr)) := by
  obtain ⟨hl, hf⟩ := g.fn x hv
  refine (pg_name (by rw [g.N]; exact g.nd) (by rw [g.N]; exact findIdx_get hi) hl hf).imp fun v σ H Q ⟨Sg, Fo, Tm, ι0, ω0, σ0, H0, st0, T, ι, ω, st, h, hS, gg, q, hh⟩ => ?_
  have e : assignG (.slot i pr) h st = (setSlot i pr h >>= fun u => (M.pure u : M Unit)) st := by
    show setSlot i pr h st = M.bind (setSlot i pr h) (fun u => (M.pure u : M Unit)) st
    unfold M.bind
    cases setSlot i pr h st <;> rfl
  rw [e] at hh
  obtain ⟨u, st2, e2, hf⟩ := hh.op (setSlot_nx i pr h st)
  obtain ⟨ι2, ω2, g2, _⟩ := gg.store q e2
  refine hf.pure_use (hS _ ⟨by simp, fun j hj => ?_⟩) g2
  have : j ≠ i := fun z => hj (by rw [z]; exact List.mem_singleton.mpr rfl)
  exact List.getElem?_set_ne (Ne.symm this)
theorem s_gs_nil : PGs X [] (tGs E Wx []) := pgs_nil.imp fun vs σ H Q ⟨Sg, Fo, Tm, ι0, ω0, σ0, H0, st0, ι, ω, st, ds, hS, gg, l, hh⟩ => by
  cases ds with
  | nil =>
    have hh : Fut E Wx Sg Fo Tm ι0 ω0 σ0 H0 st0 ((M.pure () : M Unit) st) (GG Q) := hh
    exact ⟨l, hh.pure_use (hS σ ⟨rfl, fun _ _ => rfl⟩) gg⟩
  | cons d ds => exact hh.elim
theorem s_gs_cons {i : Nat} {pr : Bool} {l : List TG} (hs : (assignEach (e :: es) X.env).map (·.2) = assign e X.env :: (assignEach es X.env).map (·.2)) (he : PG X e (tG E Wx (.slot i pr))) (hr : PGs X es (tGs E Wx l)) : PGs X (e :: es) (tGs E Wx (.slot i pr :: l)) := by
  refine (pgs_cons he hr hs).imp fun vs σ H Q ⟨Sg, Fo, Tm, ι0, ω0, σ0, H0, st0, ι, ω, st, ds, hS, gg, lx, hh⟩ => ?_
  cases ds with
  | nil => exact hh.elim
  | cons d ds =>
    obtain ⟨x, r, rfl, is, lr⟩ := lx
    have hh : Fut E Wx Sg Fo Tm ι0 ω0 σ0 H0 st0 ((setSlot i pr (d, false) >>= fun _ => assignL l ds) st) (GG Q) := hh
    have key : Fut E Wx (Keep [i] σ) Fo Tm ι ω σ H st (setSlot i pr (d, false) st) (GG fun σ' H' => tGs E Wx l r σ' H' Q) := by
      have hb : Fut E Wx (Keep [i] σ) Fo Tm ι ω σ H st (setSlot i pr (d, false) st) fun a _ _ _ _ _ st' => Fut E Wx Sg Fo Tm ι ω σ H st (assignL l ds st') (GG Q) := by
        have h1 := hh.step0 gg
        rw [bind_run] at h1
        cases hm : setSlot i pr (d, false) st with
        | ok a s => rw [hm] at h1; exact fun _ _ _ _ _ _ _ => h1
        | exc x s => exact absurd hm (setSlot_nx _ _ _ _ _ _)
        | stuck => rw [hm] at h1; exact h1
      refine hb.mono ?_
      intro u T' ι' ω' σ' H' st' hk g' hf
      refine ⟨Sg, Fo, Tm, ι, ω, σ, H, st, ι', ω', st', ds, fun σ'' hk' => hS _ ⟨hk'.1.trans hk.1, fun j hj => ?_⟩, g'.drop, g'.kp0.isL lr, hf⟩
      have h1 : j ∉ slotsG.slotsL l := fun z => hj (List.mem_cons_of_mem _ z)
      have h2 : j ∉ [i] := fun z => hj (by rw [List.mem_singleton.mp z]; exact List.mem_cons_self)
      exact (hk'.2 j h1).trans (hk.2 j h2)
    exact ⟨x, r, rfl, Keep [i] σ, Fo, Tm, ι, ω, σ, H, st, noP, ι, ω, st, (d, false), fun _ h => h, Go.refl gg.rel0, Hk.sh (by rw [orP_no]; exact is) (.inl rfl), key⟩
/-- (a, b, ..) = a tuple or a list of that length -/
def gSeq (K : PySem.W.Frag) (n : Nat) (t : L2.TGs) : L2.TG := fun v σ H Q => ∃ a xs, v = .ref a ∧ (SqT K H a xs ∨ SqL K H a xs) ∧ xs.length = n ∧ t xs σ H Q
theorem pg_seq {es : List Expr} {k : Nat} {t : L2.TGs} {n : Nat} (hc : X.calm = true) (h : PGs X es t)
    (hn : (assignEach es X.env).length = n) (hst : (assignEach es X.env).findIdx? (·.1) = none) : PG X (.Tuple es k pos) (gSeq X.K n t) := by
  refine ⟨fun pins s σ H v u Q I r hw => ?_⟩
  obtain ⟨a, xs, e1, hq | hq, hl, hw⟩ := hw
  · exact (pg_tup hc h hn hst).run pins s σ H v u Q I r ⟨a, xs, e1, hq, hl, hw⟩
  · subst e1
    cases r
    obtain ⟨its, rv, ⟨o, m, e, c, _, d⟩, hz⟩ := I.list hq
    have hL : s.heap.IsList a its.toArray := ⟨o, e, c, m, d⟩
    rw [assign_Tuple]
    refine wpAny_bind (wpAny_standAt ?_)
    unfold unpack
    have hz : (assignEach es X.env).length = its.toArray.size := by rw [hn, ← hl, List.size_toArray]; exact rv.length
    rw [hz, hst]
    refine wpAny_bind (wpAny_holding (PySem.W.kun_itemsOf (I.ok.hd hc) hL fun h' hx => ?_))
    have I1 : Inv X pins σ H { s with heap := h' } := I.kept (t' := s.toks) fun b o e => hx b o (Nat.ne_of_lt (Heap.lt_size e)) e
    exact h.run pins _ σ H xs _ Q I1 (by simpa using rv) hw
theorem s_gtup (g : Good X C E Wx c) {k : Nat} {l : List TG} (hn : (assignEach es X.env).length = l.length) (hst : (assignEach es X.env).findIdx? (·.1) = none) (h : PGs X es (tGs E Wx l)) : PG X (.Tuple es k pos) (tG E Wx (.tup l)) := by
  refine (pg_seq g.calm h hn hst).imp fun v σ H Q ⟨Sg, Fo, Tm, ι0, ω0, σ0, H0, st0, T, ι, ω, st, hd, hS, gg, q, hh⟩ => ?_
  have hh : Fut E Wx Sg Fo Tm ι0 ω0 σ0 H0 st0 ((EV.peek hd >>= fun d => liftO (tupD d) >>= fun ds => chk (decide (ds.length = l.length)) >>= fun _ => assignL l ds) st) (GG Q) := hh
  obtain ⟨d, pd, hh⟩ := Fut.peek gg.rel q hh
  obtain ⟨ds, ed, hh⟩ := hh.lift
  obtain ⟨cl, hf⟩ := hh.chk
  rw [decide_eq_true_eq] at cl
  cases d with
  | tup es' =>
    cases ed
    obtain ⟨a, xs, rfl, r, lx⟩ := pd
    exact ⟨a, xs, rfl, .inl (g.env.K ▸ r), by rw [lx.length]; exact cl, Sg, Fo, Tm, ι0, ω0, σ0, H0, st0, ι, ω, st, ds, hS, gg.drop, lx.dr, hf⟩
  | lst es' =>
    cases ed
    obtain ⟨a, xs, rfl, r, lx⟩ := pd
    exact ⟨a, xs, rfl, .inr (.inl r), by rw [lx.length]; exact cl, Sg, Fo, Tm, ι0, ω0, σ0, H0, st0, ι, ω, st, ds, hS, gg.drop, lx.dr, hf⟩
  | _ => cases ed
end
end EV

set_option autoImplicit false
set_option linter.all false
set_option maxRecDepth 10000
namespace EV
open PySem L2 PyProof.Rows

section
variable {E : Env} {Wx : WX} {Sg : L2.St → Prop} {Fo Tm T T1 T2 : Addr → Prop} {ι ι1 ι2 : List Addr} {ω ω1 ω2 : List (Option Addr)} {σ0 σ σ1 : L2.St} {H H1 H2 : Hp} {st st1 st2 : W} {α : Type} {C : Cfg} {te : TE} {tl : TL} {Q : VK} {F F' : Addr → Prop}
  {G : α → (Addr → Prop) → List Addr → List (Option Addr) → L2.St → Hp → W → Prop}
theorem wipeS_length (ρ : List Slot) : ∀ l, (wipeS ρ l).length = ρ.length
  | [] => rfl
  | i :: l => by rw [wipeS, List.length_set, wipeS_length ρ l]
theorem wipeS_get (ρ : List Slot) (j : Nat) : ∀ l, j ∉ l → (wipeS ρ l)[j]? = ρ[j]?
  | [], _ => rfl
  | i :: l, h => by
    rw [wipeS, List.getElem?_set_ne (show i ≠ j from fun z => h (by rw [z]; exact List.mem_cons_self)), wipeS_get ρ j l fun z => h (List.mem_cons_of_mem _ z)]
theorem wipe_get (σ : L2.St) (j : Nat) : ∀ l, j ∉ l → (wipe σ l)[j]? = σ[j]?
  | [], _ => rfl
  | i :: l, h => by
    show ((wipe σ l).set i none)[j]? = _
    rw [List.getElem?_set_ne (show i ≠ j from fun z => h (by rw [z]; exact List.mem_cons_self)), wipe_get σ j l fun z => h (List.mem_cons_of_mem _ z)]
theorem wipe_in (σ : L2.St) (j : Nat) : ∀ l, j ∈ l → (wipe σ l)[j]? = if j < σ.length then some none else none
  | [], h => by cases h
  | i :: l, h => by
    show ((wipe σ l).set i none)[j]? = _
    by_cases e : i = j
    · subst e
      rw [List.getElem?_set, wipe_length]
      simp
    · rw [List.getElem?_set_ne e]
      rcases List.mem_cons.mp h with h | h
      · exact absurd h.symm e
      · exact wipe_in σ j l h
/-- a name's slot is emptied -/
theorem Go.put {i : Nat} {s : Slot} {σ' : L2.St} (g : Go E Fo Tm ι ω σ0 H st T ι1 ω1 σ1 H1 st1) (hi : i < st1.ρ.length) (nl : ∀ d, st.ρ[i]? ≠ some (some (d, .lock))) (hσ : σ'.length = σ1.length) (hσo : ∀ j, j ≠ i → σ'[j]? = σ1[j]?)
    (hs : SlotOk E H1 (FF Fo (orP T Tm) ι1 (ω1.set i none)) Fo ι1 (some none) σ'[i]? s) :
    Go E Fo Tm ι ω σ0 H st T ι1 (ω1.set i none) σ' H1 { st1 with ρ := st1.ρ.set i s } := by
  obtain ⟨R', k⟩ := g.rel.put (i := i) (s := s) (oa := none) (σ' := σ') (Tm' := orP T Tm) hi hσ hσo (fun _ z => z) (fun a z => by cases z) hs
  refine ⟨g.nT, R', g.kp.trans k, g.same, fun j d hj => ?_⟩
  obtain ⟨a1, a2, a3, a4⟩ := g.lock j d hj
  have ne : j ≠ i := fun z => nl d (z ▸ hj)
  refine ⟨?_, (hσo j ne).trans a2, ?_, a4⟩
  · show (st1.ρ.set i s)[j]? = _
    rw [List.getElem?_set_ne (Ne.symm ne)]
    exact a1
  · rw [List.getElem?_set_ne (Ne.symm ne)]
    exact a3
theorem FF.set_none {i : Nat} {a : Addr} (z : FF Fo Tm ι (ω.set i none) a) : FF Fo Tm ι ω a := FF.set_sub (fun _ z => z) (fun a z => by cases z) z
theorem Go.wipe (g : Go E Fo Tm ι ω σ0 H st T ι1 ω1 σ1 H1 st1) : ∀ {l : List Nat}, (∀ i ∈ l, ∀ d, st.ρ[i]? ≠ some (some (d, .lock))) →
    ∃ ω2, Go E Fo Tm ι ω σ0 H st T ι1 ω2 (L2.wipe σ1 l) H1 { st1 with ρ := wipeS st1.ρ l } ∧ ∀ T' a, FF Fo T' ι1 ω2 a → FF Fo T' ι1 ω1 a
  | [], _ => ⟨ω1, g, fun _ _ z => z⟩
  | i :: l, h => by
    obtain ⟨ω2, g2, f2⟩ := Go.wipe g (l := l) fun j hj => h j (List.mem_cons_of_mem _ hj)
    by_cases hi : i < st1.ρ.length
    · exact ⟨_, g2.put (i := i) (s := none) (σ' := (L2.wipe σ1 l).set i none) (by rw [wipeS_length]; exact hi) (h i List.mem_cons_self) (by simp) (fun j hj => List.getElem?_set_ne (Ne.symm hj)) rfl, fun T' a z => f2 T' a (FF.set_none z)⟩
    · have hσ : ¬ i < σ1.length := by rw [g.rel.nρ]; exact hi
      have e1 : wipeS st1.ρ (i :: l) = wipeS st1.ρ l := by
        rw [wipeS]
        exact List.set_eq_of_length_le (by rw [wipeS_length]; omega)
      have e2 : L2.wipe σ1 (i :: l) = L2.wipe σ1 l := by
        show (L2.wipe σ1 l).set i none = _
        exact List.set_eq_of_length_le (by rw [wipe_length]; omega)
      rw [e1, e2]
      exact ⟨ω2, g2, f2⟩
/-- the names' values put back -/
def unwσ (σ σ' : L2.St) : List Nat → L2.St
  | [] => σ'
  | i :: l => match σ[i]? with
    | some x => (unwσ σ σ' l).set i x
    | none => unwσ σ σ' l
theorem unwσ_length (σ σ' : L2.St) : ∀ l, (unwσ σ σ' l).length = σ'.length
  | [] => rfl
  | i :: l => by
    rw [unwσ]
    split
    · rw [List.length_set, unwσ_length σ σ' l]
    · exact unwσ_length σ σ' l
theorem unwσ_out (σ σ' : L2.St) (j : Nat) : ∀ l, j ∉ l → (unwσ σ σ' l)[j]? = σ'[j]?
  | [], _ => rfl
  | i :: l, h => by
    have ne : i ≠ j := fun z => h (z ▸ List.mem_cons_self)
    rw [unwσ]
    split
    · rw [List.getElem?_set_ne ne, unwσ_out σ σ' j l fun z => h (List.mem_cons_of_mem _ z)]
    · exact unwσ_out σ σ' j l fun z => h (List.mem_cons_of_mem _ z)
theorem unwσ_in (σ σ' : L2.St) (hl : σ'.length = σ.length) (j : Nat) : ∀ l, j ∈ l → (unwσ σ σ' l)[j]? = σ[j]?
  | [], h => by cases h
  | i :: l, h => by
    rw [unwσ]
    by_cases e : i = j
    · subst e
      split
      · rename_i x hx
        rw [List.getElem?_set_self (by rw [unwσ_length, hl]; exact (List.getElem?_eq_some_iff.mp hx).1), hx]
      · rename_i hx
        rw [hx]
        have := List.getElem?_eq_none_iff.mp hx
        exact List.getElem?_eq_none_iff.mpr (by rw [unwσ_length, hl]; exact this)
    · have hj : j ∈ l := by
        rcases List.mem_cons.mp h with h | h
        · exact absurd h.symm e
        · exact h
      split
      · rw [List.getElem?_set_ne e, unwσ_in σ σ' hl j l hj]
      · exact unwσ_in σ σ' hl j l hj
theorem unwσ_wipe (σ : L2.St) (l : List Nat) : unwσ σ (L2.wipe σ l) l = σ := by
  apply List.ext_getElem?
  intro j
  by_cases h : j ∈ l
  · exact unwσ_in σ _ (wipe_length σ l) j l h
  · rw [unwσ_out σ _ j l h, wipe_get σ j l h]
theorem unwipe_length (ρ ρ' : List Slot) : ∀ l, (unwipe ρ ρ' l).length = ρ'.length
  | [] => rfl
  | i :: l => by rw [unwipe, List.length_set, unwipe_length ρ ρ' l]
theorem unwipe_out (ρ ρ' : List Slot) (j : Nat) : ∀ l, j ∉ l → (unwipe ρ ρ' l)[j]? = ρ'[j]?
  | [], _ => rfl
  | i :: l, h => by
    rw [unwipe, List.getElem?_set_ne (show i ≠ j from fun z => h (by rw [z]; exact List.mem_cons_self)), unwipe_out ρ ρ' j l fun z => h (List.mem_cons_of_mem _ z)]
theorem unwipe_in (ρ ρ' : List Slot) (j : Nat) : ∀ l, j ∈ l → (unwipe ρ ρ' l)[j]? = if j < ρ'.length then some (ρ[j]?.getD none) else none
  | [], h => by cases h
  | i :: l, h => by
    rw [unwipe]
    by_cases e : i = j
    · subst e
      rw [List.getElem?_set, unwipe_length]
      simp
    · rw [List.getElem?_set_ne e]
      rcases List.mem_cons.mp h with h | h
      · exact absurd h.symm e
      · exact unwipe_in ρ ρ' j l h
theorem unwipe_wipe (ρ ρ' : List Slot) (l : List Nat) : unwipe ρ (wipeS ρ' l) l = unwipe ρ ρ' l := by
  apply List.ext_getElem?
  intro j
  by_cases h : j ∈ l
  · rw [unwipe_in _ _ j l h, unwipe_in _ _ j l h, wipeS_length]
  · rw [unwipe_out _ _ j l h, unwipe_out _ _ j l h, wipeS_get _ j l h]
theorem ownFree_at {ρ : List Slot} {own : List Nat} (h : ownFree ρ own = true) {i : Nat} (hi : i ∈ own) : ρ[i]? = some none ∨ ∃ d, ρ[i]? = some (some (d, .sh)) := by
  unfold ownFree at h
  rw [List.all_eq_true] at h
  have := h i hi
  split at this
  · rename_i e; exact .inl e
  · rename_i e; exact .inr ⟨_, e⟩
  · cases this
theorem Go.restore {own : List Nat} (R : Rel E Fo Tm ι ω σ H st) (hf : ownFree st.ρ own = true) (g : Go E Fo Tm ι ω σ H st T ι1 ω1 (L2.wipe σ own) H1 { st1 with ρ := wipeS st1.ρ own }) :
    ∃ ω2, Go E Fo Tm ι ω σ H st T ι1 ω2 σ H1 { st1 with ρ := unwipe st.ρ st1.ρ own } ∧ ∀ T' a, FF Fo T' ι1 ω2 a → FF Fo T' ι1 ω1 a := by
  have hlen : st1.ρ.length = st.ρ.length := by
    have h1 := g.rel.nρ
    have h2 := R.nρ
    rw [wipe_length] at h1
    have h1 : σ.length = (wipeS st1.ρ own).length := h1
    rw [wipeS_length] at h1
    omega
  have go : ∀ l : List Nat, (∀ i ∈ l, i ∈ own) → ∃ ω2, Go E Fo Tm ι ω σ H st T ι1 ω2 (unwσ σ (L2.wipe σ own) l) H1 { st1 with ρ := unwipe st.ρ (wipeS st1.ρ own) l } ∧ ∀ T' a, FF Fo T' ι1 ω2 a → FF Fo T' ι1 ω1 a := by
    intro l
    induction l with
    | nil => exact fun _ => ⟨ω1, g, fun _ _ z => z⟩
    | cons i l ih =>
      intro hs
      obtain ⟨ω2, g2, f2⟩ := ih fun j hj => hs j (List.mem_cons_of_mem _ hj)
      have io := hs i List.mem_cons_self
      have fr := ownFree_at hf io
      have hi : i < st.ρ.length := by
        rcases fr with e | ⟨d, e⟩
        · exact (List.getElem?_eq_some_iff.mp e).1
        · exact (List.getElem?_eq_some_iff.mp e).1
      have hiσ : i < σ.length := by rw [R.nρ]; exact hi
      have ex : σ[i]? = some σ[i] := List.getElem?_eq_getElem hiσ
      have eu : unwσ σ (L2.wipe σ own) (i :: l) = (unwσ σ (L2.wipe σ own) l).set i σ[i] := by
        rw [unwσ, ex]
      rw [eu]
      have put := g2.put (i := i) (s := st.ρ[i]?.getD none) (σ' := (unwσ σ (L2.wipe σ own) l).set i σ[i]) (by rw [unwipe_length, wipeS_length, hlen]; exact hi)
        (fun d e => by rcases fr with q | ⟨d', q⟩ <;> (rw [q] at e; cases e)) (by simp) (fun j hj => List.getElem?_set_ne (Ne.symm hj)) ?_
      · exact ⟨_, put, fun T' a z => f2 T' a (FF.set_none z)⟩
      · have hset : ((unwσ σ (L2.wipe σ own) l).set i σ[i])[i]? = some σ[i] := List.getElem?_set_self (by rw [unwσ_length, wipe_length]; exact hiσ)
        rcases fr with q | ⟨d, q⟩
        · rw [q]
          exact rfl
        · rw [q]
          obtain ⟨_, v, e1, is⟩ := R.slots i _ q
          refine ⟨rfl, v, ?_, ?_⟩
          · rw [hset, ← ex]
            exact e1
          · have k1 := g2.kp.is is
            exact (Kp.less fun a z => FF.set_sub (fun _ z => z) (fun a z => by cases z) z).is k1
  obtain ⟨ω2, g2, f2⟩ := go own fun _ h => h
  rw [unwσ_wipe, unwipe_wipe] at g2
  exact ⟨ω2, g2, f2⟩
theorem isLock_no {s : W} {j : Nat} (h : (!isLock s.ρ[j]?) = true) (d : D) : s.ρ[j]? ≠ some (some (d, .lock)) := fun e => by
  rw [e] at h
  cases h
theorem Go.unlock {is : List Nat} {u : Unit} (g : Go E Fo Tm ι ω σ0 H st T ι1 ω1 σ1 H1 st1) (h : ∀ j ∈ is, ∀ d, st.ρ[j]? ≠ some (some (d, .lock))) (e : EV.unlock is st1 = .ok u st2) : Go E Fo Tm ι ω σ0 H st T ι1 ω1 σ1 H1 st2 := by
  obtain ⟨R', eS, k⟩ := unlock_ok g.rel e
  refine ⟨g.nT, R', g.kp, g.same, fun j d hj => ?_⟩
  obtain ⟨a1, a2, a3, a4⟩ := g.lock j d hj
  exact ⟨(k j fun z => h j z d hj).trans a1, a2, a3, a4⟩
end
/-- no error may come -/
abbrev noX : WX := fun _ _ _ _ => False
def tTs (C : Cfg) (E : Env) (Wx : WX) (tl : TL) : L2.TT := fun σ H Q => ∃ Fo Tm ι ω st, Rel E Fo Tm ι ω σ H st ∧ Fut E Wx (· = σ) Fo Tm ι ω σ H st (evTs C tl st) (GT Q)
theorem noexc_ok {α : Type} {m : M α} {s s' : W} {a : α} (h : noexc m s = .ok a s') : m s = .ok a s' := by
  unfold noexc at h
  cases hm : m s with
  | ok b t => rw [hm] at h; exact h
  | exc x t => rw [hm] at h; cases h
  | stuck => rw [hm] at h; cases h
section
variable {X : Cx} {C : Cfg} {E : Env} {Wx : WX} {c : SC} {a b e elt tg iter : Expr} {es ifs : List Expr} {ta tb tc : TE} {tl : TL} {pos p : Pos}
theorem _root_.L2.PTs.imp {X : Cx} {es : List Expr} {t t' : L2.TT} (h : PTs X es t) (k : ∀ σ H Q, t' σ H Q → t σ H Q) : PTs X es t' := ⟨fun pins s σ H Q I q => h.run pins s σ H Q I (k σ H Q q)⟩
theorem s_ts_nil : PTs X [] (tTs C E Wx .nil) := pts_nil.imp fun σ H Q ⟨Fo, Tm, ι, ω, st, R, hh⟩ => by
  have hh : Fut E Wx (· = σ) Fo Tm ι ω σ H st ((M.pure true : M Bool) st) (GT Q) := hh
  exact hh.pure_use rfl (Go.refl R)
theorem s_ts_one (h : PT X a (tT C E Wx ta)) : PTs X [a] (tTs C E Wx (.cons ta .nil)) := (pts_one h).imp fun σ H Q ⟨Fo, Tm, ι, ω, st, R, hh⟩ => by
  have hh : Fut E Wx (· = σ) Fo Tm ι ω σ H st ((evT C ta >>= fun r => if r then (M.pure true : M Bool) else M.pure false) st) (GT Q) := hh
  refine ⟨Fo, Tm, ι, ω, st, R, (hh.bind0 fun _ h => h).mono ?_⟩
  intro r T ι' ω' σ' H' st' es g hf
  cases r with
  | true => exact hf.pure_use es g
  | false => exact hf.pure_use es g
theorem comp_step {tgI : TG} {own : List Nat} {tests : M Bool} {el : M Hd} {d : D} {ds acc : List D} {s se : W} {accE : List D} (h : compLoop tgI own (noexc tests) (noexc el) (d :: ds) acc s = .ok accE se) :
    ∃ s2 b s3, assignG tgI (d, false) { s with ρ := wipeS s.ρ own } = .ok () s2 ∧ tests s2 = .ok b s3 ∧
      (b = false → compLoop tgI own (noexc tests) (noexc el) ds acc s3 = .ok accE se) ∧
      (b = true → ∃ h s4 h' s5, el s3 = .ok h s4 ∧ EV.esc h s4 = .ok h' s5 ∧ acc.length < line ∧ compLoop tgI own (noexc tests) (noexc el) ds (acc ++ [h'.1]) s5 = .ok accE se) := by
  rw [compLoop] at h
  obtain ⟨_, s1, e1, h⟩ := bind_ok h
  cases e1
  obtain ⟨u, s2, e2, h⟩ := bind_ok h
  obtain ⟨b, s3, e3, h⟩ := bind_ok h
  refine ⟨s2, b, s3, e2, noexc_ok e3, fun hb => ?_, fun hb => ?_⟩
  · subst hb
    exact h
  · subst hb
    simp only [if_true] at h
    obtain ⟨h1, s4, e4, h⟩ := bind_ok h
    obtain ⟨h2, s5, e5, h⟩ := bind_ok h
    split at h
    · rename_i hl
      exact ⟨h1, s4, h2, s5, noexc_ok e4, e5, hl, h⟩
    · cases h
/-- a comprehension's reading -/
theorem comp_read {own : List Nat} {tgI : TG} {src : TI} {ifsI : TL} {eltI : TE} (hsub : ∀ j ∈ slotsG tgI, j ∈ own) {σ : L2.St} {H : Hp} {Q : VK} (h : tE C E Wx (.comp eltI tgI src ifsI own) σ H Q) : tLc (tI C E Wx src) (tG E noX tgI) (tTs C E noX ifsI) (tE C E noX eltI) own σ H Q := by
  obtain ⟨Fo, Tm, ι, ω, st, R, hh⟩ := h
  revert hsub hh
  generalize own = ow
  intro hsub hh
  have hh : Fut E Wx (· = σ) Fo Tm ι ω σ H st ((evI C src >>= fun items => (fun s => if ownFree s.ρ ow then (match compLoop tgI ow (noexc (evTs C ifsI)) (noexc (evE C eltI)) items.1 [] s with
      | .ok acc s' => (EV.unlock (fresh st items.2) >>= fun _ => (M.pure (.lst acc, true) : M Hd)) { s' with ρ := unwipe s.ρ s'.ρ ow }
      | _ => .stuck) else .stuck : M Hd)) st) (GE E Fo Tm σ Q) := hh
  refine ⟨Fo, Tm, ι, ω, st, R, (hh.bind0 fun _ h => h).mono ?_⟩
  intro items T1 ι1 ω1 σ1 H1 st1 es g1 hK J hJ D hD
  subst es
  have hf : ownFree st1.ρ ow = true := by
    cases q : ownFree st1.ρ ow with
    | true => rfl
    | false => simp only [q, if_false] at hK; exact hK.elim
  simp only [hf, if_true] at hK
  have nlk : ∀ i ∈ ow, ∀ d, st1.ρ[i]? ≠ some (some (d, .lock)) := fun i hi d e => by
    rcases ownFree_at hf hi with q | ⟨d', q⟩ <;> (rw [q] at e; cases e)
  cases hl : compLoop tgI ow (noexc (evTs C ifsI)) (noexc (evE C eltI)) items.1 [] st1 with
  | exc x s => rw [hl] at hK; exact hK.elim
  | stuck => rw [hl] at hK; exact hK.elim
  | ok accE se =>
  rw [hl] at hK
  have R1 := g1.rel
  have g0 : Go E Fo (orP T1 Tm) ι1 ω1 σ1 H1 st1 (fun a => a = D) ι1 ω1 σ1 (upd H1 D (.lst [])) st1 := Go.laid R1 hD trivial
  obtain ⟨ω0, g0w, _⟩ := g0.wipe nlk
  refine ⟨fun i m H' => ∃ acc s ι' ω' xs, m = items.1.length - i ∧ i ≤ items.1.length ∧ Go E Fo (orP T1 Tm) ι1 ω1 σ1 H1 st1 (fun a => a = D) ι' ω' (L2.wipe σ1 ow) H' { s with ρ := wipeS s.ρ ow } ∧ H' D = some (.lst xs) ∧
    IsL E H' (FF Fo (orP (fun a => a = D) (orP T1 Tm)) ι' ω') ι' acc xs ∧ compLoop tgI ow (noexc (evTs C ifsI)) (noexc (evE C eltI)) (items.1.drop i) acc s = .ok accE se, ⟨_, [], st1, ι1, ω0, [], rfl, Nat.zero_le _, g0w, upd_same, rfl, hl⟩, ?_⟩
  rintro i m H' ⟨acc, s, ι', ω', xs, rfl, hle, gg, hD', lx, hl'⟩
  cases hdr : items.1.drop i with
  | nil =>
    rw [hdr] at hl'
    cases hl'
    have hlen : items.1.length ≤ i := by
      have := congrArg List.length hdr
      simp at this
      omega
    refine .inl ⟨(hJ _ _ _ _ _ _ gg i).2 (List.getElem?_eq_none_iff.mpr hlen), ?_⟩
    obtain ⟨ω2, gr, fr⟩ := Go.restore R1 hf gg
    have gB := (g1.trans gr).less (T1 := fun a => a = D) fun a z => .inl z
    obtain ⟨u, s2, eu, hf2⟩ := hK.op (unlock_nx _ _)
    have gU := gB.unlock (fun j hj d => isLock_no (by simpa [fresh] using (List.mem_filter.mp hj).2) d) eu
    have kz : Kp E H' (FF Fo (orP (fun a => a = D) (orP T1 Tm)) ι' ω') ι' H' (FF Fo (orP (fun a => a = D) Tm) ι' ω2) ι' := Kp.less fun a z => fr _ a (FF.less (fun b w => w.elim .inl fun w => .inr (.inr w)) z)
    refine hf2.pure_use rfl gU (.ref D) ?_
    rw [Hk.gen (fun i z => by cases z), if_pos ⟨rfl, rfl⟩]
    exact ⟨D, fun b => Iff.rfl, rfl, xs, hD', kz.isL lx⟩
  | cons d ds =>
    rw [hdr] at hl'
    have hlt : i < items.1.length := by
      have := congrArg List.length hdr
      simp at this
      omega
    have hd : items.1[i]? = some d := by
      have := congrArg (fun l => l[0]?) hdr
      simpa using this
    have hds : items.1.drop (i + 1) = ds := by
      have := congrArg List.tail hdr
      simpa [List.tail_drop] using this
    obtain ⟨sgo, sy⟩ := (hJ _ _ _ _ _ _ gg i).1 d hd
    refine .inr ⟨sgo, fun H'' => ∃ m', m' < items.1.length - i ∧ ∃ acc s ι' ω' xs, m' = items.1.length - (i + 1) ∧ i + 1 ≤ items.1.length ∧ Go E Fo (orP T1 Tm) ι1 ω1 σ1 H1 st1 (fun a => a = D) ι' ω' (L2.wipe σ1 ow) H'' { s with ρ := wipeS s.ρ ow } ∧ H'' D = some (.lst xs) ∧
      IsL E H'' (FF Fo (orP (fun a => a = D) (orP T1 Tm)) ι' ω') ι' acc xs ∧ compLoop tgI ow (noexc (evTs C ifsI)) (noexc (evE C eltI)) (items.1.drop (i + 1)) acc s = .ok accE se, fun _ h => h, fun x H2 y => ?_⟩
    obtain ⟨gy, isx⟩ := sy x H2 y
    obtain ⟨s2, b, s3, ea, et, hlf, hlt'⟩ := comp_step hl'
    have gyR : Rel E Fo (orP (fun a => a = D) (orP T1 Tm)) ι' ω' (L2.wipe σ1 ow) H2 { s with ρ := wipeS s.ρ ow } := by
      have := gy.rel
      rw [orP_no] at this
      exact this
    have dT : (orP (fun a => a = D) (orP T1 Tm)) D := .inl rfl
    refine ⟨Keep (slotsG tgI) (L2.wipe σ1 ow), Fo, orP (fun a => a = D) (orP T1 Tm), ι', ω', L2.wipe σ1 ow, H2, _, noP, ι', ω', { s with ρ := wipeS s.ρ ow }, (d, false), fun _ h => h, Go.refl gyR, Hk.sh (by rw [orP_no]; exact isx) (.inl rfl), ?_⟩
    rw [ea]
    intro T2 ι2 ω2 σ2 H3 hk g2
    have wq : L2.wipe σ2 ow = L2.wipe σ1 ow := by
      have hlen2 : σ2.length = σ1.length := by rw [hk.1, wipe_length]
      apply List.ext_getElem?
      intro j
      by_cases hj : j ∈ ow
      · rw [wipe_in _ j ow hj, wipe_in _ j ow hj, hlen2]
      · rw [wipe_get _ j ow hj, hk.2 j (fun z => hj (by have := hsub j z; exact this))]
    refine ⟨wq, Fo, orP (fun a => a = D) (orP T1 Tm), ι2, ω2, s2, g2.rel0, ?_⟩
    rw [et]
    intro T3 ι3 ω3 σ3 H4 e3 g3
    subst e3
    -- from the turn's start to behind the tests
    have gz : Go E Fo (orP (fun a => a = D) (orP T1 Tm)) ι' ω' (L2.wipe σ1 ow) H' { s with ρ := wipeS s.ρ ow } noP ι3 ω3 σ3 H4 s3 := by
      have a1 := gy.trans (T' := noP) (by rw [orP_no]; exact g2.drop)
      rw [orP_no2] at a1
      have a2 := a1.trans (T' := noP) (by rw [orP_no]; exact g3.drop)
      rw [orP_no2] at a2
      exact a2
    cases b with
    | false =>
      have gA := gg.trans gz
      rw [orP_no2] at gA
      obtain ⟨ω4, gw, fw⟩ := gA.wipe nlk
      rw [wq] at gw
      refine ⟨_, by omega, acc, s3, ι3, ω4, xs, rfl, hlt, gw, (gz.same D (.inr dT)).trans hD', ?_, by rw [hds]; exact hlf rfl⟩
      exact (Kp.less fun a z => fw _ a z).isL (gz.kp0.isL lx)
    | true =>
      obtain ⟨h4, s4, h5, s5, ee, esc5, hacc, hl5⟩ := hlt' rfl
      refine ⟨Fo, orP (fun a => a = D) (orP T1 Tm), ι3, ω3, s3, g3.rel0, ?_⟩
      rw [ee]
      intro T4 ι4 ω4 σ4 H5 e4 g4 v q
      subst e4
      obtain ⟨ω5, g5, is5⟩ := g4.esc q esc5
      have g6 := gz.trans (T' := noP) (by rw [orP_no]; exact g5)
      rw [orP_no2] at g6
      have hD5 : H5 D = some (.lst xs) := (g6.same D (.inr dT)).trans hD'
      have gA := gg.trans g6
      rw [orP_no2] at gA
      have gC := gA.chgT (o := .lst (xs ++ [v])) rfl hD5 trivial trivial
      obtain ⟨ω6, gw, fw⟩ := gC.wipe nlk
      rw [wq] at gw
      have ln := lx.length
      refine ⟨xs, hD5, by rw [ln]; exact hacc, _, by omega, acc ++ [h5.1], s5, ι4, ω6, xs ++ [v], rfl, hlt, gw, upd_same, ?_, by rw [hds]; exact hl5⟩
      have l6 : IsL E H5 (FF Fo (orP (fun a => a = D) (orP T1 Tm)) ι4 ω5) ι4 (acc ++ [h5.1]) (xs ++ [v]) := (g6.kp0.isL lx).append (.one is5)
      exact (Kp.less fun a z => fw _ a z).isL (Cell.upd hD5 trivial (.inr (.inl dT)) l6)
theorem s_comp {scope : Scope} {own : List (Str × Nat)} {tgI : TG} {src : TI} {ifsI : TL} {eltI : TE} (hc : X.calm = true) (hN : X.N.Nodup) (hi : PI X tg iter (tI C E Wx src)) (ok : BlkOk X.N X.env.scope scope own)
    (hg : ∀ (s : Shared) (H : Hp) (C' : Addr) (cl : List (Str × Addr)) (fp : List Addr), PG (X.blk s H scope (compEnvC scope cl C' X.env) fp) tg (tG E noX tgI)) (ht : ∀ (s : Shared) (H : Hp) (C' : Addr) (cl : List (Str × Addr)) (fp : List Addr), PTs (X.blk s H scope (compEnvC scope cl C' X.env) fp) ifs (tTs C E noX ifsI))
    (he : ∀ (s : Shared) (H : Hp) (C' : Addr) (cl : List (Str × Addr)) (fp : List Addr), PE (X.blk s H scope (compEnvC scope cl C' X.env) fp) elt (tE C E noX eltI)) (hs : ∀ x, foldedSetIterable iter X.env x = pure x) (hsub : ∀ j ∈ slotsG tgI, j ∈ own.map (·.2)) :
    PE X (.ListComp elt [⟨tg, iter, ifs, 0⟩] scope pos) (tE C E Wx (.comp eltI tgI src ifsI (own.map (·.2)))) := (pe_lc hc hN hi ok hg ht he hs).imp fun σ H Q h => comp_read hsub h
end
end EV

set_option autoImplicit false
set_option linter.all false
set_option maxRecDepth 10000
namespace EV
open PySem L2 PyProof.Rows

/-! ### statements -/
/-- what is wanted of a statement's end -/
def GS (E : Env) (Fo Tm : Addr → Prop) (D : L2.Ends) : Fl → (Addr → Prop) → List Addr → List (Option Addr) → L2.St → Hp → W → Prop :=
  fun f T ι' ω' σ' H' _ => match f with
  | .next => D.nx σ' H'
  | .brk => D.bk σ' H'
  | .cont => D.ct σ' H'
  | .ret h => ∀ v, Hk E H' (FF Fo (orP T Tm) ι' ω') ι' σ' T h v → (∀ i, h.1 ≠ .loc i) → D.rt v H'
def tS (C : Cfg) (E : Env) (Wx : WX) (s : TS) : L2.TS := fun D σ H => ∃ Fo Tm ι ω st, Rel E Fo Tm ι ω σ H st ∧ Fut E Wx anyS Fo Tm ι ω σ H st (exS C s st) (GS E Fo Tm D)
def tB (C : Cfg) (E : Env) (Wx : WX) (b : TB) : L2.TS := fun D σ H => ∃ Fo Tm ι ω st, Rel E Fo Tm ι ω σ H st ∧ Fut E Wx anyS Fo Tm ι ω σ H st (exB C b st) (GS E Fo Tm D)
theorem _root_.L2.PS.imp {X : Cx} {e : Stmt} {t t' : L2.TS} (h : PS X e t) (k : ∀ D σ H, t' D σ H → t D σ H) : PS X e t' := ⟨fun pins s σ H D I q => h.run pins s σ H D I (k D σ H q)⟩
theorem _root_.L2.PSs.imp {X : Cx} {e : List Stmt} {t t' : L2.TS} (h : PSs X e t) (k : ∀ D σ H, t' D σ H → t D σ H) : PSs X e t' := ⟨fun pins s σ H D I q => h.run pins s σ H D I (k D σ H q)⟩

section
variable {E : Env} {Wx : WX} {Sg : L2.St → Prop} {Fo Tm T T1 T2 : Addr → Prop} {ι ι1 ι2 : List Addr} {ω ω1 ω2 : List (Option Addr)} {σ0 σ σ1 : L2.St} {H H1 H2 : Hp} {st st1 st2 : W} {α : Type} {C : Cfg} {te : TE} {tl : TL} {Q : VK} {F F' : Addr → Prop}
  {G : α → (Addr → Prop) → List Addr → List (Option Addr) → L2.St → Hp → W → Prop} {D : L2.Ends}
/-- a block goes on -/
theorem lastB {b : TB} (g : Go E Fo Tm ι ω σ0 H st T ι1 ω1 σ H1 st1) (hh : Fut E Wx anyS Fo Tm ι ω σ0 H st (exB C b st1) (GS E Fo Tm D)) : tB C E Wx b D σ H1 :=
  ⟨Fo, Tm, ι1, ω1, st1, g.rel0, hh.step0 g⟩
/-- a name stored -/
theorem nextG {h : Hd} {v : V} {tg : TG} {f : Unit → M α} {Q' : L2.St → Hp → Prop} (g : Go E Fo Tm ι ω σ0 H st T ι1 ω1 σ H1 st1) (q : Hk E H1 (FF Fo (orP T Tm) ι1 ω1) ι1 σ T h v) (hh : Fut E Wx anyS Fo Tm ι ω σ0 H st ((assignG tg h >>= f) st1) G)
    (k : ∀ T2 ι2 ω2 σ2 H2 st2, Go E Fo Tm ι ω σ0 H st T2 ι2 ω2 σ2 H2 st2 → Fut E Wx anyS Fo Tm ι ω σ0 H st (f () st2) G → Q' σ2 H2) : tG E Wx tg v σ H1 Q' := by
  refine ⟨anyS, Fo, Tm, ι, ω, σ0, H, st, T, ι1, ω1, st1, h, fun _ _ => trivial, g, q, (hh.bind0 fun _ h => h).mono ?_⟩
  intro u T2 ι2 ω2 σ2 H2 st2 _ g2 hf
  exact k T2 ι2 ω2 σ2 H2 st2 g2 hf
end
section
variable {X : Cx} {C : Cfg} {E : Env} {Wx : WX} {c : SC} {a b e elt tg iter : Expr} {es ifs : List Expr} {ta tb tc te : TE} {tl : TL} {pos p pos' : Pos} {s : Stmt} {ss : List Stmt} {ts : TS} {tbs : TB}
theorem sB_nil : PSs X [] (tB C E Wx .nil) := pss_nil.imp fun D σ H ⟨Fo, Tm, ι, ω, st, R, hh⟩ => by
  have hh : Fut E Wx anyS Fo Tm ι ω σ H st ((M.pure .next : M Fl) st) (GS E Fo Tm D) := hh
  exact hh.pure_use trivial (Go.refl R)
theorem sB_cons (h : PS X s (tS C E Wx ts)) (hr : PSs X ss (tB C E Wx tbs)) : PSs X (s :: ss) (tB C E Wx (.cons ts tbs)) := (pss_cons h hr).imp fun D σ H ⟨Fo, Tm, ι, ω, st, R, hh⟩ => by
  have hh : Fut E Wx anyS Fo Tm ι ω σ H st ((exS C ts >>= fun f => match f with | .next => exB C tbs | f => (M.pure f : M Fl)) st) (GS E Fo Tm D) := hh
  refine ⟨Fo, Tm, ι, ω, st, R, (hh.bind0 fun _ h => h).mono ?_⟩
  intro f T' ι' ω' σ' H' st' _ g hf
  cases f with
  | next => exact lastB g hf
  | brk => exact hf.pure_use trivial g
  | cont => exact hf.pure_use trivial g
  | ret h => exact hf.pure_use trivial g
theorem s_pass : PS X (.Pass pos) (tS C E Wx .pass) := ps_pass.imp fun D σ H ⟨Fo, Tm, ι, ω, st, R, hh⟩ => by
  have hh : Fut E Wx anyS Fo Tm ι ω σ H st ((M.pure .next : M Fl) st) (GS E Fo Tm D) := hh
  exact hh.pure_use trivial (Go.refl R)
theorem s_doc {x : Str} {j : Nat} : PS X (.Expr (.Constant (.str x) j pos) pos') (tS C E Wx .pass) := ps_doc.imp fun D σ H ⟨Fo, Tm, ι, ω, st, R, hh⟩ => by
  have hh : Fut E Wx anyS Fo Tm ι ω σ H st ((M.pure .next : M Fl) st) (GS E Fo Tm D) := hh
  exact hh.pure_use trivial (Go.refl R)
theorem s_brk : PS X (.Break pos) (tS C E Wx .brk) := ps_break.imp fun D σ H ⟨Fo, Tm, ι, ω, st, R, hh⟩ => by
  have hh : Fut E Wx anyS Fo Tm ι ω σ H st ((M.pure .brk : M Fl) st) (GS E Fo Tm D) := hh
  exact hh.pure_use trivial (Go.refl R)
theorem s_cont : PS X (.Continue pos) (tS C E Wx .cont) := ps_continue.imp fun D σ H ⟨Fo, Tm, ι, ω, st, R, hh⟩ => by
  have hh : Fut E Wx anyS Fo Tm ι ω σ H st ((M.pure .cont : M Fl) st) (GS E Fo Tm D) := hh
  exact hh.pure_use trivial (Go.refl R)
theorem s_retN : PS X (.Return none pos) (tS C E Wx .retn) := ps_retN.imp fun D σ H ⟨Fo, Tm, ι, ω, st, R, hh⟩ => by
  have hh : Fut E Wx anyS Fo Tm ι ω σ H st ((M.pure (.ret (.non, false)) : M Fl) st) (GS E Fo Tm D) := hh
  exact hh.pure_use trivial (Go.refl R) .non (Hk.sh rfl (.inl rfl)) fun _ z => by cases z
/-- the expression's value is dropped -/
theorem s_expr (ha : PE X a (tE C E Wx ta)) (hs : swapsWith a none pos.line X.env = pure false) : PS X (.Expr a pos) (tS C E Wx (.expr ta)) := (ps_expr ha hs).imp fun D σ H ⟨Fo, Tm, ι, ω, st, R, hh⟩ => by
  have hh : Fut E Wx anyS Fo Tm ι ω σ H st ((evE C ta >>= fun _ => (M.pure .next : M Fl)) st) (GS E Fo Tm D) := hh
  refine nextE1 R hh trivial fun h x T2 ι2 ω2 H2 st2 g2 q2 hh => ?_
  exact hh.pure_use trivial g2
theorem s_ret (ha : PE X a (tE C E Wx ta)) : PS X (.Return (some a) pos) (tS C E Wx (.ret ta)) := (ps_ret ha).imp fun D σ H ⟨Fo, Tm, ι, ω, st, R, hh⟩ => by
  have hh : Fut E Wx anyS Fo Tm ι ω σ H st ((evE C ta >>= fun h => give h >>= fun h => (M.pure (.ret h) : M Fl)) st) (GS E Fo Tm D) := hh
  refine nextE1 R hh trivial fun h x T2 ι2 ω2 H2 st2 g2 q2 hh => ?_
  obtain ⟨h', st3, e, hh⟩ := hh.op (give_nx h st2)
  obtain ⟨ω', T', R', k, hT', q', nl, lk⟩ := give_ok g2.rel q2 g2.nT e
  have g3 : Go E Fo Tm ι ω σ H st T' ι2 ω' σ H2 st3 := g2.next hT' R' k (fun _ _ => rfl) lk.go
  exact hh.pure_use trivial g3 x q' nl
theorem s_if {aa bb : List Stmt} {tA tB' : TB} (ht : PT X a (tT C E Wx ta)) (ha : PSs X aa (tB C E Wx tA)) (hb : PSs X bb (tB C E Wx tB')) : PS X (.If a aa bb pos) (tS C E Wx (.ite ta tA tB')) := (ps_if ht ha hb).imp fun D σ H ⟨Fo, Tm, ι, ω, st, R, hh⟩ => by
  have hh : Fut E Wx anyS Fo Tm ι ω σ H st ((evT C ta >>= fun r => if r then exB C tA else exB C tB') st) (GS E Fo Tm D) := hh
  refine nextT1 R hh trivial fun b T2 ι2 ω2 H2 st2 g2 hh => ?_
  cases b with
  | true => exact lastB g2 hh
  | false => exact lastB g2 hh
theorem asg_read {tgI : TG} {D : L2.Ends} {σ : L2.St} {H : Hp} (h : tS C E Wx (.asg tgI te) D σ H) : tAsg (tE C E Wx te) (tG E Wx tgI) D σ H := by
  obtain ⟨Fo, Tm, ι, ω, st, R, hh⟩ := h
  have hh : Fut E Wx anyS Fo Tm ι ω σ H st ((evE C te >>= fun h => EV.esc h >>= fun h => assignG tgI h >>= fun _ => (M.pure .next : M Fl)) st) (GS E Fo Tm D) := hh
  refine nextE1 R hh trivial fun h x T2 ι2 ω2 H2 st2 g2 q2 hh => ?_
  obtain ⟨h', st3, e, hh⟩ := hh.op (esc_nx h st2)
  obtain ⟨ω3, T', g3, q3⟩ := g2.pass q2 e
  refine nextG g3 q3 hh fun T4 ι4 ω4 σ4 H4 st4 g4 hf => ?_
  exact hf.pure_use trivial g4
theorem s_asg {tgI : TG} (he : PE X e (tE C E Wx te)) (hg : PG X tg (tG E Wx tgI)) (hs : swapsWithSole [tg] e pos.line X.env = pure false) (hw : swappedStores [tg] e X.env = pure none) (h1 : (assignEach [tg] X.env).map (·.2) = [assign tg X.env]) : PS X (.Assign [tg] e pos) (tS C E Wx (.asg tgI te)) :=
  (ps_asg he hg hs hw h1).imp fun D σ H h => asg_read h
theorem s_setLc {i : Nat} {y : Str} {py spos : Pos} {scope : Scope} {own : List (Str × Nat)} {pr : Bool} {tgI : TG} {src : TI} {ifsI : TL} {eltI : TE} (hc : X.calm = true) (hN : X.N.Nodup) (hy : X.N[i]? = some y) (hyl : X.env.scope.names.lookup y = some .local)
    (hsw : swapsWith (.ListComp elt [⟨tg, iter, ifs, 0⟩] scope pos) (some (.Name y py)) spos.line X.env = pure true) (hi : PI X tg iter (tI C E Wx src)) (ok : BlkOk X.N X.env.scope scope own)
    (hg : ∀ (s : Shared) (H : Hp) (C' : Addr) (cl : List (Str × Addr)) (fp : List Addr), PG (X.blk s H scope (compEnvC scope cl C' X.env) fp) tg (tG E noX tgI)) (ht : ∀ (s : Shared) (H : Hp) (C' : Addr) (cl : List (Str × Addr)) (fp : List Addr), PTs (X.blk s H scope (compEnvC scope cl C' X.env) fp) ifs (tTs C E noX ifsI))
    (he : ∀ (s : Shared) (H : Hp) (C' : Addr) (cl : List (Str × Addr)) (fp : List Addr), PE (X.blk s H scope (compEnvC scope cl C' X.env) fp) elt (tE C E noX eltI)) (hs : ∀ x, foldedSetIterable iter X.env x = pure x) (hsub : ∀ j ∈ slotsG tgI, j ∈ own.map (·.2)) :
    PS X (.Assign [.Name y py] (.ListComp elt [⟨tg, iter, ifs, 0⟩] scope pos) spos) (tS C E Wx (.asg (.slot i pr) (.comp eltI tgI src ifsI (own.map (·.2))))) := by
  refine (ps_setLc hc hN hy hyl hsw hi ok hg ht he hs).imp fun D σ H ⟨Fo, Tm, ι, ω, st, R, hh⟩ => ?_
  refine comp_read hsub ?_
  have hh : Fut E Wx anyS Fo Tm ι ω σ H st ((evE C (.comp eltI tgI src ifsI (own.map (·.2))) >>= fun h => EV.esc h >>= fun h => setSlot i pr h >>= fun _ => (M.pure .next : M Fl)) st) (GS E Fo Tm D) := hh
  refine nextE1 R hh trivial fun h x T2 ι2 ω2 H2 st2 g2 q2 hh => ?_
  obtain ⟨h', st3, e, hh⟩ := hh.op (esc_nx h st2)
  obtain ⟨ω3, T', g3, q3⟩ := g2.pass q2 e
  obtain ⟨u, st4, e4, hf⟩ := hh.op (setSlot_nx i pr h' st3)
  obtain ⟨ι5, ω5, g5, _⟩ := g3.store q3 e4
  exact hf.pure_use trivial g5
/-- o[i] = .. -/
theorem PSet.any {X : Cx} {t' : L2.TSet} (h : ∀ o i v H Q, t' o i v H Q → ∃ t, PSet X t ∧ t o i v H Q) : PSet X t' := fun pins s σ H o i v ov iv u Q I ro ri rv q => by
  obtain ⟨t, ht, q⟩ := h o i v H Q q
  exact ht pins s σ H o i v ov iv u Q I ro ri rv q
def rStore (E : Env) : L2.TSet := fun o i v H Q => ∃ F ι a dk dv d r d', o = .ref a ∧ F a ∧ Cell E H F ι a d ∧ Is E H F ι dk i ∧ Is E H F ι dv v ∧ storeAt dk dv d = some (r, d') ∧ ∀ ob, ChgOk E H F ι a .non r d' ob → Q (upd H a ob)
theorem store_set (hu : X.A.units + 1 < cLine) : PSet X (rStore E) := PSet.any fun o i v H Q ⟨F, ι, a, dk, dv, d, r, d', e, fa, cl, ik, iv, es, k⟩ => by
  subst e
  cases d with
  | lst l =>
    obtain ⟨xs, hx, lx⟩ := cl
    cases dk with
    | int j =>
      have es : (setAt l j dv).map (fun l' => ((D.non, D.lst l') : D × D)) = some (r, d') := es
      obtain ⟨l', e1, e2⟩ := Option.map_eq_some_iff.mp es
      cases e2
      obtain ⟨n, e3, e4⟩ := Option.map_eq_some_iff.mp e1
      subst e4
      cases ik
      refine ⟨_, set_list, a, xs, j, n, rfl, rfl, hx, by rw [lx.length]; exact e3, k _ ⟨trivial, rfl, _, upd_same, ?_⟩⟩
      exact (Cell.upd hx trivial fa lx).set n (Is.upd hx trivial fa iv)
    | _ => cases es
  | dic ks vs =>
    obtain ⟨kvs, hx, rfl, lx⟩ := cl
    have es : (if (dk.fk && decide ((kvs.map fun p => keyD p.1).length < line)) = true then some (D.non, D.dic (putKey (kvs.map fun p => keyD p.1) vs dk dv).1 (putKey (kvs.map fun p => keyD p.1) vs dk dv).2) else none) = some (r, d') := es
    split at es
    · rename_i cc
      rw [Bool.and_eq_true, decide_eq_true_eq, List.length_map] at cc
      cases es
      obtain ⟨z, rfl, rfl⟩ := fk_key cc.1 ik.pk
      have lx' := Cell.upd (o := .dK (putK kvs z v)) hx trivial fa lx
      have iv' := Is.upd (o := .dK (putK kvs z v)) hx trivial fa iv
      obtain ⟨p1, p2⟩ := put_key (k := z) lx' iv'
      exact ⟨_, set_dict hu, a, _, rfl, DPut.k hx cc.2, k _ ⟨trivial, rfl, _, upd_same, p1, p2⟩⟩
    · cases es
  | _ => cases es
theorem s_sub (g : Good X C E Wx c) {o i : Expr} {to ti : TE} (ho : PE X o (tE C E Wx to)) (hi : PE X i (tE C E Wx ti)) (he : PE X e (tE C E Wx te)) (hs : swapsWithSole [.Subscript o i p] e pos.line X.env = pure false) (hw : swappedStores [.Subscript o i p] e X.env = pure none)
    (h1 : (assignEach [.Subscript o i p] X.env).map (·.2) = [assign (.Subscript o i p) X.env])
    (ha : ∀ v, assign (.Subscript o i p) X.env v = (do
      let ov ← holding [v] (eval o X.env)
      let iv ← holding [v, ov] (eval i X.env)
      standAt p
      holding [v, ov, iv] (setItem ov iv v)
      release [v, ov, iv] [])) : PS X (.Assign [.Subscript o i p] e pos) (tS C E Wx (.sub to ti te)) := by
  refine (ps_asg he (pg_sub ho hi (store_set (E := E) (by have := g.hu; omega)) ha) hs hw h1).imp fun D σ H ⟨Fo, Tm, ι, ω, st, R, hh⟩ => ?_
  have hh : Fut E Wx anyS Fo Tm ι ω σ H st ((evE C te >>= fun v => EV.esc v >>= fun v => evE C to >>= fun h => evE C ti >>= fun k => EV.esc k >>= fun k => EV.change h (storeAt k.1 v.1) >>= fun _ => (M.pure .next : M Fl)) st) (GS E Fo Tm D) := hh
  refine nextS1 R hh trivial fun v x ι2 ω2 H2 st2 g2 is2 hh => ?_
  refine nextE g2 hh trivial fun h y T3 ι3 ω3 H3 st3 g3' g3 q3 hh => ?_
  rw [orP_no] at g3' q3
  rw [orP_no'] at g3
  refine nextS g3 hh trivial fun k z ι4 ω4 H4 st4 g4' g4 is4 hh => ?_
  have q4 := q3.keep g4'.kp fun a z => g4'.same a (.inr (.inl z))
  rw [orP_no2] at q4
  have is2 := g4'.kp.is (g3'.kp.is is2)
  rw [orP_no2] at is2
  obtain ⟨h', st5, e5, hh⟩ := hh.op (change_nx h (storeAt k.1 v.1) st4)
  obtain ⟨a, d, r, d', ea, cl, ed, eh, fa, kk⟩ := g4.change q4 e5
  refine ⟨FF Fo (orP T3 Tm) ι4 ω4, ι4, a, k.1, v.1, d, r, d', ea, fa, cl, is4, is2, ed, fun ob hc => ?_⟩
  exact hh.pure_use trivial (kk ob .non hc)
theorem putFld_zip {H : Hp} {F : Addr → Prop} {ι : List Addr} : ∀ {fs : List Str} {vs : List D} {xs : List V} {f : Str} {d : D} {v : V}, fs.length = xs.length → IsL E H F ι vs xs → Is E H F ι d v →
    ∃ ys, putF f v (fs.zip xs) = (putFld fs vs f d).1.zip ys ∧ (putFld fs vs f d).1.length = ys.length ∧ IsL E H F ι (putFld fs vs f d).2 ys
  | [], vs, xs, f, d, v, hl, h, k => by
    have : xs = [] := by cases xs with | nil => rfl | cons _ _ => cases hl
    subst this
    have e : putFld [] vs f d = ([f], [d]) := by cases vs <;> rfl
    rw [e]
    exact ⟨[v], rfl, rfl, .one k⟩
  | g :: gs, [], xs, f, d, v, hl, h, k => by
    rw [IsL.nil h] at hl
    cases hl
  | g :: gs, w :: vs, xs, f, d, v, hl, ⟨x, r, ex, h1, h2⟩, k => by
    subst ex
    have hl : gs.length = r.length := by simpa using hl
    by_cases c : g = f
    · have e : putFld (g :: gs) (w :: vs) f d = (g :: gs, d :: vs) := by rw [putFld, if_pos c]
      rw [e]
      refine ⟨v :: r, ?_, by simp [hl], v, r, rfl, k, h2⟩
      show putF f v ((g, x) :: gs.zip r) = _
      rw [putF, if_pos c, c]
      rfl
    · have e : putFld (g :: gs) (w :: vs) f d = (g :: (putFld gs vs f d).1, w :: (putFld gs vs f d).2) := by rw [putFld, if_neg c]
      rw [e]
      obtain ⟨ys, e1, e2, e3⟩ := putFld_zip (f := f) hl h2 k
      refine ⟨x :: ys, ?_, by simp [e2], x, ys, rfl, h1, e3⟩
      show putF f v ((g, x) :: gs.zip r) = _
      rw [putF, if_neg c, e1]
      rfl
/-- an attribute put -/
theorem fld_store {H : Hp} {F : Addr → Prop} {ι : List Addr} {flds : Str → Str → Bool} (fo : FldOk E X flds) {a : Addr} {f : Str} {v d r d' : D} {x : V} (fa : F a) (cl : Cell E H F ι a d) (iv : Is E H F ι v x) (e : storeFld flds f v d = some (r, d')) :
    ∃ C dx fs, H a = some (.ins C dx fs) ∧ Cls X.K C ∧ NoAttr X.K C f ∧ fs.length < 1000 ∧ ∀ dx', ChgOk E H F ι a .non r d' (.ins C dx' (putF f x fs)) := by
  cases d with
  | ins cn fs vs =>
    obtain ⟨C', dx, xs, hx, hc, hl, lx⟩ := cl
    have e : (if (flds cn f && decide (fs.length < 1000)) = true then some (D.non, D.ins cn (putFld fs vs f v).1 (putFld fs vs f v).2) else none) = some (r, d') := e
    split at e
    · rename_i cc
      cases e
      rw [Bool.and_eq_true, decide_eq_true_eq] at cc
      obtain ⟨k1, k2⟩ := fo.get cn C' f hc cc.1
      refine ⟨C', dx, _, hx, k1, k2, by rw [List.length_zip]; omega, fun dx' => ?_⟩
      obtain ⟨ys, e1, e2, e3⟩ := putFld_zip (f := f) hl (Cell.upd (o := .ins C' dx' (putF f x (fs.zip xs))) hx trivial fa lx) (Is.upd (o := .ins C' dx' (putF f x (fs.zip xs))) hx trivial fa iv)
      exact ⟨trivial, rfl, C', dx', ys, by rw [← e1]; exact upd_same, hc, e2, e3⟩
    · cases e
  | _ => cases e
theorem s_attr (fo : FldOk E X C.flds) {o : Expr} {to : TE} {f : Str} (ho : PE X o (tE C E Wx to)) (he : PE X e (tE C E Wx te)) (hs : swapsWith e (some (.Attribute o f p)) pos.line X.env = pure false) :
    PS X (.Assign [.Attribute o f p] e pos) (tS C E Wx (.attr to f te)) := by
  refine (ps_fld ho he hs).imp fun D σ H ⟨Fo, Tm, ι, ω, st, R, hh⟩ => ?_
  have hh : Fut E Wx anyS Fo Tm ι ω σ H st ((evE C te >>= fun v => (if C.mode (tagS 64 f) 0 = .ref then toCell v else EV.esc v : M Hd) >>= fun v => evE C to >>= fun h => EV.change h (storeFld C.flds f v.1) >>= fun _ => (M.pure .next : M Fl)) st) (GS E Fo Tm D) := hh
  refine nextE1 R hh trivial fun v0 x T2 ι2 ω2 H2 st2 g2 q2 hh => ?_
  have key : ∃ (v : Hd) (st3 : W) (ι3 : List Addr) (ω3 : List (Option Addr)), Go E Fo Tm ι ω σ H st noP ι3 ω3 σ H2 st3 ∧ Is E H2 (FF Fo Tm ι3 ω3) ι3 v.1 x ∧ Fut E Wx anyS Fo Tm ι ω σ H st ((evE C to >>= fun h => EV.change h (storeFld C.flds f v.1) >>= fun _ => (M.pure .next : M Fl)) st3) (GS E Fo Tm D) := by
    split at hh
    · obtain ⟨h', st3, e, hh⟩ := hh.op (toCell_nx v0 st2)
      obtain ⟨ι3, ω3, g3, is, fr⟩ := g2.cell q2 e
      exact ⟨h', st3, ι3, ω3, g3, is, hh⟩
    · obtain ⟨h', st3, e, hh⟩ := hh.op (esc_nx v0 st2)
      obtain ⟨ω3, g3, is⟩ := g2.esc q2 e
      exact ⟨h', st3, ι2, ω3, g3, is, hh⟩
  obtain ⟨v, st3, ι3, ω3, g3, is3, hh⟩ := key
  refine nextE g3 hh trivial fun h y T4 ι4 ω4 H4 st4 g4' g4 q4 hh => ?_
  rw [orP_no] at g4' q4
  rw [orP_no'] at g4
  have is4 := g4'.kp.is is3
  obtain ⟨h', st5, e5, hh⟩ := hh.op (change_nx h (storeFld C.flds f v.1) st4)
  obtain ⟨a, d, r, d', ea, cl, ed, eh, fa, kk⟩ := g4.change q4 e5
  obtain ⟨C', dx, fs, hx, k1, k2, k3, k4⟩ := fld_store fo fa cl is4 ed
  exact ⟨a, C', dx, fs, ea, hx, k1, k2, k3, hh.pure_use trivial (kk _ .non (k4 dx))⟩
theorem inOp_aug {op : Operator} {o : BOp} (e : bopOf op = some o) : InOp X op (fun x y H Q => ∃ i j r, x = .int i ∧ y = .int j ∧ augI o (.int i) (.int j) = some (.int r) ∧ Q (.int r) H) := by
  intro pins s σ H x y u v Q I rx ry ⟨i, j, r, e1, e2, e3, q⟩
  cases op <;> cases e <;> first
    | (exact in_add pins s σ H x y u v Q I rx ry (by cases e3; exact ⟨i, j, e1, e2, q⟩))
    | (exact in_sub pins s σ H x y u v Q I rx ry (by cases e3; exact ⟨i, j, e1, e2, q⟩))
    | (cases e3; done)
theorem augI_int {o : BOp} {x y r : D} (e : augI o x y = some r) : ∃ i j k, x = .int i ∧ y = .int j ∧ r = .int k := by
  unfold augI at e
  split at e <;> cases e
  · exact ⟨_, _, _, rfl, rfl, rfl⟩
  · exact ⟨_, _, _, rfl, rfl, rfl⟩
theorem s_augattr (fo : FldOk E X C.flds) {o : Expr} {to : TE} {f : Str} {op : Operator} {bo : BOp} (eo : bopOf op = some bo) (ho : PE X o (tE C E Wx to)) (he : PE X e (tE C E Wx te)) :
    PS X (.AugAssign (.Attribute o f p) op e pos) (tS C E Wx (.augattr to f bo te)) := by
  refine (ps_fldaug ho he (inOp_aug eo)).imp fun D σ H ⟨Fo, Tm, ι, ω, st, R, hh⟩ => ?_
  have hh : Fut E Wx anyS Fo Tm ι ω σ H st ((evE C to >>= fun h => EV.peek h >>= fun x => liftO (fldopI C.flds x f) >>= fun d => evE C te >>= fun k => EV.peek k >>= fun y => liftO (augI bo d y) >>= fun r => EV.change h (fun c => if sameC x c then storeFld C.flds f r c else none) >>= fun _ => (M.pure .next : M Fl)) st) (GS E Fo Tm D) := hh
  refine nextE1 R hh trivial fun h x T2 ι2 ω2 H2 st2 g2 q2 hh => ?_
  obtain ⟨dx, px, hh⟩ := Fut.peek g2.rel q2 hh
  obtain ⟨d, ed, hh⟩ := hh.lift
  cases dx with
  | ins cn fs vs =>
    obtain ⟨a, CC, dd, xs, rfl, hx, hc, hl, lx⟩ := px
    have ed : (if C.flds cn f = true then (fs.zip vs).lookup f else none) = some d := ed
    split at ed
    · rename_i cc
      obtain ⟨k1, k2⟩ := fo.get cn CC f hc cc
      obtain ⟨v, l1, l2⟩ := lookup_zip hl lx ed
      refine ⟨a, CC, dd, _, v, rfl, hx, k1, k2, l1, ?_⟩
      refine nextE g2 hh trivial fun k y T3 ι3 ω3 H3 st3 g3' g3 q3 hh => ?_
      have q2' := q2.keep g3'.kp fun a z => g3'.same a (.inr (.inl z))
      obtain ⟨dy, py, hh⟩ := Fut.peek g3'.rel q3 hh
      obtain ⟨r, er, hh⟩ := hh.lift
      obtain ⟨i, j, k, rfl, rfl, rfl⟩ := augI_int er
      cases l2
      cases py
      refine ⟨i, j, k, rfl, rfl, er, ?_⟩
      obtain ⟨h', st5, e5, hh⟩ := hh.op (change_nx _ _ st3)
      have g3l := g3.less (T1 := T2) fun a z => .inr z
      have q2l := q2'.less (F' := FF Fo (orP T2 Tm) ι3 ω3) fun a z => FF.less (fun _ z => .inr z) z
      obtain ⟨a', d', r, d'', ea, cl, ed', eh, fa, kk⟩ := g3l.change q2l e5
      cases ea
      split at ed'
      · rename_i sc
        cases d' with
        | ins cn' fs' vs' =>
          have sc : decide (cn = cn') = true := sc
          rw [decide_eq_true_eq] at sc
          subst sc
          obtain ⟨C', dx, fs, hx, k1, k2, k3, k4⟩ := fld_store (v := .int k) (x := .int k) fo fa cl (by exact rfl) ed'
          obtain ⟨C3, dx3, xs3, hx3, hc3, hl3, lx3⟩ := cl
          rw [hc] at hc3
          cases hc3
          rw [hx] at hx3
          cases hx3
          exact ⟨dx, _, hx, k3, hh.pure_use trivial (kk _ .non (k4 dx))⟩
        | _ => cases sc
      · cases ed'
    · cases ed
  | _ => cases ed
theorem for_read {tgI : TG} {src : TI} {b : TB} {D : L2.Ends} {σ : L2.St} {H : Hp} (h : tS C E Wx (.for_ tgI src b) D σ H) : tFor (tI C E Wx src) (tG E Wx tgI) (tB C E Wx b) D σ H := by
  obtain ⟨Fo, Tm, ι, ω, st, R, hh⟩ := h
  have hh : Fut E Wx anyS Fo Tm ι ω σ H st ((evI C src >>= fun items => forLoop tgI (exB C b) items.1 >>= fun f => EV.unlock (fresh st items.2) >>= fun _ => (M.pure f : M Fl)) st) (GS E Fo Tm D) := hh
  refine ⟨Fo, Tm, ι, ω, st, R, (hh.bind0 fun _ _ => trivial).mono ?_⟩
  intro items T1 ι1 ω1 σ1 H1 st1 es g1 hK J hJ
  subst es
  have gl : ∀ j ∈ fresh st items.2, ∀ d, st.ρ[j]? ≠ some (some (d, .lock)) := fun j hj d => isLock_no (by simpa [fresh] using (List.mem_filter.mp hj).2) d
  refine ⟨fun i m σ' H' => ∃ s ι' ω', m = items.1.length - i ∧ i ≤ items.1.length ∧ Go E Fo (orP T1 Tm) ι1 ω1 σ1 H1 st1 noP ι' ω' σ' H' s ∧
    Fut E Wx anyS Fo Tm ι ω σ1 H st ((forLoop tgI (exB C b) (items.1.drop i) >>= fun f => EV.unlock (fresh st items.2) >>= fun _ => (M.pure f : M Fl)) s) (GS E Fo Tm D),
    ⟨_, st1, ι1, ω1, rfl, Nat.zero_le _, Go.refl g1.rel, hK⟩, ?_⟩
  rintro i m σ' H' ⟨s, ι', ω', rfl, hle, gg, hf⟩
  have base : Go E Fo Tm ι ω σ1 H st T1 ι' ω' σ' H' s := by
    have := g1.trans gg
    rw [orP_no2] at this
    exact this
  -- a loop's end
  have leave : ∀ {f : Fl} {s2 : W} {T2 : Addr → Prop} {ι2 : List Addr} {ω2 : List (Option Addr)} {σ2 : L2.St} {H2 : Hp}, Go E Fo Tm ι ω σ1 H st T2 ι2 ω2 σ2 H2 s2 → Fut E Wx anyS Fo Tm ι ω σ1 H st ((EV.unlock (fresh st items.2) >>= fun _ => (M.pure f : M Fl)) s2) (GS E Fo Tm D) →
      GS E Fo Tm D f T2 ι2 ω2 σ2 H2 s2 := fun {f s2 T2 ι2 ω2 σ2 H2} g2 hf2 => by
    obtain ⟨u, s3, eu, hf3⟩ := hf2.op (unlock_nx _ _)
    exact hf3.pure_use trivial (g2.unlock gl eu)
  cases hdr : items.1.drop i with
  | nil =>
    rw [hdr] at hf
    have hlen : items.1.length ≤ i := by
      have := congrArg List.length hdr
      simp at this
      omega
    refine .inl ⟨(hJ _ _ _ _ _ _ gg i).2 (List.getElem?_eq_none_iff.mpr hlen), ?_⟩
    exact leave (f := .next) base hf
  | cons d ds =>
    rw [hdr] at hf
    have hlt : i < items.1.length := by
      have := congrArg List.length hdr
      simp at this
      omega
    have hd : items.1[i]? = some d := by
      have := congrArg (fun l => l[0]?) hdr
      simpa using this
    have hds : items.1.drop (i + 1) = ds := by
      have := congrArg List.tail hdr
      simpa [List.tail_drop] using this
    obtain ⟨sgo, sy⟩ := (hJ _ _ _ _ _ _ gg i).1 d hd
    refine .inr ⟨sgo, fun σ'' H'' => ∃ m', m' < items.1.length - i ∧ ∃ s ι' ω', m' = items.1.length - (i + 1) ∧ i + 1 ≤ items.1.length ∧ Go E Fo (orP T1 Tm) ι1 ω1 σ1 H1 st1 noP ι' ω' σ'' H'' s ∧
      Fut E Wx anyS Fo Tm ι ω σ1 H st ((forLoop tgI (exB C b) (items.1.drop (i + 1)) >>= fun f => EV.unlock (fresh st items.2) >>= fun _ => (M.pure f : M Fl)) s) (GS E Fo Tm D), fun _ _ h => h, fun x H2 y => ?_⟩
    obtain ⟨gy, isx⟩ := sy x H2 y
    rw [orP_no] at gy isx
    have gB := base.trans (T' := noP) gy
    rw [orP_no2] at gB
    have gI := gg.trans (T' := noP) (by rw [orP_no]; exact gy)
    rw [orP_no2] at gI
    have e1 : (forLoop tgI (exB C b) (d :: ds) >>= fun f => EV.unlock (fresh st items.2) >>= fun _ => (M.pure f : M Fl)) = (assignG tgI (d, false) >>= fun _ => exB C b >>= fun f => (match f with | .ret h => (M.pure (.ret h) : M Fl) | .brk => M.pure .next | _ => forLoop tgI (exB C b) ds) >>= fun f => EV.unlock (fresh st items.2) >>= fun _ => (M.pure f : M Fl)) := by
      rw [forLoop, M_assoc]
      congr 1
      funext u
      rw [M_assoc]
      try rfl
    rw [e1] at hf
    have gIr := gI.rel
    rw [orP_no] at gIr
    -- the names are stored from here
    refine ⟨anyS, Fo, orP T1 Tm, ι', ω', σ', H2, s, noP, ι', ω', s, (d, false), fun _ _ => trivial, Go.refl gIr, Hk.sh (by rw [orP_no]; exact isx) (.inl rfl), ((hf.bind0 fun _ h => h).step gB).mono ?_⟩
    intro u T3 ι3 ω3 σ3 H3 s3 _ g3 hf3
    have gB3 := gB.trans g3
    refine ⟨Fo, orP T1 Tm, ι3, ω3, s3, g3.rel0, ((hf3.bind0 fun _ h => h).step (gB3.less (T1 := T1) fun a z => .inr z)).mono ?_⟩
    intro f T4 ι4 ω4 σ4 H4 s4 _ g4 hf4
    have gB4 := (gB3.less (T1 := T1) fun a z => .inr z).trans g4
    have again : Fut E Wx anyS Fo Tm ι ω σ1 H st ((forLoop tgI (exB C b) ds >>= fun f => EV.unlock (fresh st items.2) >>= fun _ => (M.pure f : M Fl)) s4) (GS E Fo Tm D) → ∃ m', m' < items.1.length - i ∧ ∃ s ι' ω', m' = items.1.length - (i + 1) ∧ i + 1 ≤ items.1.length ∧ Go E Fo (orP T1 Tm) ι1 ω1 σ1 H1 st1 noP ι' ω' σ4 H4 s ∧
      Fut E Wx anyS Fo Tm ι ω σ1 H st ((forLoop tgI (exB C b) (items.1.drop (i + 1)) >>= fun f => EV.unlock (fresh st items.2) >>= fun _ => (M.pure f : M Fl)) s) (GS E Fo Tm D) := fun hf5 => by
      have g3d : Go E Fo (orP T1 Tm) ι' ω' σ' H2 s noP ι3 ω3 σ3 H3 s3 := g3.drop
      have a1 := gI.trans (T' := noP) (by rw [orP_no]; exact g3d)
      rw [orP_no2] at a1
      have a2 := a1.trans (T' := noP) (by rw [orP_no]; exact g4.drop)
      rw [orP_no2] at a2
      refine ⟨_, by omega, s4, ι4, ω4, rfl, hlt, a2, ?_⟩
      rw [hds]
      exact hf5
    cases f with
    | next => exact again hf4
    | cont => exact again hf4
    | brk => exact leave (f := .next) gB4 hf4
    | ret h =>
      intro v q nl
      have gR := gB4.less (T1 := T4) fun a z => .inl z
      have := leave (f := .ret h) gR hf4 v (q.less (F' := FF Fo (orP T4 Tm) ι4 ω4) fun a z => FF.less (fun b w => w.elim .inl fun w => .inr (.inr w)) z) nl
      exact this
theorem s_for {body : List Stmt} {tgI : TG} {src : TI} {b : TB} (g : Good X C E Wx c) (hi : PI X tg iter (tI C E Wx src)) (hg : PG X tg (tG E Wx tgI)) (hb : PSs X body (tB C E Wx b)) (hs : ∀ x, foldedSetIterable iter X.env x = pure x) : PS X (.For tg iter body [] pos) (tS C E Wx (.for_ tgI src b)) :=
  (ps_for g.hp g.calm hi hg hb hs).imp fun D σ H h => for_read h
theorem while_read {t : TE} {b : TB} {D : L2.Ends} {σ : L2.St} {H : Hp} (h : tS C E Wx (.while_ t b) D σ H) : tWhile (tT C E Wx t) (tB C E Wx b) D σ H := by
  obtain ⟨Fo, Tm, ι, ω, st, R, hh⟩ := h
  have hh : Fut E Wx anyS Fo Tm ι ω σ H st (whileLoop (evT C t) (exB C b) C.W st) (GS E Fo Tm D) := hh
  refine ⟨fun m σ' H' => ∃ s ι' ω', Go E Fo Tm ι ω σ H st noP ι' ω' σ' H' s ∧ Fut E Wx anyS Fo Tm ι ω σ H st (whileLoop (evT C t) (exB C b) m s) (GS E Fo Tm D), ⟨C.W, st, ι, ω, Go.refl R, hh⟩, ?_⟩
  rintro m σ' H' ⟨s, ι', ω', gg, hf⟩
  cases m with
  | zero => exact hf.elim
  | succ m =>
    have hf : Fut E Wx anyS Fo Tm ι ω σ H st ((evT C t >>= fun b' => if b' then (exB C b >>= fun f => match f with | .ret h => (M.pure (.ret h) : M Fl) | .brk => M.pure .next | _ => whileLoop (evT C t) (exB C b) m) else M.pure .next) s) (GS E Fo Tm D) := hf
    refine nextT gg hf trivial fun b' T2 ι2 ω2 H2 st2 g2' g2 hf => ?_
    cases b' with
    | false => exact hf.pure_use trivial g2
    | true =>
      refine ⟨fun σ'' H'' => ∃ s ι' ω', Go E Fo Tm ι ω σ H st noP ι' ω' σ'' H'' s ∧ Fut E Wx anyS Fo Tm ι ω σ H st (whileLoop (evT C t) (exB C b) m s) (GS E Fo Tm D), fun σ' H' h => ⟨m, Nat.lt_succ_self m, h⟩, ?_⟩
      refine ⟨Fo, Tm, ι2, ω2, st2, g2.rel0, ((Fut.bind0 hf fun _ h => h).step0 g2).mono ?_⟩
      intro f T4 ι4 ω4 σ4 H4 s4 _ g4 hf4
      have gB := g2.drop.trans (T' := T4) (by rw [orP_no]; exact g4)
      rw [orP_no'] at gB
      cases f with
      | next => exact ⟨s4, ι4, ω4, gB.drop, hf4⟩
      | cont => exact ⟨s4, ι4, ω4, gB.drop, hf4⟩
      | brk => exact hf4.pure_use trivial gB
      | ret h => exact hf4.pure_use trivial gB
theorem s_while {body : List Stmt} {b : TB} (g : Good X C E Wx c) (ht : PT X a (tT C E Wx ta)) (hb : PSs X body (tB C E Wx b)) : PS X (.While a body [] pos) (tS C E Wx (.while_ ta b)) :=
  (ps_while g.hp ht hb).imp fun D σ H h => while_read h
end
end EV

set_option autoImplicit false
set_option linter.all false
set_option maxRecDepth 10000
namespace EV
open PySem L2 PyProof.Rows

/-! ### arguments as a def gets them -/
def ArOk1 (E : Env) (H : Hp) (F Fo' : Addr → Prop) (ι : List Addr) : Option Addr → Ar → V → Prop
  | oa, (d, .sh), v => oa = none ∧ Is E H F ι d v
  | oa, (d, .bor), v => oa = none ∧ ∃ a, v = .ref a ∧ Fo' a ∧ Cell E H F ι a d
  | oa, (d, _), v => ∃ a, oa = some a ∧ v = .ref a ∧ Cell E H F ι a d
def ArOk (E : Env) (H : Hp) (F Fo' : Addr → Prop) (ι : List Addr) : List (Option Addr) → List Ar → List V → Prop
  | [], [], [] => True
  | oa :: ωs, a :: as, v :: vs => ArOk1 E H F Fo' ι oa a v ∧ ArOk E H F Fo' ι ωs as vs
  | _, _, _ => False
section
variable {E : Env} {Wx : WX} {Sg : L2.St → Prop} {Fo Fo' Tm T T1 T2 : Addr → Prop} {ι ι1 ι2 : List Addr} {ω ω1 ω2 : List (Option Addr)} {σ0 σ σ1 : L2.St} {H H1 H2 : Hp} {st st1 st2 : W} {α : Type} {C : Cfg} {te : TE} {tl : TL} {Q : VK} {F F' : Addr → Prop}
  {G : α → (Addr → Prop) → List Addr → List (Option Addr) → L2.St → Hp → W → Prop}
theorem ArOk.len : ∀ {ωs : List (Option Addr)} {as : List Ar} {vs : List V}, ArOk E H F Fo' ι ωs as vs → ωs.length = vs.length ∧ as.length = vs.length
  | [], [], [], _ => ⟨rfl, rfl⟩
  | oa :: ωs, a :: as, v :: vs, h => by
    obtain ⟨h1, h2⟩ := ArOk.len h.2
    exact ⟨by simp [h1], by simp [h2]⟩
  | [], [], _ :: _, h => h.elim
  | [], _ :: _, _, h => h.elim
  | _ :: _, [], _, h => h.elim
  | _ :: _, _ :: _, [], h => h.elim
theorem ArOk.append : ∀ {ωs ωs' : List (Option Addr)} {as as' : List Ar} {vs vs' : List V}, ArOk E H F Fo' ι ωs as vs → ArOk E H F Fo' ι ωs' as' vs' → ArOk E H F Fo' ι (ωs ++ ωs') (as ++ as') (vs ++ vs')
  | [], _, [], _, [], _, _, k => k
  | oa :: ωs, _, a :: as, _, v :: vs, _, h, k => ⟨h.1, ArOk.append h.2 k⟩
  | [], _, [], _, _ :: _, _, h, _ => h.elim
  | [], _, _ :: _, _, _, _, h, _ => h.elim
  | _ :: _, _, [], _, _, _, h, _ => h.elim
  | _ :: _, _, _ :: _, _, [], _, h, _ => h.elim
theorem ArOk.shared : ∀ {ds : List D} {vs : List V}, IsL E H F ι ds vs → ArOk E H F Fo' ι (ds.map fun _ => none) (ds.map fun d => (d, .sh)) vs
  | [], _, h => by rw [IsL.nil h]; exact trivial
  | _ :: _, _, ⟨x, r, e, h1, h2⟩ => by subst e; exact ⟨⟨rfl, h1⟩, ArOk.shared h2⟩
theorem ArOk.slot : ∀ {ωs : List (Option Addr)} {as : List Ar} {vs : List V}, ArOk E H F Fo' ι ωs as vs → ∀ {i : Nat} {a : Ar}, as[i]? = some a → SlotOk E H F Fo' ι ωs[i]? (vs.map some)[i]? (some a)
  | oa :: ωs, a :: as, v :: vs, h, 0, b, e => by
    simp at e
    subst e
    obtain ⟨h, _⟩ := h
    obtain ⟨d, o⟩ := a
    cases o with
    | sh => exact ⟨by rw [h.1]; rfl, v, rfl, h.2⟩
    | bor => obtain ⟨e, a, e1, e2, c⟩ := h; exact ⟨by rw [e]; rfl, a, by rw [e1]; rfl, e2, c⟩
    | own => obtain ⟨a, e1, e2, c⟩ := h; exact ⟨a, by rw [e1]; rfl, by rw [e2]; rfl, c⟩
    | lock => obtain ⟨a, e1, e2, c⟩ := h; exact ⟨a, by rw [e1]; rfl, by rw [e2]; rfl, c⟩
  | oa :: ωs, a :: as, v :: vs, h, i + 1, b, e => by
    have := ArOk.slot h.2 (i := i) (a := b) (by simpa using e)
    simpa using this
  | [], [], [], _, _, _, e => by simp at e
  | [], [], _ :: _, h, _, _, _ => h.elim
  | [], _ :: _, _, h, _, _, _ => h.elim
  | _ :: _, [], _, h, _, _, _ => h.elim
  | _ :: _, _ :: _, [], h, _, _, _ => h.elim
/-- what is barred at a call, the arguments apart -/
def outer (Fo Tm : Addr → Prop) (ω : List (Option Addr)) : Addr → Prop := fun a => Fo a ∨ Tm a ∨ ∃ i : Nat, ω[i]? = some (some a)
/-- no address twice -/
def Uniq (ω : List (Option Addr)) : Prop := ∀ (m n : Nat) (a : Addr), ω[m]? = some (some a) → ω[n]? = some (some a) → m = n
theorem Uniq.cons_none {ω : List (Option Addr)} (h : Uniq ω) : Uniq (none :: ω) := fun m n a e1 e2 => by
  cases m with
  | zero => simp at e1
  | succ m =>
    cases n with
    | zero => simp at e2
    | succ n => rw [h m n a (by simpa using e1) (by simpa using e2)]
theorem Uniq.cons_some {ω : List (Option Addr)} {b : Addr} (h : Uniq ω) (hb : ∀ i : Nat, ω[i]? ≠ some (some b)) : Uniq (some b :: ω) := fun m n a e1 e2 => by
  cases m with
  | zero =>
    simp at e1
    subst e1
    cases n with
    | zero => rfl
    | succ n => exact absurd (by simpa using e2) (hb n)
  | succ m =>
    cases n with
    | zero =>
      simp at e2
      subst e2
      exact absurd (by simpa using e1) (hb m)
    | succ n => rw [h m n a (by simpa using e1) (by simpa using e2)]
theorem argsAt_ok (R : Rel E Fo (orP T1 Tm) ι ω σ H st) : ∀ {hs : List Hd} {as : List Ar} {vs : List V} {T : Addr → Prop}, HkL E H (FF Fo (orP T1 Tm) ι ω) ι σ T hs vs → argsAt st.ρ hs = some as →
    ∃ ωs, ArOk E H (FF Fo (orP T1 Tm) ι ω) (outer Fo Tm ω) ι ωs as vs ∧ (∀ a, T a ↔ ∃ i : Nat, ωs[i]? = some (some a)) ∧ Uniq ωs
  | [], as, vs, T, h, e => by
    obtain ⟨rfl, hT⟩ := h
    cases e
    exact ⟨[], trivial, fun a => ⟨fun z => (hT a z).elim, fun ⟨i, e⟩ => by simp at e⟩, fun m n a e => by simp at e⟩
  | (d, fr) :: hs, as, vs, T, ⟨x, r, Ta, Tb, e1, e2, e3, q, l⟩, e => by
    subst e1
    have fin : ∀ {as' : List Ar} {oa : Option Addr} {a : Ar}, argsAt st.ρ hs = some as' → as = a :: as' → ArOk1 E H (FF Fo (orP T1 Tm) ι ω) (outer Fo Tm ω) ι oa a x → (∀ b, Ta b ↔ oa = some b) →
        ∃ ωs, ArOk E H (FF Fo (orP T1 Tm) ι ω) (outer Fo Tm ω) ι ωs as (x :: r) ∧ (∀ a, T a ↔ ∃ i : Nat, ωs[i]? = some (some a)) ∧ Uniq ωs := fun {as' oa a} ea ee ok hTa => by
      subst ee
      obtain ⟨ωs, k1, k2, k3⟩ := argsAt_ok R l ea
      refine ⟨oa :: ωs, ⟨ok, k1⟩, fun b => ?_, ?_⟩
      · rw [e2, hTa, k2]
        constructor
        · rintro (z | ⟨i, z⟩)
          · exact ⟨0, by rw [z]; rfl⟩
          · exact ⟨i + 1, by simpa using z⟩
        · rintro ⟨i, z⟩
          cases i with
          | zero => exact .inl (by simpa using z)
          | succ i => exact .inr ⟨i, by simpa using z⟩
      · cases oa with
        | none => exact k3.cons_none
        | some b => exact k3.cons_some fun i z => e3 b ((hTa b).mpr rfl) ((k2 b).mpr ⟨i, z⟩)
    cases d with
    | loc i =>
      obtain ⟨hT, eσ⟩ := q
      have noT : ∀ b, Ta b ↔ (none : Option Addr) = some b := fun b => ⟨fun z => (hT b z).elim, fun z => by cases z⟩
      unfold argsAt at e
      split at e
      · rename_i d hd
        obtain ⟨as', ea, ee⟩ := Option.map_eq_some_iff.mp e
        obtain ⟨_, v, ev, is⟩ := R.slots i _ hd
        rw [eσ] at ev
        cases ev
        exact fin ea ee.symm ⟨rfl, is⟩ noT
      · rename_i d o no hd
        obtain ⟨as', ea, ee⟩ := Option.map_eq_some_iff.mp e
        have sl := R.slots i _ hd
        refine fin ea ee.symm ⟨rfl, ?_⟩ noT
        cases o with
        | sh => exact absurd rfl no
        | own => obtain ⟨a, w, ev, c⟩ := sl; rw [eσ] at ev; cases ev; exact ⟨a, rfl, .inr (.inr ⟨i, w⟩), c⟩
        | lock => obtain ⟨a, w, ev, c⟩ := sl; rw [eσ] at ev; cases ev; exact ⟨a, rfl, .inr (.inr ⟨i, w⟩), c⟩
        | bor => obtain ⟨w, a, ev, fo, c⟩ := sl; rw [eσ] at ev; cases ev; exact ⟨a, rfl, .inl fo, c⟩
      · cases e
    | _ =>
      rw [Hk.gen (fun i z => by cases z)] at q
      have e : (argsAt st.ρ hs).map ((_, if fr && D.mutable _ then Own.own else Own.sh) :: ·) = some as := e
      obtain ⟨as', ea, ee⟩ := Option.map_eq_some_iff.mp e
      split at q
      · rename_i c
        obtain ⟨a, hTa, rfl, cl⟩ := q
        refine fin (oa := some a) ea ee.symm ?_ fun b => by rw [hTa]; exact ⟨fun z => by rw [z], fun z => by cases z; rfl⟩
        rw [if_pos (by rw [Bool.and_eq_true]; exact c)]
        exact ⟨a, rfl, rfl, cl⟩
      · rename_i c
        refine fin (oa := none) ea ee.symm ?_ fun b => ⟨fun z => (q.1 b z).elim, fun z => by cases z⟩
        rw [if_neg (by rw [Bool.and_eq_true]; exact c)]
        exact ⟨rfl, q.2⟩
/-- the slots at a def's entry -/
def startV (n : Nat) (vs : List V) : L2.St := vs.map some ++ List.replicate (n - vs.length) none
def startO (n : Nat) (ωs : List (Option Addr)) : List (Option Addr) := ωs ++ List.replicate (n - ωs.length) none
theorem startO_some {n : Nat} {ωs : List (Option Addr)} {i : Nat} {a : Addr} : (startO n ωs)[i]? = some (some a) ↔ ωs[i]? = some (some a) := by
  unfold startO
  by_cases h : i < ωs.length
  · rw [List.getElem?_append_left h]
  · rw [List.getElem?_append_right (by omega), List.getElem?_replicate]
    constructor
    · intro e
      split at e <;> cases e
    · intro e
      exact absurd (List.getElem?_eq_some_iff.mp e).1 h
theorem FF.enter {ωs : List (Option Addr)} (n : Nat) (hT : ∀ a, T a ↔ ∃ i : Nat, ωs[i]? = some (some a)) {a : Addr} : FF (outer Fo Tm ω) noP ι (startO n ωs) a ↔ FF Fo (orP T Tm) ι ω a := by
  unfold FF outer orP
  constructor
  · rintro ((z | z | z) | z | z | ⟨i, z⟩)
    · exact .inl z
    · exact .inr (.inl (.inr z))
    · exact .inr (.inr (.inr z))
    · exact z.elim
    · exact .inr (.inr (.inl z))
    · exact .inr (.inl (.inl ((hT a).mpr ⟨i, startO_some.mp z⟩)))
  · rintro (z | (z | z) | z | z)
    · exact .inl (.inl z)
    · obtain ⟨i, e⟩ := (hT a).mp z
      exact .inr (.inr (.inr ⟨i, startO_some.mpr e⟩))
    · exact .inl (.inr (.inl z))
    · exact .inr (.inr (.inl z))
    · exact .inl (.inr (.inr z))
theorem ArOk1.less {oa : Option Addr} {a : Ar} {v : V} (hF : ∀ a, F' a → F a) (h : ArOk1 E H F Fo' ι oa a v) : ArOk1 E H F' Fo' ι oa a v := by
  have k : Kp E H F ι H F' ι := Kp.less hF
  obtain ⟨d, o⟩ := a
  cases o with
  | sh => exact ⟨h.1, k.is h.2⟩
  | bor => obtain ⟨e, a, e1, e2, c⟩ := h; exact ⟨e, a, e1, e2, k.cell rfl c⟩
  | own => obtain ⟨a, e1, e2, c⟩ := h; exact ⟨a, e1, e2, k.cell rfl c⟩
  | lock => obtain ⟨a, e1, e2, c⟩ := h; exact ⟨a, e1, e2, k.cell rfl c⟩
theorem ArOk.less (hF : ∀ a, F' a → F a) : ∀ {ωs : List (Option Addr)} {as : List Ar} {vs : List V}, ArOk E H F Fo' ι ωs as vs → ArOk E H F' Fo' ι ωs as vs
  | [], [], [], h => h
  | oa :: ωs, a :: as, v :: vs, h => ⟨h.1.less hF, ArOk.less hF h.2⟩
  | [], [], _ :: _, h => h.elim
  | [], _ :: _, _, h => h.elim
  | _ :: _, [], _, h => h.elim
  | _ :: _, _ :: _, [], h => h.elim
/-- a def's start -/
theorem enter {n : Nat} {ωs : List (Option Addr)} {as : List Ar} {vs : List V} (R : Rel E Fo (orP T Tm) ι ω σ H st) (nT : ∀ a, T a → ¬ Tm a) (A : ArOk E H (FF Fo (orP T Tm) ι ω) (outer Fo Tm ω) ι ωs as vs) (hT : ∀ a, T a ↔ ∃ i : Nat, ωs[i]? = some (some a)) (U : Uniq ωs) :
    Rel E (outer Fo Tm ω) noP ι (startO n ωs) (startV n vs) H ⟨startS n as, st.S⟩ := by
  obtain ⟨l1, l2⟩ := A.len
  have A' := A.less (F' := FF (outer Fo Tm ω) noP ι (startO n ωs)) fun a z => (FF.enter n hT).mp z
  have inT : ∀ {i : Nat} {a : Addr}, (startO n ωs)[i]? = some (some a) → T a := fun {i a} e => (hT a).mpr ⟨i, startO_some.mp e⟩
  refine ⟨R.nι, by simp [startV, startS, l2], by simp [startO, startS, l1, l2], R.iι, fun m k a e1 e2 => U m k a (startO_some.mp e1) (startO_some.mp e2), fun _ _ z => z, ?_, ?_, fun _ z => z.elim, fun _ z => z.elim, ?_, ?_, ?_, ?_⟩
  · rintro a (z | z | ⟨i, z⟩)
    · exact R.oι a z
    · exact R.tι a (.inr z)
    · exact fun w => R.cω a w i z
  · intro a z i e
    have t := inT e
    rcases z with z | z | ⟨j, z⟩
    · exact R.oT a z (.inl t)
    · exact nT a t z
    · exact R.tω a (.inl t) j z
  · intro a z i e
    exact R.tι a (.inl (inT e)) z
  · intro a z
    exact R.th a ((FF.enter n hT).mp z)
  · intro k c e
    obtain ⟨a, e1, c1⟩ := R.cells k c e
    exact ⟨a, e1, (Kp.less fun a z => (FF.enter n hT).mp z).cell rfl c1⟩
  · intro i s e
    have e : (as.map some ++ List.replicate (n - as.length) none)[i]? = some s := e
    by_cases h : i < as.length
    · rw [List.getElem?_append_left (by simpa using h), List.getElem?_map] at e
      obtain ⟨a, ea, es⟩ := Option.map_eq_some_iff.mp e
      subst es
      have := A'.slot ea
      unfold startO startV
      rw [List.getElem?_append_left (by omega), List.getElem?_append_left (by rw [List.length_map]; omega)]
      exact this
    · rw [List.getElem?_append_right (by simpa using h), List.getElem?_replicate] at e
      split at e
      · rename_i hh
        cases e
        unfold startO
        rw [List.getElem?_append_right (by omega), List.getElem?_replicate, if_pos (by rw [List.length_map] at hh; omega)]
        exact rfl
      · cases e
/-- behind a call, told of the end alone -/
theorem backG {F2 : Addr → Prop} {ι3 : List Addr} {S3 : List D} {ι0 : List Addr} {ω0 : List (Option Addr)} {H0 : Hp} {st0 : W} {T3 : Addr → Prop} (g : Go E Fo Tm ι0 ω0 σ0 H0 st0 T ι ω σ H st)
    (k2 : Kp E H (FF Fo (orP T Tm) ι ω) ι H2 F2 ι3) (same : ∀ a, outer Fo Tm ω a → H2 a = H a) (t1 : ∀ a, T3 a → ¬ outer Fo Tm ω a) (t2 : ∀ a, T3 a → a ∉ ι3) (o1 : ∀ a, outer Fo Tm ω a → a ∉ ι3)
    (sub : ∀ a, FF Fo (orP T3 Tm) ι3 ω a → F2 a) (th : ∀ a, F2 a → ∃ u, H2 a = some u ∧ notTup u)
    (h1 : ι3.length = S3.length) (h3 : ∀ (m n : Nat) (a : Addr), ι3[m]? = some a → ι3[n]? = some a → m = n) (h5 : ∀ (k : Nat) c, S3[k]? = some c → ∃ a, ι3[k]? = some a ∧ Cell E H2 F2 ι3 a c) :
    Go E Fo Tm ι0 ω0 σ0 H0 st0 T3 ι3 ω σ H2 { st with S := S3 } := by
  have R := g.rel
  have kp : Kp E H (FF Fo (orP T Tm) ι ω) ι H2 (FF Fo (orP T3 Tm) ι3 ω) ι3 := k2.trans (Kp.less sub)
  refine g.next (fun a t z => t1 a t (.inr (.inl z))) ?_ kp (fun a z => same a (z.imp id .inl)) fun i d e => ⟨rfl, rfl, rfl, fun a z => same a (.inr (.inr ⟨i, z⟩))⟩
  refine ⟨h1, R.nρ, R.nω, h3, R.iω, ?_, ?_, R.oω, ?_, ?_, ?_, ?_, ?_, ?_⟩
  · rintro a z (t | t)
    · exact t1 a t (.inl z)
    · exact R.oT a z (.inr t)
  · exact fun a z => o1 a (.inl z)
  · rintro a (t | t) w
    · exact t2 a t w
    · exact o1 a (.inr (.inl t)) w
  · rintro a (t | t) i e
    · exact t1 a t (.inr (.inr ⟨i, e⟩))
    · exact R.tω a (.inr t) i e
  · exact fun a z i e => o1 a (.inr (.inr ⟨i, e⟩)) z
  · exact fun a z => th a (sub a z)
  · intro k c e
    obtain ⟨a, e1, c1⟩ := h5 k c e
    exact ⟨a, e1, (Kp.less sub).cell rfl c1⟩
  · intro i s e
    exact (R.slots i s e).keep kp (fun a z => same a (.inl z)) fun a z => same a (.inr (.inr ⟨i, z⟩))
/-- behind a call -/
theorem back {n : Nat} {ωs : List (Option Addr)} {as : List Ar} {vs : List V} {ι3 : List Addr} {S3 : List D} {σ2 : L2.St} {ι0 : List Addr} {ω0 : List (Option Addr)} {H0 : Hp} {st0 : W} {T' : Addr → Prop} (g : Go E Fo Tm ι0 ω0 σ0 H0 st0 T ι ω σ H st) (hT : ∀ a, T a ↔ ∃ i : Nat, ωs[i]? = some (some a))
    (g' : Go E (outer Fo Tm ω) noP ι (startO n ωs) (startV n vs) H ⟨startS n as, st.S⟩ T' ι2 ω2 σ2 H2 st2)
    (h1 : ι3.length = S3.length) (h2 : ∀ a, a ∈ ι3 → a ∈ ι2) (h3 : ∀ (m n : Nat) (a : Addr), ι3[m]? = some a → ι3[n]? = some a → m = n) (h4 : ∀ (n : Nat) (a : Addr), ι[n]? = some a → ι3[n]? = some a)
    (h5 : ∀ (k : Nat) c, S3[k]? = some c → ∃ a, ι3[k]? = some a ∧ Cell E H2 (FF (outer Fo Tm ω) (orP T' noP) ι2 ω2) ι3 a c) :
    Go E Fo Tm ι0 ω0 σ0 H0 st0 T' ι3 ω σ H2 { st with S := S3 } := by
  have R' := g'.rel
  have k1 : Kp E H (FF Fo (orP T Tm) ι ω) ι H (FF (outer Fo Tm ω) noP ι (startO n ωs)) ι := Kp.less fun a z => (FF.enter n hT).mp z
  have k2 := k1.trans g'.kp
  refine backG g ⟨k2.tup, k2.lst, k2.dK, k2.ins, h4, k2.ext, k2.xd⟩ (fun a z => g'.same a (.inl z)) (fun a t o => R'.oT a o (.inl t)) (fun a t w => R'.tι a (.inl t) (h2 a w)) (fun a z w => R'.oι a z (h2 a w)) ?_ R'.th h1 h3 h5
  rintro a (z | (z | z) | z | z)
  · exact .inl (.inl z)
  · exact .inr (.inl (.inl z))
  · exact .inl (.inr (.inl z))
  · exact .inr (.inr (.inl (h2 a z)))
  · exact .inl (.inr (.inr z))
/-- no cell from L on is named -/
theorem hasRef_ge {L n : Nat} (h : hasRef L (.ref n) = false) : n < L := by
  have h : decide (L ≤ n) = false := h
  rw [decide_eq_false_iff_not] at h
  omega
mutual
theorem Is.cut {L : Nat} : ∀ {d : D} {v : V}, hasRef L d = false → Is E H F ι d v → Is E H F (ι.take L) d v
  | .non, _, _, h => h
  | .bl _, _, _, h => h
  | .int _, _, _, h => h
  | .str _, _, _, h => h
  | .tup ds, _, r, ⟨a, xs, e, h, l⟩ => ⟨a, xs, e, h, IsL.cut (show hasRefL L ds = false from r) l⟩
  | .lst ds, _, r, ⟨a, xs, e, h, l⟩ => ⟨a, xs, e, h, IsL.cut (show hasRefL L ds = false from r) l⟩
  | .dic ks vs, _, r, ⟨a, kvs, e, h, q, l⟩ => ⟨a, kvs, e, h, q, IsL.cut (show hasRefL L vs = false from r) l⟩
  | .kon ks vs, _, r, ⟨a, kvs, e, h, q, l⟩ => ⟨a, kvs, e, h, q, IsL.cut (show hasRefL L vs = false from r) l⟩
  | .ins c fs vs, _, r, ⟨a, C, dx, xs, e, n, h, c1, c2, l⟩ => ⟨a, C, dx, xs, e, n, h, c1, c2, IsL.cut (show hasRefL L vs = false from r) l⟩
  | .exn cs fs vs, _, r, ⟨a, C, d, e, h, c1, q⟩ => ⟨a, C, d, e, h, c1, match q with
    | .inl q => .inl q
    | .inr ⟨ne, dx, xs, e1, h1, c2, l⟩ => .inr ⟨ne, dx, xs, e1, h1, c2, IsL.cut (show hasRefL L vs = false from r) l⟩⟩
  | .ref n, _, r, ⟨a, h, e⟩ => ⟨a, by rw [List.getElem?_take_of_lt (hasRef_ge r)]; exact h, e⟩
  | .loc _, _, _, h => h.elim
theorem IsL.cut {L : Nat} : ∀ {ds : List D} {xs : List V}, hasRefL L ds = false → IsL E H F ι ds xs → IsL E H F (ι.take L) ds xs
  | [], _, _, h => h
  | d :: ds, _, r, ⟨x, q, e, h1, h2⟩ => by
    have r : (hasRef L d || hasRefL L ds) = false := r
    rw [Bool.or_eq_false_iff] at r
    exact ⟨x, q, e, Is.cut r.1 h1, IsL.cut r.2 h2⟩
end
theorem Cell.cut {L : Nat} {a : Addr} : ∀ {d : D}, hasRef L d = false → Cell E H F ι a d → Cell E H F (ι.take L) a d
  | .lst _, r, ⟨xs, h, l⟩ => ⟨xs, h, IsL.cut r l⟩
  | .dic _ _, r, ⟨xs, h, e, l⟩ => ⟨xs, h, e, IsL.cut r l⟩
  | .ins _ _ _, r, ⟨C, dx, xs, h, e1, e2, l⟩ => ⟨C, dx, xs, h, e1, e2, IsL.cut r l⟩
theorem Hk.cut {L : Nat} {T : Addr → Prop} {h : Hd} {v : V} (nl : ∀ i, h.1 ≠ .loc i) (r : hasRef L h.1 = false) (q : Hk E H F ι σ T h v) : Hk E H F (ι.take L) σ1 T h v := by
  rw [Hk.gen nl] at q ⊢
  split at q
  · rename_i c
    rw [if_pos c]
    obtain ⟨a, e1, e2, cl⟩ := q
    exact ⟨a, e1, e2, cl.cut r⟩
  · rename_i c
    rw [if_neg c]
    exact ⟨q.1, q.2.cut r⟩
theorem hasRefL_get {L : Nat} : ∀ {ds : List D} {i : Nat} {d : D}, hasRefL L ds = false → ds[i]? = some d → hasRef L d = false
  | d :: ds, 0, x, h, e => by
    have h : (hasRef L d || hasRefL L ds) = false := h
    rw [Bool.or_eq_false_iff] at h
    simp at e
    rw [← e]
    exact h.1
  | d :: ds, i + 1, x, h, e => by
    have h : (hasRef L d || hasRefL L ds) = false := h
    rw [Bool.or_eq_false_iff] at h
    exact hasRefL_get h.2 (by simpa using e)
  | [], _, _, _, e => by simp at e
/-- behind a call, the unseen cells dropped -/
theorem back_gc {n : Nat} {ωs : List (Option Addr)} {as : List Ar} {vs : List V} {σ2 : L2.St} {ι0 : List Addr} {ω0 : List (Option Addr)} {H0 : Hp} {st0 : W} {T' : Addr → Prop} {h : Hd} (g : Go E Fo Tm ι0 ω0 σ0 H0 st0 T ι ω σ H st) (hT : ∀ a, T a ↔ ∃ i : Nat, ωs[i]? = some (some a))
    (g' : Go E (outer Fo Tm ω) noP ι (startO n ωs) (startV n vs) H ⟨startS n as, st.S⟩ T' ι2 ω2 σ2 H2 st2) (nl : ∀ i, h.1 ≠ .loc i) :
    ∃ ι3, Go E Fo Tm ι0 ω0 σ0 H0 st0 T' ι3 ω σ H2 { st with S := (gc st.S.length h st2.S).2 } ∧ ∀ v, Hk E H2 (FF (outer Fo Tm ω) (orP T' noP) ι2 ω2) ι2 σ2 T' h v → Hk E H2 (FF Fo (orP T' Tm) ι3 ω) ι3 σ T' (gc st.S.length h st2.S).1 v := by
  have R' := g'.rel
  have sub : ∀ ι3 : List Addr, (∀ a, a ∈ ι3 → a ∈ ι2) → ∀ a, FF Fo (orP T' Tm) ι3 ω a → FF (outer Fo Tm ω) (orP T' noP) ι2 ω2 a := by
    rintro ι3 h2 a (z | (z | z) | z | z)
    · exact .inl (.inl z)
    · exact .inr (.inl (.inl z))
    · exact .inl (.inr (.inl z))
    · exact .inr (.inr (.inl (h2 a z)))
    · exact .inl (.inr (.inr z))
  unfold gc
  split
  · refine ⟨ι2, back g hT g' R'.nι (fun _ z => z) R'.iι g'.kp.ref R'.cells, fun v q => ?_⟩
    have q' := q.less (sub ι2 fun _ z => z)
    rw [Hk.gen nl] at q' ⊢
    exact q'
  · rename_i c
    simp only [Bool.or_eq_true, not_or, Bool.not_eq_true] at c
    have hL : ι.length = st.S.length := g.rel.nι
    have le : st.S.length ≤ ι2.length := by
      rw [← hL]
      by_cases z : ι.length = 0
      · omega
      · have e : ι[ι.length - 1]? = some ι[ι.length - 1] := List.getElem?_eq_getElem (by omega)
        have := (List.getElem?_eq_some_iff.mp (g'.kp.ref _ _ e)).1
        omega
    refine ⟨ι2.take st.S.length, back g hT g' (by rw [List.length_take, List.length_take, R'.nι]) (fun a z => List.mem_of_mem_take z) (fun m k a e1 e2 => ?_) (fun k a e => ?_) (fun k cc e => ?_), fun v q => ?_⟩
    · exact R'.iι m k a (get_take e1).2 (get_take e2).2
    · rw [List.getElem?_take_of_lt (by rw [← hL]; exact (List.getElem?_eq_some_iff.mp e).1)]
      exact g'.kp.ref k a e
    · obtain ⟨lt, e'⟩ := get_take e
      obtain ⟨a, e1, c1⟩ := R'.cells k cc e'
      exact ⟨a, by rw [List.getElem?_take_of_lt lt]; exact e1, c1.cut (hasRefL_get c.2 e)⟩
    · exact (q.less (sub _ fun a z => List.mem_of_mem_take z)).cut nl c.1
where
  get_take {α : Type} {l : List α} {n i : Nat} {x : α} (h : (l.take n)[i]? = some x) : i < n ∧ l[i]? = some x := by
    have hi := (List.getElem?_eq_some_iff.mp h).1
    rw [List.length_take] at hi
    have lt : i < n := by omega
    rw [List.getElem?_take_of_lt lt] at h
    exact ⟨lt, h⟩
end
/-! ### what a def promises -/
def cfg (P : Prog) (k : Nat) : Cfg := ⟨P.G, callN P k, P.mode, P.flds, P.W⟩
def spB (E : Env) (C : Cfg) (n ps : Nat) (b : TB) : Sp := fun vs H Q Ex => vs.length = ps ∧ ∃ as S Fo ι ω, Rel E Fo noP ι ω (startV n vs) H ⟨startS n as, S⟩ ∧
  Fut E (fun cls d _ H' => Ex cls d H') anyS Fo noP ι ω (startV n vs) H ⟨startS n as, S⟩ (exB C b ⟨startS n as, S⟩) (GS E Fo noP { nx := fun _ H' => Q .non H', rt := Q })
def spC (E : Env) (P : Prog) (d : Def) : Nat → Sp
  | 0 => fun _ _ _ _ => False
  | k + 1 => spB E (cfg P k) d.n d.ps d.body
/-- a def's address, its promise at depth k -/
structure FnAt (X : Cx) (CX : CXT) (E : Env) (P : Prog) (k : Nat) (f : Str) (d : Def) (fa : Addr) (fd : FuncData) (ps : List Str) : Prop where
  len : ps.length = d.ps
  ok : FnOk X.prog X.w X.K X.mg X.base CX (2 * k + 2) fa fd ps (spC E P d k)
  bind : ∀ m, m ≤ d.dfl.length → ∃ ds dvs, Binds X.K fd ps ds ∧ Vals dvs ds ∧ ∀ H F ι, IsL E H F ι (d.dfl.drop (d.dfl.length - m)) dvs
section
variable {X : Cx} {CX : CXT} {k : Nat} {f C : Addr} {fd : FuncData} {ps : List Str} {sp : Sp} {dvs : List V} {ds : List Value} {W : WX} {x m : Str} {p pos apos : Pos} {e o : Expr} {es : List Expr} {ta : L2.TE} {t : L2.TA}
theorem run_fnW {Ex : XK} {pins : List (Addr × Obj)} {σ : L2.St} {H : Hp} {s : Shared} {Q : VK} {us : List Value} {vs : List V} (F : FnOk X.prog X.w X.K X.mg X.base CX k f fd ps sp) (hr : Room k X.A) (hb : Binds X.K fd ps ds) (hd : Vals dvs ds) (hx : PassesAt CX X σ Ex)
    (I : L2.Inv X pins σ H s) (r : Vals vs us) (h : sp (vs ++ dvs) H Q Ex) : wpAny (model X.prog X.w) X.A (call (.ref f) us) (EP X pins σ Q) X.xe s := by
  have r2 : Vals (vs ++ dvs) (us ++ ds) := r.append hd
  have hl : (us ++ ds).length = ps.length := by rw [← r2.length]; exact F.len _ _ _ _ h
  refine wpAny_call (codeAny_mono (F.run X.A X.stack s H ⟨us, []⟩ (us ++ ds) (vs ++ dvs) Q Ex hr I.env0 (hb s us I.kIn hl) r2 h) fun r s' hq => ?_)
  cases r with
  | error e => exact hx pins H s e s' I hq
  | ok fl =>
    cases fl with
    | ret u => exact I.after hq
    | next => exact False.elim hq
    | brk => exact False.elim hq
    | cont => exact False.elim hq
theorem pe_callW (F : FnOk X.prog X.w X.K X.mg X.base CX k f fd ps sp) (hr : Room k X.A) (hg : Gl X x) (hm : X.mg x = some (.ref f)) (hk : PySem.W.keepIn X.K (.ref f) = true) (hb : Binds X.K fd ps ds) (hd : Vals dvs ds) (hx : ∀ σ, PassesAt CX X σ (WE W σ))
    (ha : PA X es t) (h0 : es = [] → ∀ σ H Q, t σ H Q → Q [] H) (hs : es.all noStar = true) (hdb : (x == ("__debug__" : Str)) = false) :
    PE X (.Call (.Name x p) es [] pos) (fun σ H Q => t σ H fun vs H1 => sp (vs ++ dvs) H1 Q (WE W σ)) := by
  refine ⟨fun pins s σ H Q I h => ?_⟩
  refine wpAny_Call_Name_kw (ld_glob I hg hm ?_ hdb)
  cases es with
  | nil => exact PySem.W.callWith_K0 I.kIn hk (run_fnW (us := []) F hr hb hd (hx σ) I .nil (h0 rfl _ _ _ h))
  | cons e es =>
    rw [List.all_cons, Bool.and_eq_true] at hs
    refine PySem.W.callWith_K (h₀ := X.base) I.ok.mod.kin hk (thn (ha.run pos pins s σ H _ I h) fun us s1 ⟨vs, H1, I1, r, q⟩ => ⟨I1.kIn, ?_⟩) (star_cons hs.1) (stars_plain hs.2)
    exact run_fnW F hr hb hd (hx σ) I1 r q
end
section
variable {E : Env} {Fo Fo' Tm T T1 T2 : Addr → Prop} {ι : List Addr} {H : Hp} {F : Addr → Prop}
theorem none_tail {ωs : List (Option Addr)} {ds : List D} {i : Nat} {a : Addr} : (ωs ++ ds.map fun _ => (none : Option Addr))[i]? = some (some a) ↔ ωs[i]? = some (some a) := by
  by_cases h : i < ωs.length
  · rw [List.getElem?_append_left h]
  · rw [List.getElem?_append_right (by omega), List.getElem?_map]
    constructor
    · intro e
      obtain ⟨_, _, e⟩ := Option.map_eq_some_iff.mp e
      cases e
    · intro e
      exact absurd (List.getElem?_eq_some_iff.mp e).1 h
theorem arL_ok {α : Type} {Wx : WX} {Sg : L2.St → Prop} {Fo Tm : Addr → Prop} {ι : List Addr} {ω : List (Option Addr)} {σ : L2.St} {H : Hp} {st st1 : W} {n : Nat} {hs : List Hd} {f : List Ar → M α} {G : α → (Addr → Prop) → List Addr → List (Option Addr) → L2.St → Hp → W → Prop}
    (hh : Fut E Wx Sg Fo Tm ι ω σ H st ((arL n hs >>= f) st1) G) : ∃ as, argsAt st1.ρ hs = some as ∧ as.length = n ∧ Fut E Wx Sg Fo Tm ι ω σ H st (f as st1) G := by
  rw [bind_run] at hh
  unfold arL at hh
  cases e : argsAt st1.ρ hs with
  | none => rw [e] at hh; exact hh.elim
  | some as =>
    rw [e] at hh
    by_cases c : as.length = n
    · simp only [c, if_true] at hh
      exact ⟨as, rfl, c, hh⟩
    · simp only [c, if_false] at hh
      exact hh.elim
theorem ExIs.less {H : Hp} {F F' : Addr → Prop} {x : Ex} {cls : Value} {d : Option Addr} (h : ExIs E H F ι x cls d) (l : ∀ a, F' a → F a) : ExIs E H F' ι x cls d := by
  obtain ⟨C, e, c, h⟩ := h
  refine ⟨C, e, c, ?_⟩
  rcases h with h | ⟨ne, dx, xs, e1, e2, e3, e4⟩
  · exact .inl h
  · exact .inr ⟨ne, dx, xs, e1, e2, e3, (Kp.less l).isL e4⟩
end
section
variable {X : Cx} {CX : CXT} {k : Nat} {f : Str} {d : Def} {fa : Addr} {fd : FuncData} {ps : List Str} {E : Env} {Wx : WX} {P : Prog} {c : SC} {es : List Expr} {tl : TL} {p pos : Pos}
theorem tAr_nil {C : Cfg} {j : Nat} {σ : L2.St} {H : Hp} {Q : List V → Hp → Prop} (h : tAr C E Wx f j .nil σ H Q) : Q [] H := by
  obtain ⟨Fo, Tm, ι, ω, st, R, hh⟩ := h
  have hh : Fut E Wx (· = σ) Fo Tm ι ω σ H st ((M.pure [] : M (List Hd)) st) (GH E Fo Tm σ Q) := hh
  exact hh.pure_use rfl (Go.refl R) [] ⟨rfl, fun _ z => z⟩
/-- a def's run, from its callers' side -/
theorem call_core {as : List Ar} {dvs vs : List V} {hs : List Hd} {Fo Tm T2 : Addr → Prop} {ι ι2 : List Addr} {ω ω2 : List (Option Addr)} {σ : L2.St} {H H2 : Hp} {st st2 : W} {m : Nat} {Q : VK} (hd : P.defs f = some d) (g2 : Go E Fo Tm ι ω σ H st T2 ι2 ω2 σ H2 st2) (q2 : HkL E H2 (FF Fo (orP T2 Tm) ι2 ω2) ι2 σ T2 hs vs)
    (ea : argsAt st2.ρ hs = some as) (hm : d.ps - as.length = m) (hdv : ∀ H F ι, IsL E H F ι (d.dfl.drop (d.dfl.length - m)) dvs) (hh : Fut E Wx (· = σ) Fo Tm ι ω σ H st ((cfg P k).run f as st2) (GE E Fo Tm σ Q)) : spC E P d k (vs ++ dvs) H2 Q (WE Wx σ) := by
  cases k with
  | zero => exact hh.elim
  | succ k =>
    have hr : (cfg P (k + 1)).run f as st2 = (match callN P (k + 1) f as st2.S with
      | .ok h S => .ok h { st2 with S := S }
      | .exc x S => .exc x { st2 with S := S }
      | .stuck => .stuck) := rfl
    rw [hr, callN, hd] at hh
    simp only at hh
    rw [hm] at hh
    by_cases cc : (decide (as.length ≤ d.ps) && decide (m ≤ d.dfl.length)) = true
    · rw [if_pos cc] at hh
      rw [Bool.and_eq_true, decide_eq_true_eq, decide_eq_true_eq] at cc
      obtain ⟨ωs, A, hT, U⟩ := argsAt_ok g2.rel q2 ea
      have A' := A.append (ArOk.shared (Fo' := outer Fo Tm ω2) (hdv H2 (FF Fo (orP T2 Tm) ι2 ω2) ι2))
      have hT' : ∀ a, T2 a ↔ ∃ i : Nat, (ωs ++ (d.dfl.drop (d.dfl.length - m)).map fun _ => (none : Option Addr))[i]? = some (some a) := fun a => (hT a).trans ⟨fun ⟨i, e⟩ => ⟨i, none_tail.mpr e⟩, fun ⟨i, e⟩ => ⟨i, none_tail.mp e⟩⟩
      have U' : Uniq (ωs ++ (d.dfl.drop (d.dfl.length - m)).map fun _ => (none : Option Addr)) := fun i j a e1 e2 => U i j a (none_tail.mp e1) (none_tail.mp e2)
      have Re := enter (n := d.n) g2.rel g2.nT A' hT' U'
      have ll := A'.len
      refine ⟨?_, _, st2.S, _, ι2, _, Re, ?_⟩
      · rw [← ll.2, List.length_append, List.length_map, List.length_drop]
        omega
      · have ex : exB (cfg P k) d.body = exB ⟨P.G, callN P k, P.mode, P.flds, P.W⟩ d.body := rfl
        rw [ex]
        cases hr : exB ⟨P.G, callN P k, P.mode, P.flds, P.W⟩ d.body ⟨startS d.n (as ++ (d.dfl.drop (d.dfl.length - m)).map fun x => (x, .sh)), st2.S⟩ with
        | stuck => rw [hr] at hh; exact hh.elim
        | exc x s =>
          rw [hr] at hh
          intro T' ι' ω' σ' H' cls dd _ g' ei
          have G := back g2 hT' g' g'.rel.nι (fun _ z => z) g'.rel.iι g'.kp.ref g'.rel.cells
          refine hh T' ι' ω2 σ H' cls dd rfl G (ei.less ?_)
          rintro a (z | (z | z) | z | z)
          · exact .inl (.inl z)
          · exact .inr (.inl (.inl z))
          · exact .inl (.inr (.inl z))
          · exact .inr (.inr (.inl z))
          · exact .inl (.inr (.inr z))
        | ok fl s =>
          rw [hr] at hh
          cases fl with
          | brk => exact hh.elim
          | cont => exact hh.elim
          | next =>
            intro T' ι' ω' σ' H' _ g'
            obtain ⟨ι3, G, conv⟩ := back_gc (h := (.non, false)) g2 hT' g'.drop fun i z => by cases z
            exact hh noP ι3 ω2 σ H' rfl G .non (conv .non (Hk.sh rfl (.inl rfl)))
          | ret h =>
            intro T' ι' ω' σ' H' _ g' v q nl
            obtain ⟨ι3, G, conv⟩ := back_gc (h := h) g2 hT' g' nl
            exact hh T' ι3 ω2 σ H' rfl G v (conv v q)
    · rw [if_neg cc] at hh
      exact hh.elim
theorem s_call (A : FnAt X CX E P k f d fa fd ps) (hd : P.defs f = some d) (hr : Room (2 * k + 2) X.A) (hg : Gl X f) (hm : X.mg f = some (.ref fa)) (hk : PySem.W.keepIn X.K (.ref fa) = true) (hx : ∀ σ, PassesAt CX X σ (WE Wx σ)) (ha : PA X es (tAr (cfg P k) E Wx f 0 tl)) (hl : tl.len = es.length) (hs : es.all noStar = true) (hn : okName f = true) :
    PE X (.Call (.Name f p) es [] pos) (tE (cfg P k) E Wx (.call f tl)) := by
  have hdb : (f == ("__debug__" : Str)) = false := by unfold okName at hn; simp only [Bool.and_eq_true, Bool.not_eq_true'] at hn; exact hn.1
  have h0 : es = [] → ∀ σ H Q, tAr (cfg P k) E Wx f 0 tl σ H Q → Q [] H := fun e σ H Q h => by
    subst e
    cases tl with
    | nil => exact tAr_nil h
    | cons _ _ => cases hl
  by_cases cc : d.ps - es.length ≤ d.dfl.length
  · obtain ⟨ds, dvs, hb, hv, hi⟩ := A.bind _ cc
    refine (pe_callW A.ok hr hg hm hk hb hv hx ha h0 hs hdb).imp fun σ H Q ⟨Fo, Tm, ι, ω, st, R, hh⟩ => ?_
    refine nextA1 R hh rfl fun hs' vs T2 ι2 ω2 H2 st2 g2 q2 hh => ?_
    obtain ⟨as, ea, el, hh⟩ := arL_ok hh
    exact call_core hd g2 q2 ea (by rw [el, hl]) hi hh
  · obtain ⟨ds, dvs, hb, hv, hi⟩ := A.bind 0 (Nat.zero_le _)
    refine (pe_callW (sp := fun _ _ _ _ => False) (A.ok.imp fun _ _ _ _ z => z.elim) hr hg hm hk hb hv hx ha h0 hs hdb).imp fun σ H Q ⟨Fo, Tm, ι, ω, st, R, hh⟩ => ?_
    refine nextA1 R hh rfl fun hs' vs T2 ι2 ω2 H2 st2 g2 q2 hh => ?_
    obtain ⟨as, ea, el, hh⟩ := arL_ok hh
    cases k with
    | zero => exact hh.elim
    | succ k =>
      have hr : (cfg P (k + 1)).run f as st2 = (match callN P (k + 1) f as st2.S with
        | .ok h S => .ok h { st2 with S := S }
        | .exc x S => .exc x { st2 with S := S }
        | .stuck => .stuck) := rfl
      rw [hr, callN, hd] at hh
      simp only at hh
      rw [if_neg (by rw [Bool.and_eq_true, decide_eq_true_eq, decide_eq_true_eq]; omega)] at hh
      exact hh.elim
end
end EV

set_option autoImplicit false
set_option linter.all false
set_option maxRecDepth 10000
namespace EV
open PySem L2 PyProof.Rows

section
variable {E : Env} {Wx : WX} {Sg : L2.St → Prop} {Fo Fo' Tm T T1 T2 : Addr → Prop} {ι ι1 ι2 : List Addr} {ω ω1 ω2 : List (Option Addr)} {σ0 σ σ1 : L2.St} {H H1 H2 : Hp} {st st1 st2 : W} {α : Type} {C : Cfg} {te : TE} {tl : TL} {Q : VK} {F F' : Addr → Prop}
theorem take_get {α : Type} {l : List α} {n i : Nat} {x : α} (h : (l.take n)[i]? = some x) : i < n ∧ l[i]? = some x := by
  have hi := (List.getElem?_eq_some_iff.mp h).1
  rw [List.length_take] at hi
  have lt : i < n := by omega
  rw [List.getElem?_take_of_lt lt] at h
  exact ⟨lt, h⟩
/-- the cells behind gc -/
theorem gc_cells {L : Nat} {h : Hd} {ι' : List Addr} {S : List D} (n : ι'.length = S.length) (cells : ∀ (k : Nat) c, S[k]? = some c → ∃ a, ι'[k]? = some a ∧ Cell E H F ι' a c) :
    ∃ ι3, ι3.length = (gc L h S).2.length ∧ (∀ (k : Nat) a, ι3[k]? = some a → ι'[k]? = some a) ∧ (∀ (k : Nat) a, k < L → ι'[k]? = some a → ι3[k]? = some a) ∧ ∀ (k : Nat) c, (gc L h S).2[k]? = some c → ∃ a, ι3[k]? = some a ∧ Cell E H F ι3 a c := by
  unfold gc
  split
  · exact ⟨ι', n, fun _ _ e => e, fun _ _ _ e => e, cells⟩
  · rename_i c
    simp only [Bool.or_eq_true, not_or, Bool.not_eq_true] at c
    refine ⟨ι'.take L, by rw [List.length_take, List.length_take, n], fun k a e => (take_get e).2, fun k a lt e => by rw [List.getElem?_take_of_lt lt]; exact e, fun k cc e => ?_⟩
    obtain ⟨lt, e'⟩ := take_get e
    obtain ⟨a, e1, c1⟩ := cells k cc e'
    exact ⟨a, by rw [List.getElem?_take_of_lt lt]; exact e1, c1.cut (hasRefL_get c.2 e)⟩
theorem mem_get {l : List Addr} {a : Addr} : a ∈ l ↔ ∃ i : Nat, l[i]? = some a := List.mem_iff_getElem?
theorem Cell.mut : ∀ {d : D} {a : Addr}, Cell E H F ι a d → d.mutable = true
  | .lst _, _, _ => rfl
  | .dic _ _, _, _ => rfl
  | .ins _ _ _, _, _ => rfl
end
section
variable {X : Cx} {CX : CXT} {k : Nat} {f : Str} {d : Def} {fa : Addr} {fd : FuncData} {ps : List Str} {E : Env} {Wx : WX} {P : Prog} {c : SC} {es : List Expr} {tl : TL} {p pos : Pos}
theorem gc_fst {L : Nat} {h : Hd} {S : List D} : (gc L h S).1 = h := by
  unfold gc
  split <;> rfl
/-- a class called: the new object is a cell meanwhile -/
def mkTail (P : Prog) (k : Nat) (cn : Str) (as : List Ar) : M Hd := fun s => match callN P k cn ((.ref s.S.length, .sh) :: as) (s.S ++ [.ins cn [] []]) with
  | .ok (.non, _) S => .ok (gcNew s.S.length S).1 { s with S := (gcNew s.S.length S).2 }
  | .ok _ _ => .stuck
  | .exc x S => .exc x { s with S := S }
  | .stuck => .stuck
theorem make_eq {cn : Str} : evE (cfg P k) (.make cn tl) = (evA (cfg P k) cn 1 tl >>= fun hs => arL tl.len hs >>= fun as => mkTail P k cn as) := rfl
theorem make_core {cn : Str} {CA : Addr} {as : List Ar} {dvs vs : List V} {hs : List Hd} {Fo Tm T2 : Addr → Prop} {ι ι2 : List Addr} {ω ω2 : List (Option Addr)} {σ : L2.St} {H H2 : Hp} {st st2 : W} {m : Nat} {Q : VK} (hc : E.cls cn = some CA) (hd : P.defs cn = some d) (g2 : Go E Fo Tm ι ω σ H st T2 ι2 ω2 σ H2 st2) (q2 : HkL E H2 (FF Fo (orP T2 Tm) ι2 ω2) ι2 σ T2 hs vs)
    (ea : argsAt st2.ρ hs = some as) (hm : d.ps - (as.length + 1) = m) (hdv : ∀ H F ι, IsL E H F ι (d.dfl.drop (d.dfl.length - m)) dvs) (hh : Fut E Wx (· = σ) Fo Tm ι ω σ H st (mkTail P k cn as st2) (GE E Fo Tm σ Q)) {x dx : Addr} (hx : H2 x = none) (hdx : H2 dx = none) (ne : dx ≠ x) :
    spC E P d k (.ref x :: (vs ++ dvs)) (upd (upd H2 dx (.own x)) x (.ins CA dx [])) (fun v H3 => v = .non ∧ Q (.ref x) H3) (WE Wx σ) := by
  cases k with
  | zero => exact hh.elim
  | succ k =>
    subst hm
    rw [mkTail, callN, hd] at hh
    simp only [List.length_cons] at hh
    by_cases cc : (decide (as.length + 1 ≤ d.ps) && decide (d.ps - (as.length + 1) ≤ d.dfl.length)) = true
    · rw [if_pos cc] at hh
      rw [Bool.and_eq_true, decide_eq_true_eq, decide_eq_true_eq] at cc
      -- the object laid
      have gA : Go E Fo (orP T2 Tm) ι2 ω2 σ H2 st2 noP ι2 ω2 σ (upd H2 dx (.own x)) st2 := Go.laidT g2.rel hdx
      have gA1 : Go E Fo Tm ι ω σ H st T2 ι2 ω2 σ (upd H2 dx (.own x)) st2 := by
        have := g2.trans gA
        rw [orP_no2] at this
        exact this
      have hx1 : (upd H2 dx (.own x)) x = none := by rw [upd_ne (Ne.symm ne)]; exact hx
      have gB : Go E Fo (orP T2 Tm) ι2 ω2 σ (upd H2 dx (.own x)) st2 (fun a => a = x) ι2 ω2 σ (upd (upd H2 dx (.own x)) x (.ins CA dx [])) st2 := Go.laid gA1.rel hx1 trivial
      have gX := gA1.trans gB
      generalize hH3 : upd (upd H2 dx (.own x)) x (.ins CA dx []) = H3 at gB gX ⊢
      have hx3 : H3 x = some (.ins CA dx []) := by rw [← hH3]; exact upd_same
      have nTx : ¬ (orP T2 Tm) x := gB.nT x rfl
      -- pushed
      have RX : Rel E Fo (orP (fun a => a = x) (orP T2 Tm)) ι2 ω2 σ H3 st2 := gB.rel
      have cell : Cell E H3 (FF Fo (orP (fun a => a = x) (orP T2 Tm)) ι2 ω2) ι2 x (.ins cn [] []) := ⟨CA, dx, [], hx3, hc, rfl, rfl⟩
      obtain ⟨RP, kP⟩ := RX.push (Tm' := orP T2 Tm) (fun _ z => .inr z) (.inl rfl) nTx cell
      have nx : ι2.length = st2.S.length := RX.nι
      have hxL : (ι2 ++ [x])[st2.S.length]? = some x := by rw [← nx]; simp
      have q3 : HkL E H3 (FF Fo (orP T2 Tm) (ι2 ++ [x]) ω2) (ι2 ++ [x]) σ T2 hs vs := by
        have k1 := gA.kp.trans (Kp.less (F' := FF Fo (orP T2 Tm) ι2 ω2) fun a z => by rw [orP_no]; exact z)
        have e1 : ∀ a, T2 a → H3 a = H2 a := fun a t => (gB.same a (.inr (.inl t))).trans (gA.same a (.inr (.inl t)))
        exact q2.keep ((k1.trans gB.kp).trans kP) e1
      obtain ⟨ωs, A0, hT0, U0⟩ := argsAt_ok RP q3 ea
      have A1 : ArOk E H3 (FF Fo (orP T2 Tm) (ι2 ++ [x]) ω2) (outer Fo Tm ω2) (ι2 ++ [x]) (none :: ωs) ((.ref st2.S.length, .sh) :: as) (.ref x :: vs) := ⟨⟨rfl, x, hxL, rfl⟩, A0⟩
      have A' := A1.append (ArOk.shared (Fo' := outer Fo Tm ω2) (hdv H3 (FF Fo (orP T2 Tm) (ι2 ++ [x]) ω2) (ι2 ++ [x])))
      have hT1 : ∀ a, T2 a ↔ ∃ i : Nat, (none :: ωs)[i]? = some (some a) := fun a => (hT0 a).trans ⟨fun ⟨i, e⟩ => ⟨i + 1, by simpa using e⟩, fun ⟨i, e⟩ => by
        cases i with
        | zero => simp at e
        | succ i => exact ⟨i, by simpa using e⟩⟩
      have hT' : ∀ a, T2 a ↔ ∃ i : Nat, ((none :: ωs) ++ (d.dfl.drop (d.dfl.length - (d.ps - (as.length + 1)))).map fun _ => (none : Option Addr))[i]? = some (some a) := fun a => (hT1 a).trans ⟨fun ⟨i, e⟩ => ⟨i, none_tail.mpr e⟩, fun ⟨i, e⟩ => ⟨i, none_tail.mp e⟩⟩
      have U' : Uniq ((none :: ωs) ++ (d.dfl.drop (d.dfl.length - (d.ps - (as.length + 1)))).map fun _ => (none : Option Addr)) := fun i j a e1 e2 => U0.cons_none i j a (none_tail.mp e1) (none_tail.mp e2)
      have Re := enter (n := d.n) RP g2.nT A' hT' U'
      have ll := A'.len
      refine ⟨?_, _, _, _, _, _, Re, ?_⟩
      · have := ll.2
        simp only [List.length_append, List.length_cons, List.length_map, List.length_drop] at this ⊢
        omega
      · have ex : exB (cfg P k) d.body = exB ⟨P.G, callN P k, P.mode, P.flds, P.W⟩ d.body := rfl
        rw [ex]
        have cons_eq : ∀ l : List Ar, ((D.ref st2.S.length, Own.sh) :: as) ++ l = (D.ref st2.S.length, Own.sh) :: (as ++ l) := fun _ => rfl
        -- the callee's barred addresses, from the caller's
        have fin : ∀ {T' : Addr → Prop} {ι' : List Addr} {ω' : List (Option Addr)} {σ' : L2.St} {H' : Hp} {s' : W} {ι3 : List Addr} {S3 : List D} {T3 : Addr → Prop},
            Go E (outer Fo Tm ω2) noP (ι2 ++ [x]) (startO d.n ((none :: ωs) ++ (d.dfl.drop (d.dfl.length - (d.ps - (as.length + 1)))).map fun _ => (none : Option Addr))) (startV d.n ((V.ref x :: vs) ++ dvs)) H3 ⟨startS d.n (((D.ref st2.S.length, Own.sh) :: as) ++ (d.dfl.drop (d.dfl.length - (d.ps - (as.length + 1)))).map fun x => (x, Own.sh)), st2.S ++ [.ins cn [] []]⟩ T' ι' ω' σ' H' s' →
            (∀ (k : Nat) a, ι3[k]? = some a → ι'[k]? = some a) → (∀ (k : Nat) a, ι2[k]? = some a → ι3[k]? = some a) → ι3.length = S3.length → (∀ a, T3 a → T' a ∨ (a = x ∧ a ∉ ι3)) → (∀ (k : Nat) c, S3[k]? = some c → ∃ a, ι3[k]? = some a ∧ Cell E H' (FF (outer Fo Tm ω2) (orP T' noP) ι' ω') ι3 a c) →
            Go E Fo Tm ι ω σ H st T3 ι3 ω2 σ H' { st2 with S := S3 } ∧ ∀ a, FF Fo (orP T3 Tm) ι3 ω2 a → FF (outer Fo Tm ω2) (orP T' noP) ι' ω' a := fun {T' ι' ω' σ' H' s' ι3 S3 T3} g' p1 p2 p3 p4 p5 => by
          have R' := g'.rel
          have xι' : ι'[st2.S.length]? = some x := g'.kp.ref _ _ hxL
          have xm : x ∈ ι' := mem_get.mpr ⟨_, xι'⟩
          have sub3 : ∀ a, a ∈ ι3 → a ∈ ι' := fun a z => by
            obtain ⟨i, e⟩ := mem_get.mp z
            exact mem_get.mpr ⟨i, p1 i a e⟩
          have sub : ∀ a, FF Fo (orP T3 Tm) ι3 ω2 a → FF (outer Fo Tm ω2) (orP T' noP) ι' ω' a := by
            rintro a (z | (z | z) | z | z)
            · exact .inl (.inl z)
            · rcases p4 a z with t | ⟨t, _⟩
              · exact .inr (.inl (.inl t))
              · exact .inr (.inr (.inl (t ▸ xm)))
            · exact .inl (.inr (.inl z))
            · exact .inr (.inr (.inl (sub3 a z)))
            · exact .inl (.inr (.inr z))
          have k0 : Kp E H3 (FF Fo (orP (orP (fun a => a = x) T2) Tm) ι2 ω2) ι2 H3 (FF (outer Fo Tm ω2) noP (ι2 ++ [x]) (startO d.n ((none :: ωs) ++ (d.dfl.drop (d.dfl.length - (d.ps - (as.length + 1)))).map fun _ => (none : Option Addr)))) ι2 := Kp.less fun a z => by
            rcases (FF.enter d.n hT').mp z with z | z | z | z
            · exact .inl z
            · rcases z with z | z
              · exact .inr (.inl (.inl (.inr z)))
              · exact .inr (.inl (.inr z))
            · rcases List.mem_append.mp z with z | z
              · exact .inr (.inr (.inl z))
              · exact .inr (.inl (.inl (.inl (List.mem_singleton.mp z))))
            · exact .inr (.inr (.inr z))
          have k2 := (k0.trans Kp.more).trans g'.kp
          refine ⟨backG gX ⟨k2.tup, k2.lst, k2.dK, k2.ins, p2, k2.ext, k2.xd⟩ (fun a z => g'.same a (.inl z)) ?_ ?_ (fun a z w => R'.oι a z (sub3 a w)) sub R'.th p3 (fun m n a e1 e2 => R'.iι m n a (p1 m a e1) (p1 n a e2)) p5, sub⟩
          · intro a t o
            rcases p4 a t with t | ⟨t, _⟩
            · exact R'.oT a o (.inl t)
            · exact R'.oι a o (t ▸ xm)
          · intro a t w
            rcases p4 a t with t | ⟨_, t⟩
            · exact R'.tι a (.inl t) (sub3 a w)
            · exact t w
        cases hr : exB ⟨P.G, callN P k, P.mode, P.flds, P.W⟩ d.body ⟨startS d.n (((D.ref st2.S.length, Own.sh) :: as) ++ (d.dfl.drop (d.dfl.length - (d.ps - (as.length + 1)))).map fun x => (x, Own.sh)), st2.S ++ [.ins cn [] []]⟩ with
        | stuck =>
          rw [hr] at hh
          exact hh.elim
        | exc xx s =>
          rw [hr] at hh
          intro T' ι' ω' σ' H' cls dd _ g' ei
          have p2 : ∀ (k : Nat) a, ι2[k]? = some a → ι'[k]? = some a := fun k a e => g'.kp.ref k a (by rw [List.getElem?_append_left (List.getElem?_eq_some_iff.mp e).1]; exact e)
          obtain ⟨G, sub⟩ := fin (T3 := T') g' (fun _ _ e => e) p2 g'.rel.nι (fun _ t => .inl t) g'.rel.cells
          exact hh T' ι' ω2 σ H' cls dd rfl G (ei.less sub)
        | ok fl s =>
          rw [hr] at hh
          have fin2 : ∀ {h : Hd} {T' : Addr → Prop} {ι' : List Addr} {ω' : List (Option Addr)} {σ' : L2.St} {H' : Hp},
              Go E (outer Fo Tm ω2) noP (ι2 ++ [x]) (startO d.n ((none :: ωs) ++ (d.dfl.drop (d.dfl.length - (d.ps - (as.length + 1)))).map fun _ => (none : Option Addr))) (startV d.n ((V.ref x :: vs) ++ dvs)) H3 ⟨startS d.n (((D.ref st2.S.length, Own.sh) :: as) ++ (d.dfl.drop (d.dfl.length - (d.ps - (as.length + 1)))).map fun x => (x, Own.sh)), st2.S ++ [.ins cn [] []]⟩ T' ι' ω' σ' H' s →
              Fut E Wx (· = σ) Fo Tm ι ω σ H st (.ok (gcNew st2.S.length (gc (st2.S ++ [D.ins cn [] []]).length h s.S).2).1 { st2 with S := (gcNew st2.S.length (gc (st2.S ++ [D.ins cn [] []]).length h s.S).2).2 }) (GE E Fo Tm σ Q) → Q (.ref x) H' := fun {h T' ι' ω' σ' H'} g' hh2 => by
            have R' := g'.rel
            obtain ⟨ι3, c1, c2, c3, c4⟩ := gc_cells (L := (st2.S ++ [D.ins cn [] []]).length) (h := h) R'.nι R'.cells
            have lt1 : st2.S.length < (st2.S ++ [D.ins cn [] []]).length := by simp
            have xι' : ι'[st2.S.length]? = some x := g'.kp.ref _ _ hxL
            have xι3 : ι3[st2.S.length]? = some x := c3 _ _ lt1 xι'
            have p2 : ∀ (k : Nat) a, ι2[k]? = some a → k < st2.S.length ∧ ι3[k]? = some a := fun k a e => by
              have lt := (List.getElem?_eq_some_iff.mp e).1
              rw [nx] at lt
              exact ⟨lt, c3 k a (by omega) (g'.kp.ref k a (by rw [List.getElem?_append_left (List.getElem?_eq_some_iff.mp e).1]; exact e))⟩
            generalize (gc (st2.S ++ [D.ins cn [] []]).length h s.S).2 = S2 at c1 c4 hh2
            have keep : Fut E Wx (· = σ) Fo Tm ι ω σ H st (.ok (.ref st2.S.length, false) { st2 with S := S2 }) (GE E Fo Tm σ Q) → Q (.ref x) H' := fun hk => by
              obtain ⟨G, sub⟩ := fin (T3 := noP) g' c2 (fun k a e => (p2 k a e).2) c1 (fun _ t => t.elim) c4
              exact hk noP ι3 ω2 σ H' rfl G (.ref x) (Hk.sh ⟨x, xι3, rfl⟩ (.inl rfl))
            unfold gcNew at hh2
            cases hS : S2[st2.S.length]? with
            | none => rw [hS] at hh2; exact keep hh2
            | some dc =>
              rw [hS] at hh2
              simp only at hh2
              split at hh2
              · rename_i cond
                simp only [Bool.and_eq_true, Bool.not_eq_true', decide_eq_true_eq] at cond
                obtain ⟨⟨e1, e2⟩, e3⟩ := cond
                obtain ⟨ax, ea3, cl⟩ := c4 _ _ hS
                rw [xι3] at ea3
                cases ea3
                have notin : x ∉ ι3.take st2.S.length := fun z => by
                  obtain ⟨i, e⟩ := mem_get.mp z
                  obtain ⟨lt, e⟩ := take_get e
                  have := R'.iι i _ x (c2 i x e) xι'
                  omega
                obtain ⟨G, sub⟩ := fin (T3 := fun a => a = x) (ι3 := ι3.take st2.S.length) (S3 := S2.take st2.S.length) g' (fun k a e => c2 k a (take_get e).2) (fun k a e => by
                  rw [List.getElem?_take_of_lt (p2 k a e).1]; exact (p2 k a e).2) (by rw [List.length_take, List.length_take, c1]) (fun a t => .inr ⟨t, by rw [t]; exact notin⟩) (fun k cc e => by
                  obtain ⟨lt, e'⟩ := take_get e
                  obtain ⟨a, q1, q2⟩ := c4 k cc e'
                  exact ⟨a, by rw [List.getElem?_take_of_lt lt]; exact q1, q2.cut (hasRefL_get e3 e)⟩)
                refine hh2 (fun a => a = x) (ι3.take st2.S.length) ω2 σ H' rfl G (.ref x) ?_
                have cl2 := (Kp.less sub).cell rfl (cl.cut e2)
                rw [Hk.gen (fun i z => by cases z; cases cl.mut), if_pos ⟨rfl, cl.mut⟩]
                exact ⟨x, fun b => Iff.rfl, rfl, cl2⟩
              · exact keep hh2
          cases fl with
          | brk => exact hh.elim
          | cont => exact hh.elim
          | next =>
            simp only [gc_fst] at hh
            intro T' ι' ω' σ' H' _ g'
            exact ⟨rfl, fin2 (h := (.non, false)) g' hh⟩
          | ret h =>
            simp only [gc_fst] at hh
            intro T' ι' ω' σ' H' _ g' v q nl
            obtain ⟨dv, fr⟩ := h
            cases dv with
            | non =>
              have ev : v = .non := by
                rw [Hk.gen (fun i z => by cases z), if_neg (by simp [D.mutable])] at q
                exact q.2
              exact ⟨ev, fin2 (h := (.non, fr)) g' hh⟩
            | _ => exact hh.elim
    · rw [if_neg cc] at hh
      exact hh.elim
theorem tAr_nil1 {C : Cfg} {j : Nat} {σ : L2.St} {H : Hp} {Q : List V → Hp → Prop} (h : tAr C E Wx f j .nil σ H Q) : Q [] H := tAr_nil h
theorem run_makeW {C fI : Addr} {kk : Nat} {sp : Sp} {dvs : List V} {ds : List Value} {Ex : XK} {pins : List (Addr × Obj)} {σ : L2.St} {H : Hp} {s : Shared} {Q : VK} {us : List Value} {vs : List V} (M : Mk X.K C fI) (F : FnOk X.prog X.w X.K X.mg X.base CX kk fI fd ps sp) (hr : Room (kk + 1) X.A) (hb : Binds X.K fd ps ds) (hd : Vals dvs ds)
    (hx : PassesAt CX X σ Ex) (I : L2.Inv X pins σ H s) (r : Vals vs us)
    (h : ∀ x dx, H x = none → H dx = none → dx ≠ x → sp (.ref x :: (vs ++ dvs)) (upd (upd H dx (.own x)) x (.ins C dx [])) (fun v H2 => v = .non ∧ Q (.ref x) H2) Ex) :
    wpAny (model X.prog X.w) X.A (call (.ref C) us) (EP X pins σ Q) X.xe s := by
  have hq := h (s.heap.objs.size + 1) s.heap.objs.size (I.hok.fresh (Nat.le_succ _)) (I.hok.fresh (Nat.le_refl _)) (Nat.ne_of_lt (Nat.lt_succ_self _))
  have I2 := Inv.made (C := C) I
  have r2 : Vals (V.ref (s.heap.objs.size + 1) :: (vs ++ dvs)) (Value.ref (s.heap.objs.size + 1) :: (us ++ ds)) := .cons rfl (r.append hd)
  have hl : (Value.ref (s.heap.objs.size + 1) :: us ++ ds).length = ps.length := by
    have e := r2.length
    rw [F.len _ _ _ _ hq] at e
    exact e.symm
  refine wpAny_call (make_map (f := fI) I.kIn M.makes M.init (beq_iff_eq.mp M.fn) (codeAny_mono (F.run _ X.stack _ _ ⟨Value.ref (s.heap.objs.size + 1) :: us, []⟩ (Value.ref (s.heap.objs.size + 1) :: (us ++ ds)) _ _ Ex (hr.make C us [])
    (I2.env0.make C us []) (hb _ (Value.ref (s.heap.objs.size + 1) :: us) I2.kIn hl) r2 hq) fun r s' hq' => ?_))
  cases r with
  | error e => exact hx pins _ _ e s' I2 hq'
  | ok fl =>
    cases fl with
    | ret u =>
      obtain ⟨v, H', I3, rv, ev, q3⟩ := I2.after hq'
      subst ev
      exact ⟨rv, ⟨V.ref (s.heap.objs.size + 1), H', I3, rfl, q3⟩⟩
    | next => exact False.elim hq'
    | brk => exact False.elim hq'
    | cont => exact False.elim hq'
theorem pe_makeW {C fI : Addr} {kk : Nat} {sp : Sp} {dvs : List V} {ds : List Value} {t : L2.TA} (M : Mk X.K C fI) (F : FnOk X.prog X.w X.K X.mg X.base CX kk fI fd ps sp) (hr : Room (kk + 1) X.A) (hg : Gl X f) (hm : X.mg f = some (.ref C)) (hb : Binds X.K fd ps ds) (hd : Vals dvs ds) (hx : ∀ σ, PassesAt CX X σ (WE Wx σ))
    (ha : PA X es t) (h0 : es = [] → ∀ σ H Q, t σ H Q → Q [] H) (hs : es.all noStar = true) (hdb : (f == ("__debug__" : Str)) = false) :
    PE X (.Call (.Name f p) es [] pos) (fun σ H Q => t σ H fun vs H1 => ∀ x dx, H1 x = none → H1 dx = none → dx ≠ x → sp (.ref x :: (vs ++ dvs)) (upd (upd H1 dx (.own x)) x (.ins C dx [])) (fun v H2 => v = .non ∧ Q (.ref x) H2) (WE Wx σ)) := by
  refine ⟨fun pins s σ H Q I h => ?_⟩
  refine wpAny_Call_Name_kw (ld_glob I hg hm ?_ hdb)
  cases es with
  | nil => exact PySem.W.callWith_K0 I.kIn M.kp (run_makeW (us := []) M F hr hb hd (hx σ) I .nil (h0 rfl _ _ _ h))
  | cons e es =>
    rw [List.all_cons, Bool.and_eq_true] at hs
    refine PySem.W.callWith_K (h₀ := X.base) I.ok.mod.kin M.kp (thn (ha.run pos pins s σ H _ I h) fun us s1 ⟨vs, H1, I1, r, q⟩ => ⟨I1.kIn, ?_⟩) (star_cons hs.1) (stars_plain hs.2)
    exact run_makeW M F hr hb hd (hx σ) I1 r q
theorem s_make {CA : Addr} (A : FnAt X CX E P k f d fa fd ps) (M : Mk X.K CA fa) (hc : E.cls f = some CA) (hd : P.defs f = some d) (hr : Room (2 * k + 3) X.A) (hg : Gl X f) (hm : X.mg f = some (.ref CA)) (hx : ∀ σ, PassesAt CX X σ (WE Wx σ)) (ha : PA X es (tAr (cfg P k) E Wx f 1 tl)) (hl : tl.len = es.length) (hs : es.all noStar = true) (hn : okName f = true) :
    PE X (.Call (.Name f p) es [] pos) (tE (cfg P k) E Wx (.make f tl)) := by
  have hdb : (f == ("__debug__" : Str)) = false := by unfold okName at hn; simp only [Bool.and_eq_true, Bool.not_eq_true'] at hn; exact hn.1
  have h0 : es = [] → ∀ σ H Q, tAr (cfg P k) E Wx f 1 tl σ H Q → Q [] H := fun e σ H Q h => by
    subst e
    cases tl with
    | nil => exact tAr_nil h
    | cons _ _ => cases hl
  by_cases cc : d.ps - (es.length + 1) ≤ d.dfl.length
  · obtain ⟨ds, dvs, hb, hv, hi⟩ := A.bind _ cc
    refine (pe_makeW M A.ok hr hg hm hb hv hx ha h0 hs hdb).imp fun σ H Q ⟨Fo, Tm, ι, ω, st, R, hh⟩ => ?_
    rw [make_eq] at hh
    refine nextA1 R hh rfl fun hs' vs T2 ι2 ω2 H2 st2 g2 q2 hh => ?_
    obtain ⟨as, ea, el, hh⟩ := arL_ok hh
    intro x dx hx hdx ne
    exact make_core hc hd g2 q2 ea (by rw [el, hl]) hi hh hx hdx ne
  · obtain ⟨ds, dvs, hb, hv, hi⟩ := A.bind 0 (Nat.zero_le _)
    refine (pe_makeW (sp := fun _ _ _ _ => False) M (A.ok.imp fun _ _ _ _ z => z.elim) hr hg hm hb hv hx ha h0 hs hdb).imp fun σ H Q ⟨Fo, Tm, ι, ω, st, R, hh⟩ => ?_
    rw [make_eq] at hh
    refine nextA1 R hh rfl fun hs' vs T2 ι2 ω2 H2 st2 g2 q2 hh => ?_
    obtain ⟨as, ea, el, hh⟩ := arL_ok hh
    cases k with
    | zero => exact hh.elim
    | succ k =>
      rw [mkTail, callN, hd] at hh
      simp only [List.length_cons] at hh
      rw [if_neg (by rw [Bool.and_eq_true, decide_eq_true_eq, decide_eq_true_eq]; omega)] at hh
      exact hh.elim
/-- a call of an own method -/
theorem call_own {M : Model} {A : Around} {Ee : Value → Shared → Prop} {env : PySem.Env} {o : Expr} {name : Str} {apos pos : Pos} {args : List Expr} {s : Shared} {Q : Value → Shared → Prop} (hbase : attributeBase o name env (eval o env) = eval o env)
    (hfew : ((backTo pos (starEach args env)).all (fun x => !x.1) && (backToKw pos (keywordEach [] env)).all (fun x => x.1.isSome) && decide (args.length + ([] : List Keyword).length + (if ([] : List Keyword).isEmpty then 0 else 1) < 30)) = true) (hline : (apos.endLine == pos.line) = true)
    (h : wpAny M A (eval o env) (fun ov s₁ => wpAny M A (getMethod ov name (importBound o env >>= fun r => pure (r.getD true))) (fun fx s₂ => wpAny M A (callWith pos fx.1 fx.2 (backTo pos (starEach args env)) (backToKw pos (keywordEach [] env))) Q Ee s₂) Ee s₁) Ee s) :
    wpAny M A (eval (.Call (.Attribute o name apos) args [] pos) env) Q Ee s := by
  rw [arm_eval_Call, hbase]
  refine wpAny_bind (wpAny_mono h (fun ov s₁ h₁ => ?_) fun _ _ e => e)
  refine wpAny_bind (wpAny_standAt ?_)
  have form : methodCallForm (args.length + ([] : List Keyword).length) (backTo pos (starEach args env)) (backToKw pos (keywordEach [] env)) = true := hfew
  have there : methodCallPos true o env apos pos = pure pos := by
    unfold methodCallPos
    simp [hline]
  unfold methodCall calleeOf
  rw [form]
  simp only [if_true]
  refine wpAny_bind (wpAny_holding (wpAny_mono h₁ (fun fx s₂ h₂ => ?_) fun _ _ e => e))
  exact wpAny_bind (wpAny_of_eq there h₂)
theorem lookup_zip_no {m : Str} : ∀ {fs : List Str} {xs : List V}, fs.contains m = false → (fs.zip xs).lookup m = none
  | [], _, _ => rfl
  | _ :: _, [], _ => rfl
  | f :: fs, x :: xs, h => by
    simp only [List.contains_cons, Bool.or_eq_false_iff] at h
    rw [List.zip_cons_cons, List.lookup_cons, h.1]
    exact lookup_zip_no h.2
theorem undot_dot (m : Str) : undot (dotS m) = m := by
  obtain ⟨c⟩ := m
  unfold undot dotS tagS
  simp
theorem pe_methW {o : Expr} {m : Str} {CA fa : Addr} {kk : Nat} {sp : Sp} {dvs : List V} {ds : List Value} {to : L2.TE} {t : L2.TA} {apos : Pos} (ho : PE X o to) (c : L2.Cls X.K CA) (hm : Meth X.K CA m fa) (F : FnOk X.prog X.w X.K X.mg X.base CX kk fa fd ps sp) (hr : Room kk X.A) (hb : Binds X.K fd ps ds) (hd : Vals dvs ds) (hx : ∀ σ, PassesAt CX X σ (WE Wx σ))
    (ha : PA X es t) (h0 : es = [] → ∀ σ H Q, t σ H Q → Q [] H) (hbase : attributeBase o m X.env (eval o X.env) = eval o X.env) (hline : (apos.endLine == pos.line) = true) (hs : es.all noStar = true) (hlen : es.length < 20) :
    PE X (.Call (.Attribute o m apos) es [] pos) (fun σ H Q => to σ H fun x H1 => ∃ a dx fs, x = .ref a ∧ H1 a = some (.ins CA dx fs) ∧ fs.lookup m = none ∧ t σ H1 fun vs H2 => sp (.ref a :: (vs ++ dvs)) H2 Q (WE Wx σ)) := by
  refine ⟨fun pins s σ H Q I h => ?_⟩
  have few : ((backTo pos (starEach es X.env)).all (fun x => !x.1) && (backToKw pos (keywordEach [] X.env)).all (fun x => x.1.isSome) && decide (es.length + ([] : List Keyword).length + (if ([] : List Keyword).isEmpty then 0 else 1) < 30)) = true := by
    rw [stars_few hs]
    show (true && true && decide (es.length + 0 + 0 < 30)) = true
    rw [decide_eq_true (by omega)]
    rfl
  refine call_own hbase few hline (thn (ho.run pins s σ H _ I h) fun u s1 ⟨x, H1, I1, rx, a, dx, fs, ex, ea, l, q⟩ => ?_)
  subst ex
  obtain rfl : u = Value.ref a := rx
  refine getmeth_ok I1 ea c hm l ?_
  cases es with
  | nil => exact PySem.W.callWith_K0 (first := [.ref a]) I1.kIn hm.kp (run_fnW (us := [.ref a]) (vs := [.ref a]) F hr hb hd (hx σ) I1 (.cons rfl .nil) (h0 rfl _ _ _ q))
  | cons e es =>
    rw [List.all_cons, Bool.and_eq_true] at hs
    refine PySem.W.callWith_K (first := [.ref a]) (h₀ := X.base) I1.ok.mod.kin hm.kp (thn (ha.run pos pins s1 σ H1 _ I1 q) fun us s2 ⟨vs, H2, I2, r, q2⟩ => ⟨I2.kIn, ?_⟩) (star_cons hs.1) (stars_plain hs.2)
    exact run_fnW (us := .ref a :: us) (vs := .ref a :: vs) F hr hb hd (hx σ) I2 (.cons rfl r) q2
theorem s_meth {o : Expr} {to : TE} {m : Str} {apos : Pos} (hM : ∀ c CA, E.cls c = some CA → P.flds c (dotS m) = true → ∃ d fa fd ps, P.defs (dotS m) = some d ∧ FnAt X CX E P k (dotS m) d fa fd ps ∧ L2.Cls X.K CA ∧ Meth X.K CA m fa)
    (one : ∀ c c' CA CA', E.cls c = some CA → E.cls c' = some CA' → P.flds c (dotS m) = true → P.flds c' (dotS m) = true → CA = CA') (hex : ∃ c CA, E.cls c = some CA ∧ P.flds c (dotS m) = true)
    (hr : Room (2 * k + 2) X.A) (hx : ∀ σ, PassesAt CX X σ (WE Wx σ)) (ho : PE X o (tE (cfg P k) E Wx to)) (ha : PA X es (tAr (cfg P k) E Wx (dotS m) 1 tl)) (hl : tl.len = es.length)
    (hbase : attributeBase o m X.env (eval o X.env) = eval o X.env) (hline : (apos.endLine == pos.line) = true) (hs : es.all noStar = true) (hlen : es.length < 20) :
    PE X (.Call (.Attribute o m apos) es [] pos) (tE (cfg P k) E Wx (.meth to (dotS m) tl)) := by
  obtain ⟨c0, CA, hc0, hf0⟩ := hex
  obtain ⟨d, fa, fd, ps, hd, A, hC, hMe⟩ := hM c0 CA hc0 hf0
  have h0 : es = [] → ∀ σ H Q, tAr (cfg P k) E Wx (dotS m) 1 tl σ H Q → Q [] H := fun e σ H Q h => by
    subst e
    cases tl with
    | nil => exact tAr_nil h
    | cons _ _ => cases hl
  have eqM : evE (cfg P k) (.meth to (dotS m) tl) = (evE (cfg P k) to >>= fun h => EV.toCell h >>= fun h => EV.peek h >>= fun x => chk (methOk P.flds (dotS m) x) >>= fun _ => evA (cfg P k) (dotS m) 1 tl >>= fun hs => arL (tl.len + 1) (h :: hs) >>= fun as => (cfg P k).run (dotS m) as) := rfl
  have core : ∀ {sp : Sp} {dvs : List V} {ds : List Value}, FnOk X.prog X.w X.K X.mg X.base CX (2 * k + 2) fa fd ps sp → Binds X.K fd ps ds → Vals dvs ds →
      (∀ {as : List Ar} {vs : List V} {hs : List Hd} {Fo Tm T2 : Addr → Prop} {ι ι2 : List Addr} {ω ω2 : List (Option Addr)} {σ : L2.St} {H H2 : Hp} {st st2 : W} {Q : VK}, Go E Fo Tm ι ω σ H st T2 ι2 ω2 σ H2 st2 → HkL E H2 (FF Fo (orP T2 Tm) ι2 ω2) ι2 σ T2 hs vs → argsAt st2.ρ hs = some as → as.length = tl.len + 1 →
        Fut E Wx (· = σ) Fo Tm ι ω σ H st ((cfg P k).run (dotS m) as st2) (GE E Fo Tm σ Q) → sp (vs ++ dvs) H2 Q (WE Wx σ)) →
      PE X (.Call (.Attribute o m apos) es [] pos) (tE (cfg P k) E Wx (.meth to (dotS m) tl)) := fun {sp dvs ds} F hb hv fin => by
    refine (pe_methW ho hC hMe F hr hb hv hx ha h0 hbase hline hs hlen).imp fun σ H Q ⟨Fo, Tm, ι, ω, st, R, hh⟩ => ?_
    rw [eqM] at hh
    refine nextE1 R hh rfl fun h x T2 ι2 ω2 H2 st2 g2 q2 hh => ?_
    obtain ⟨h', st3, e, hh⟩ := hh.op (toCell_nx h st2)
    obtain ⟨ι3, ω3, g3, is, fr⟩ := g2.cell q2 e
    have is' : Is E H2 (FF Fo (orP noP Tm) ι3 ω3) ι3 h'.1 x := by rw [orP_no]; exact is
    have hk : Hk E H2 (FF Fo (orP noP Tm) ι3 ω3) ι3 σ noP (h'.1, h'.2) x := is'.hk fr
    obtain ⟨dd, pd, hh0⟩ := Fut.peek g3.rel hk hh
    have hh1 : Fut E Wx (· = σ) Fo Tm ι ω σ H st ((chk (methOk P.flds (dotS m) dd) >>= fun _ => evA (cfg P k) (dotS m) 1 tl >>= fun hs => arL (tl.len + 1) (h' :: hs) >>= fun as => (cfg P k).run (dotS m) as) st3) (GE E Fo Tm σ Q) := hh0
    clear hh hh0
    cases hc : methOk P.flds (dotS m) dd with
    | false => rw [hc] at hh1; exact hh1.elim
    | true =>
      rw [hc] at hh1
      have hh2 : Fut E Wx (· = σ) Fo Tm ι ω σ H st ((evA (cfg P k) (dotS m) 1 tl >>= fun hs => arL (tl.len + 1) (h' :: hs) >>= fun as => (cfg P k).run (dotS m) as) st3) (GE E Fo Tm σ Q) := hh1
      clear hh1
      cases dd with
      | ins cn fs vs =>
        obtain ⟨p, D, dx, xs, rfl, hp, hcl, hlx, _⟩ := pd
        have hc : (P.flds cn (dotS m) && !fs.contains (undot (dotS m))) = true := hc
        rw [undot_dot, Bool.and_eq_true, Bool.not_eq_true'] at hc
        obtain rfl := one _ _ _ _ hcl hc0 hc.1 hf0
        refine ⟨p, dx, _, rfl, hp, lookup_zip_no hc.2, ?_⟩
        refine nextA g3 hh2 rfl fun hs xs T4 ι4 ω4 H4 st4 g4' g4 l4 hh => ?_
        rw [orP_no] at g4' l4
        rw [orP_no'] at g4
        have l5 : HkL E H4 (FF Fo (orP T4 Tm) ι4 ω4) ι4 σ T4 (h' :: hs) (.ref p :: xs) :=
          ⟨.ref p, xs, noP, T4, rfl, fun a => ⟨.inr, fun z => z.elim False.elim id⟩, fun a z => z.elim, (show Hk E H4 (FF Fo (orP T4 Tm) ι4 ω4) ι4 σ noP (h'.1, h'.2) (.ref p) from (g4'.kp.is is).hk fr), l4⟩
        obtain ⟨as, ea, el, hh⟩ := arL_ok hh
        exact fin g4 l5 ea el hh
      | _ => cases hc
  by_cases cc : d.ps - (es.length + 1) ≤ d.dfl.length
  · obtain ⟨ds, dvs, hb, hv, hi⟩ := A.bind _ cc
    exact core A.ok hb hv fun g4 l5 ea el hh => call_core hd g4 l5 ea (by rw [el, hl]) hi hh
  · obtain ⟨ds, dvs, hb, hv, hi⟩ := A.bind 0 (Nat.zero_le _)
    refine core (sp := fun _ _ _ _ => False) (A.ok.imp fun _ _ _ _ z => z.elim) hb hv fun g4 l5 ea el hh => ?_
    cases k with
    | zero => exact hh.elim
    | succ k =>
      rename_i st2 _
      have hr : ∀ as st2, (cfg P (k + 1)).run (dotS m) as st2 = (match callN P (k + 1) (dotS m) as st2.S with
        | .ok h S => .ok h { st2 with S := S }
        | .exc x S => .exc x { st2 with S := S }
        | .stuck => .stuck) := fun _ _ => rfl
      rw [hr, callN, hd] at hh
      simp only at hh
      rw [if_neg (by rw [Bool.and_eq_true, decide_eq_true_eq, decide_eq_true_eq]; omega)] at hh
      exact hh.elim
end
end EV

set_option autoImplicit false
set_option linter.all false
set_option maxRecDepth 10000
namespace EV
open PySem L2 PyProof.Rows

/-! ### raise, try -/
section
variable {X : Cx} {C : Addr} {bmB : List Value} {B newId initId : String} {pins : List (Addr × Obj)} {σ : L2.St} {H : Hp} {s : Shared}
/-- C() -/
theorem mk_own0 {x : Str} {p pos : Pos} (F : ExcBaseFacts B newId initId bmB) (q : PySem.W.excIn X.K C bmB newId = true) (gC : X.mg x = some (.ref C)) (kC : PySem.W.keepIn X.K (.ref C) = true) (r : Raises X (.ref C)) (hg : Gl X x)
    (hdb : (x == ("__debug__" : Str)) = false) : PMk X (.Call (.Name x p) [] [] pos) (fun _ H Q => Q (.ref C) none H) := by
  intro pins s σ H Q I h
  refine wpAny_Call_Name_kw (ld_glob I hg gC ?_ hdb)
  refine PySem.W.callWith_K0 I.kIn kC ?_
  show wpAny _ _ (call (.ref C) []) _ _ _
  obtain ⟨bm, N, nm, qn, bs, hdct, sn, sub, ab, col, dd, k0, k1, k2, k3, k5, mN, hC, hN, hni, T⟩ := exc_obj I.kIn q
  refine wpAny_call_exc_subT F T hC hN hni (fun h' e hm => mk_of I hm r h (I.hok.gone hm.new)) (by show 0 ≤ sizeLine; rw [sizeLine_eq]; omega)
/-- a pinned exception is told of from now on -/
theorem keep_exc {a D : Addr} {oe : Obj} {d : Option Addr} (I : Inv X ((a, oe) :: pins) σ H s) (hz : Zc (.ref D) d oe) (hv : ∃ fv, oe.data = .fields fv) (h0 : X.s_0.heap.get? a = none) (hp : ∀ p ∈ X.pn ++ pins, p.1 ≠ a) : Inv X pins σ (upd H a (exv a D d)) s := by
  obtain ⟨fv, hv⟩ := hv
  obtain ⟨ha, na, nL, nF, _⟩ := I.pin (a, oe) (List.mem_append_right _ List.mem_cons_self)
  have ne : ∀ b u, H b = some u → b ≠ a := fun b u e z => by rw [z, na] at e; cases e
  have n0 : ∀ b o, X.s_0.heap.get? b = some o → b ≠ a := fun b o e z => by rw [z, h0] at e; cases e
  refine ⟨I.ok, I.os, I.bare, ⟨I.base.keep, I.base.slot, fun b o e n hx => ?_, I.base.there, fun b xs e => ?_, fun b o u e => ?_, fun b ps e => ?_⟩, I.loc, I.cell, ?_, fun y c e => ?_, fun p hp' => ?_, fun b ob e => ?_, I.len⟩
  · rw [upd_ne (n0 b o e)]
    exact I.base.free b o e n hx
  · have := I.base.tups b xs e
    rw [upd_ne (ne _ _ this)]
    exact this
  · have := I.base.frzs b o u e
    rw [upd_ne (ne _ _ this)]
    exact this
  · obtain ⟨more, this⟩ := I.base.tbls b ps e
    exact ⟨more, by rw [upd_ne (ne _ _ this)]; exact this⟩
  · rw [upd_ne (Ne.symm nL)]
    exact I.free
  · have hc : c ≠ a := fun z => by
      obtain ⟨v, o, e1, e2⟩ := I.cell y c e
      rw [z] at e1
      have ha : s.heap.get? a = some oe := ha
      rw [ha] at e1
      cases e1
      rcases e2 with e2
      rw [hv] at e2
      first | cases e2 | (obtain ⟨e2, _⟩ := e2; cases e2) | (obtain ⟨_, e2⟩ := e2; cases e2) | (obtain ⟨_, e2, _⟩ := e2; cases e2)
    rw [upd_ne hc]
    exact I.freeC y c e
  · have hp2 : p ∈ X.pn ++ (a, oe) :: pins := by
      rcases List.mem_append.mp hp' with z | z
      · exact List.mem_append_left _ z
      · exact List.mem_append_right _ (List.mem_cons_of_mem _ z)
    obtain ⟨k1, k2, k3, k4, k5⟩ := I.pin p hp2
    exact ⟨k1, by rw [upd_ne (hp p hp')]; exact k2, k3, k4, k5⟩
  · by_cases hb : b = a
    · subst hb
      rw [upd_same] at e
      cases e
      exact ⟨⟨oe, fv, ha, hz, hv⟩, ⟨oe, ha⟩, fun h1 h2 ⟨o1, f1, e1, z1, v1⟩ k => ⟨o1, f1, k _ e1, z1, v1⟩⟩
    · rw [upd_ne hb] at e
      refine (I.hok b ob e).stay (fun c u _ z => z) (fun c z => ?_) fun c xs z => ?_
      · rw [upd_ne (ne _ _ z)]
        exact z
      · rw [upd_ne (ne _ _ z)]
        exact z
end
theorem unsuite_pin {X : Cx} {pins : List (Addr × Obj)} {σ : L2.St} {H : Hp} {s : Shared} {a : Addr} {q : Addr × Obj} (I : Inv (X.suite a (q :: (X.pn ++ pins))) [] σ H s) (ok : X.Ok) : Inv X (q :: pins) σ H s :=
  ⟨ok, I.os, I.bare, I.base, I.loc, I.cell, I.free, I.freeC, fun p hp => I.pin p (by
    rw [List.append_nil]
    rcases List.mem_append.mp hp with z | z
    · exact List.mem_cons_of_mem _ (List.mem_append_left _ z)
    · rcases List.mem_cons.mp z with z | z
      · rw [z]; exact List.mem_cons_self
      · exact List.mem_cons_of_mem _ (List.mem_append_right _ z)), I.hok, I.len⟩
/-- what a try's clause wishes, that only keeps the exception: slot i is the clause's own name, slot j the kept one's -/
def wKeep (K : PySem.W.Frag) (c : Value) (i j : Nat) (Wout : WX) (D : Ends) : WX := fun cls d σ H =>
  ∃ b, PySem.W.exmOne K cls c = some b ∧ (b = true → ∀ a, H a = none → ∃ C, cls = .ref C ∧ D.nx (((σ.set i (some (.ref a))).set j (some (.ref a))).set i none) (upd H a (exv a C d))) ∧ (b = false → Wout cls d σ H)
section
variable {X : Cx} {x n y : Str} {c : Value} {i j : Nat} {body : List Stmt} {np p1 p2 pa pos pos' : Pos} {tb : WX → L2.TS} {Wout : WX}
theorem ps_try_keep (hs : X.stack = X.env :: X.outer) (hf : X.env.frame = some X.env.locals) (hex : X.ex = []) (hN : X.N.Nodup) (hi : X.N[i]? = some n) (hj : X.N[j]? = some y) (hln : X.env.kindOf n = some .local) (hly : Loc X.env.scope y) (hfy : X.fn y = true ∨ X.env.scope.names.lookup y = some .local)
    (hd1 : (n == ("__debug__" : Str)) = false) (hd2 : (n == ("__classdict__" : Str)) = false) (hc : Names X x c) (tk : Takes X Wout)
    (hb : ∀ (W : WX) (pn : List (Addr × Obj)) (xe : Value → Shared → Prop), Takes (X.tr pn xe) W → PassesOwn (model X.prog X.w) X.A X.env xe → PSs (X.tr pn xe) body (tb W)) :
    PS X (.Try body [.ExceptHandler (some (.Name x np)) (some n) [.Assign [.Name y p1] (.Name n p2) pa] pos'] [] [] pos) (fun D σ H => tb (wKeep X.K c i j Wout D) D σ H) := by
  refine ⟨fun pins s σ H D I h => ?_⟩
  have ok := I.ok
  have hfr : X.A.frames = some (X.env :: X.outer) := by rw [ok.frames, hs]
  have hloc : Loc X.env.scope n := .inl hln
  have hil : i < X.N.length := (List.getElem?_eq_some_iff.mp hi).1
  refine wpAny_Try_except ?_
  refine wpAny_mono ((hb (wKeep X.K c i j Wout D) (X.pn ++ pins) (fun e s₁ => wpAny (model X.prog X.w) X.A (noteFrame e X.env) (fun _ s₂ => wpAny (model X.prog X.w) X.A (setFlight e none) (fun _ s₃ =>
    wpAny (model X.prog X.w) X.A (handleBy e X.env [.ExceptHandler (some (.Name x np)) (some n) [.Assign [.Name y p1] (.Name n p2) pa] pos']) (SP X pins D) X.xe s₃) X.xe s₂) X.xe s₁) (fun u s' xx => ?_) PassesOwn.looking).run [] s σ H D (I.toTry _) h) (fun f s1 hsp => ?_) (fun e s1 he => he)
  · obtain ⟨a, B, sI, pins', σ', H', cls, d, rfl, J', nb, up, sky, na, os, ag, b, hb1, hyes, hno⟩ := xx
    have J : Inv X pins σ' H' sI := J'.ofTry ok
    have sky' : Sky B (X.env :: X.outer) a (Zc cls d) X.env.locals s'.heap := by rw [← hs]; exact sky
    show wpAny (model X.prog X.w) X.A (noteFrame (.ref a) X.env) _ _ _
    refine Sky.land Zc.steady hfr hf sky' fun h3 fl3 up3 => ?_
    have J3 : Inv X pins σ' H' { s' with heap := h3 } := J.landed nb fl3.1 (up.trans up3) os ag
    obtain ⟨oe3, vs3, he3, hz3, hd3⟩ := fl3.there
    have nfr : a ∉ frs (X.env :: X.outer) := fun hm => by
      obtain ⟨_, o', e', hnf⟩ := fl3.2.2.1.mem hm
      rw [he3] at e'; cases e'
      exact hnf _ hd3
    have nL : a ≠ X.env.locals := fun z => nfr (List.mem_filterMap.mpr ⟨X.env, List.mem_cons_self, by rw [hf, z]⟩)
    have nF : a ∉ X.fs := fun hm => by
      obtain ⟨e, he, q⟩ := List.mem_filterMap.mp hm
      exact nfr (List.mem_filterMap.mpr ⟨e, List.mem_cons_of_mem _ he, q⟩)
    have nI : sI.heap.get? a = none := by
      cases hq : sI.heap.get? a with
      | none => rfl
      | some o =>
        have := nb a o hq (by rw [hs]; exact nfr)
        rw [fl3.2.1] at this
        cases this
    have n0 : X.s_0.heap.get? a = none := by
      cases hq : X.s_0.heap.get? a with
      | none => rfl
      | some o =>
        obtain ⟨o', e'⟩ := J.base.there a o hq (by rw [hex]; simp)
        rw [nI] at e'
        cases e'
    have npn : ∀ p ∈ X.pn ++ pins, p.1 ≠ a := fun p hp z => by
      have := (J.pin p hp).1
      rw [z, nI] at this
      cases this
    have S3 := J3.suite he3 hd3 na nL nF
    refine wpAny_handleBy_cons (codeAny_handlers_test ?_) (by intro q; cases q)
    have LT : PySem.W.Looks (model X.prog X.w) h3 (typeOf (.ref a)) cls := fun A Q E s k q => wpAny_typeOf_ref (k _ _ he3) (by rw [hz3.1]; exact q)
    have LM := PySem.W.exm_one (M := model X.prog X.w) (J3.kIn) LT hb1
    have test : ∀ {Q : Value → Shared → Prop} {E : Value → Shared → Prop}, Q c { s' with heap := h3 } → wpAny (model X.prog X.w) (X.A.mark (some (.ref a))) (eval (.Name x np) X.env) Q E { s' with heap := h3 } := fun {Q E} q => by
      obtain ⟨hg, hdbg, hm | ⟨hm, hv, hnn⟩⟩ := hc
      · exact ld_glob (X := X.suite a ((a, oe3) :: (X.pn ++ pins))) S3 hg hm q hdbg
      · exact ld_blt (X := X.suite a ((a, oe3) :: (X.pn ++ pins))) S3 hg hm hv q hnn hdbg
    refine test (LM.here ?_)
    cases b with
    | true =>
      obtain ⟨C, rfl, hq⟩ := hyes rfl a na
      refine codeAny_handlers_suite_as ?_
      refine HandSPX.lands_againZ fl3 fun h4 fl4 up4 => ?_
      have J4 : Inv X pins σ' H' { s' with heap := h4 } := J.landed nb fl4.1 ((up.trans up3).trans up4) os ag
      obtain ⟨oe4, vs4, he4, hz4, hd4⟩ := fl4.there
      have S4 := J4.suite he4 hd4 na nL nF
      refine store_ok (X := X.suite a ((a, oe4) :: (X.pn ++ pins))) (v := .ref a) S4 hN hi hloc rfl (fun s5 S5 => ?_) (.inr hln)
      have hσ : (σ'.set i (some (.ref a)))[i]? = some (some (V.ref a)) := List.getElem?_set_self (by rw [J.len]; exact hil)
      have asg : PS (X.suite a ((a, oe4) :: (X.pn ++ pins))) (.Assign [.Name y p1] (.Name n p2) pa) _ := ps_asg (pe_var (X := X.suite a ((a, oe4) :: (X.pn ++ pins))) hi (.inl hln) hd1 hd2) (pg_name (X := X.suite a ((a, oe4) :: (X.pn ++ pins))) hN hj hly hfy)
      refine wpAny_mono ((pss_one asg).run [] s5 _ H' { nx := fun σ6 H6 => σ6 = (σ'.set i (some (.ref a))).set j (some (.ref a)) ∧ H6 = H', rt := fun _ _ => False, bk := fun _ _ => False, ct := fun _ _ => False } S5 ⟨.ref a, hσ, rfl, rfl⟩) (fun f s6 hsp => ?_) (fun _ _ z => False.elim z)
      cases f with
      | next =>
        obtain ⟨σ6, H6, S6, rfl, rfl⟩ := hsp
        exact gone_ok (unsuite_pin S6 ok) hN hi hln fun s7 J7 => ⟨_, _, keep_exc J7 hz4 ⟨vs4, hd4⟩ n0 npn, hq⟩
      | brk => obtain ⟨σ6, H6, S6, q6⟩ := hsp; exact q6.elim
      | cont => obtain ⟨σ6, H6, S6, q6⟩ := hsp; exact q6.elim
      | ret u => obtain ⟨v6, σ6, H6, S6, r6, q6⟩ := hsp; exact q6.elim
    | false =>
      show wpAny _ X.A (handleBy (.ref a) X.env []) _ _ _
      refine wpAny_handleBy_nil ?_
      obtain ⟨k1, k2, k3, oe, vs, T, oT, ts', he, hz, hd, h1, hr⟩ := id fl3
      unfold PySem.passOn
      refine wpAny_bind (wpAny_field he hd h1 ?_)
      rw [if_neg (show ¬ ((Value.ref T == Value.none) = true) from by simp)]
      have fin : wpAny (model X.prog X.w) X.A (setFlight (.ref a) X.env.frame) (fun _ s4 => wpAny (model X.prog X.w) X.A (throw (.ref a) : Sem Flow) (SP X pins D) X.xe s4) X.xe { s' with heap := h3 } := by
        rw [hf]
        refine HandSPX.setFlight_upZ fl3 fun h4 hh4 up4 => wpAny_throw (tk _ _ ?_)
        exact ⟨a, B, sI, pins, σ', H', cls, d, rfl, J, nb, (up.trans up3).trans up4, .inr (.inr (by rw [hs]; exact hh4)), na, os, ag, hno rfl⟩
      first
        | exact wpAny_bind (wpAny_pure (wpAny_bind fin))
        | exact wpAny_bind fin
  · cases f with
    | next =>
      obtain ⟨σ', H', J', q⟩ := hsp
      exact wpAny_execs_nil ⟨σ', H', J'.ofTry ok, q⟩
    | brk =>
      obtain ⟨σ', H', J', q⟩ := hsp
      exact ⟨σ', H', J'.ofTry ok, q⟩
    | cont =>
      obtain ⟨σ', H', J', q⟩ := hsp
      exact ⟨σ', H', J'.ofTry ok, q⟩
    | ret u =>
      obtain ⟨v, σ', H', J', r, q⟩ := hsp
      exact ⟨v, σ', H', J'.ofTry ok, r, q⟩
end
/-! ### the evaluator's raise and try -/
/-- a class that is raised -/
structure XrOk (E : Env) (K : PySem.W.Frag) (mg : Str → Option Value) (x : Str) (cs : List Str) : Prop where
  ex : ∃ (C : Addr) (bmB : List Value) (B newId initId : String), ExcBaseFacts B newId initId bmB ∧ PySem.W.excIn K C bmB newId = true ∧ mg x = some (.ref C) ∧ PySem.W.keepIn K (.ref C) = true ∧ PySem.W.subIn K (.ref C) (.type "BaseException") = some true ∧ PySem.W.typeIn K (.ref C) = some (.type "type") ∧ E.xc cs = some C
  db : (x == ("__debug__" : Str)) = false
section
variable {X : Cx} {C : Cfg} {E : Env} {Wx : WX} {c : SC} {x m : Str} {cs : List Str} {k : Nat} {p p2 pos pos' : Pos}
theorem raise_read {σ : L2.St} {H : Hp} {D : L2.Ends} {A : Addr} (hA : E.xc cs = some A) (h : tS C E Wx (.raise cs) D σ H) : Wx (.ref A) none σ H := by
  obtain ⟨Fo, Tm, ι, ω, st, R, hh⟩ := h
  have hh : Fut E Wx anyS Fo Tm ι ω σ H st (.exc ⟨cs, [], []⟩ st) (GS E Fo Tm D) := hh
  exact hh noP ι ω σ H (.ref A) none trivial (Go.refl R) ⟨A, rfl, hA, .inl ⟨rfl, rfl, rfl⟩⟩
theorem s_raise0 (hcm : X.calm = true) (tk : Takes X Wx) (xr : XrOk E X.K X.mg x cs) (hg : Gl X x) : PS X (.Raise (some (.Call (.Name x p) [] [] pos')) none pos) (tS C E Wx (.raise cs)) := by
  obtain ⟨A, bmB, B, newId, initId, F, q, gC, kC, h1, h2, hA⟩ := xr.ex
  exact (ps_raise hcm tk (mk_own0 F q gC kC (raises_own h1 h2) hg xr.db)).imp fun D σ H h => raise_read hA h
theorem s_raise1 (hcm : X.calm = true) (tk : Takes X Wx) (xr : XrOk E X.K X.mg x cs) (hg : Gl X x) : PS X (.Raise (some (.Call (.Name x p) [.Constant (.str m) k p2] [] pos')) none pos) (tS C E Wx (.raise cs)) := by
  obtain ⟨A, bmB, B, newId, initId, F, q, gC, kC, h1, h2, hA⟩ := xr.ex
  exact (ps_raise hcm tk (pmk_own F q gC kC (raises_own h1 h2) hg xr.db)).imp fun D σ H h => raise_read hA h
end
section
variable {E : Env} {Fo Tm T : Addr → Prop} {ι ι1 : List Addr} {ω ω1 : List (Option Addr)} {σ0 σ σ' : L2.St} {H H1 : Hp} {st st1 : W} {i : Nat}
/-- what a name without a value stands for does not matter -/
theorem Go.forget (g : Go E Fo Tm ι ω σ0 H st T ι1 ω1 σ H1 st1) (hi : st1.ρ[i]? = some none) (hl : σ'.length = σ.length) (ho : ∀ j, j ≠ i → σ'[j]? = σ[j]?) : Go E Fo Tm ι ω σ0 H st T ι1 ω1 σ' H1 st1 := by
  have R := g.rel
  refine ⟨g.nT, ⟨R.nι, by rw [hl]; exact R.nρ, R.nω, R.iι, R.iω, R.oT, R.oι, R.oω, R.tι, R.tω, R.cω, R.th, R.cells, fun j s e => ?_⟩, g.kp, g.same, fun j d e => ?_⟩
  · by_cases hj : j = i
    · subst hj
      rw [hi] at e
      cases e
      exact (show ω1[j]? = some none from R.slots j none hi)
    · rw [ho j hj]
      exact R.slots j s e
  · obtain ⟨k1, k2, k3, k4⟩ := g.lock j d e
    have hj : j ≠ i := fun z => by
      subst z
      rw [hi, e] at k1
      cases k1
    exact ⟨k1, by rw [ho j hj]; exact k2, k3, k4⟩
end
section
variable {X : Cx} {C : Cfg} {E : Env} {Wx : WX} {c : SC} {x n y : Str} {i j : Nat} {body : List Stmt} {np p1 p2 pa pos pos' : Pos} {tb : TB}
theorem s_try {u : Value} (g : Good X C E Wx c) (hs : X.stack = X.env :: X.outer) (hf : X.env.frame = some X.env.locals) (hex : X.ex = []) (tk : Takes X Wx) (hxu : E.xt x = some u) (hgx : Gl X x)
    (hi : c.N.findIdx? (· == n) = some i) (hj : c.N.findIdx? (· == y) = some j) (hln : X.env.kindOf n = some .local) (hly : Loc X.env.scope y) (hfy : X.fn y = true ∨ X.env.scope.names.lookup y = some .local)
    (hd1 : (n == ("__debug__" : Str)) = false) (hd2 : (n == ("__classdict__" : Str)) = false)
    (hb : ∀ (W : WX) (pn : List (Addr × Obj)) (xe : Value → Shared → Prop), Takes (X.tr pn xe) W → PassesOwn (model X.prog X.w) X.A X.env xe → PSs (X.tr pn xe) body (tB C E W tb)) :
    PS X (.Try body [.ExceptHandler (some (.Name x np)) (some n) [.Assign [.Name y p1] (.Name n p2) pa] pos'] [] [] pos) (tS C E Wx (.try_ tb x i j)) := by
  have xo := g.env.xt x u hxu
  refine (ps_try_keep hs hf hex (by rw [g.N]; exact g.nd) (by rw [g.N]; exact findIdx_get hi) (by rw [g.N]; exact findIdx_get hj) hln hly hfy hd1 hd2 ⟨hgx, xo.db, xo.nm⟩ tk (tb := fun W => tB C E W tb) hb).imp fun D σ H ⟨Fo, Tm, ι, ω, st, R, hh⟩ => ⟨Fo, Tm, ι, ω, st, R, ?_⟩
  have hh : Fut E Wx anyS Fo Tm ι ω σ H st (match exB C tb st with
    | .exc e s' => if e.c.contains x then
        (if (decide (i ≠ j) && isNone1 s'.ρ[i]?) = true then
          match setSlot j false (.exn e.c e.fs e.vs, false) s' with
          | .ok _ s'' => .ok .next s''
          | .exc _ _ => .stuck
          | .stuck => .stuck
        else .stuck)
      else .exc e s'
    | .ok f s' => .ok f s'
    | .stuck => .stuck) (GS E Fo Tm D) := hh
  cases hx : exB C tb st with
  | stuck => rw [hx] at hh; exact hh
  | ok f s => rw [hx] at hh; exact hh
  | exc e s' =>
    rw [hx] at hh
    intro T ι' ω' σ' H' cls d hs g' hE
    obtain ⟨A, rfl, hA, q⟩ := id hE
    refine ⟨e.c.contains x, (xo.exc e.c A hA).2, fun hb1 a na => ⟨A, rfl, ?_⟩, fun hb0 => ?_⟩
    · dsimp only at hh
      rw [if_pos hb1] at hh
      split at hh
      · rename_i hc
        rw [Bool.and_eq_true, decide_eq_true_eq] at hc
        obtain ⟨hij, hn⟩ := hc
        have hni : s'.ρ[i]? = some none := by
          cases h : s'.ρ[i]? with
          | none => rw [h] at hn; cases hn
          | some z =>
            cases z with
            | none => rfl
            | some z =>
              rw [h] at hn
              obtain ⟨z1, z2⟩ := z
              cases hn
        split at hh
        · rename_i u2 s'' es
          have gl : Go E Fo (orP T Tm) ι' ω' σ' H' s' noP ι' ω' σ' (upd H' a (exv a A d)) s' := Go.laidT g'.rel na
          have g1 := g'.trans gl
          have kl := gl.kp
          have is : Is E (upd H' a (exv a A d)) (FF Fo (orP noP (orP T Tm)) ι' ω') ι' (.exn e.c e.fs e.vs) (.ref a) := by
            refine ⟨a, A, d, rfl, upd_same, hA, ?_⟩
            rcases q with q | ⟨ne, dx, xs, e1, e2, e3, e4⟩
            · exact .inl q
            · exact .inr ⟨ne, dx, xs, e1, kl.xd _ _ e2, e3, kl.isL e4⟩
          have hk : Hk E (upd H' a (exv a A d)) (FF Fo (orP (orP noP T) Tm) ι' ω') ι' σ' noP (.exn e.c e.fs e.vs, false) (.ref a) := Hk.sh (by rw [orP_assoc]; exact is) (.inl rfl)
          have g2 : Go E Fo Tm ι ω σ H st noP ι' ω' σ' (upd H' a (exv a A d)) s' := g1.drop
          have hk2 : Hk E (upd H' a (exv a A d)) (FF Fo (orP noP Tm) ι' ω') ι' σ' noP (.exn e.c e.fs e.vs, false) (.ref a) := hk.less fun b z => by
            rcases z with z | (z | z) | z
            · exact .inl z
            · exact z.elim
            · exact .inr (.inl (.inr z))
            · exact .inr (.inr z)
          obtain ⟨ι2, ω2, g3, _⟩ := g2.store hk2 es
          have hi3 : s''.ρ[i]? = some none := by
            unfold setSlot at es
            split at es
            · have es : (Res.ok () { s' with ρ := s'.ρ.set j (some (.exn e.c e.fs e.vs, .sh)) } : Res W Unit) = .ok u2 s'' := es
              cases es
              rw [← hni]
              exact List.getElem?_set_ne (Ne.symm hij)
            · cases es
          have hil : i < σ'.length := by
            rw [g'.rel.nρ]
            exact (List.getElem?_eq_some_iff.mp hni).1
          have g4 := g3.forget (σ' := ((σ'.set i (some (.ref a))).set j (some (.ref a))).set i none) hi3 (by simp) (fun k hk => by
            rw [List.getElem?_set_ne (Ne.symm hk)]
            by_cases hkj : k = j
            · subst hkj
              by_cases hkl : k < σ'.length
              · rw [List.getElem?_set_self (by simpa using hkl), List.getElem?_set_self hkl]
              · rw [List.getElem?_eq_none (by simp; omega), List.getElem?_eq_none (by simp; omega)]
            · rw [List.getElem?_set_ne (Ne.symm hkj), List.getElem?_set_ne (Ne.symm hk), List.getElem?_set_ne (Ne.symm hkj)])
          exact hh _ _ _ _ _ trivial g4
        · exact hh.elim
        · exact hh.elim
      · exact hh.elim
    · dsimp only at hh
      rw [if_neg (by rw [hb0]; decide)] at hh
      exact hh T ι' ω' σ' H' (.ref A) d hs g' hE
end
end EV

set_option autoImplicit false
set_option linter.all false
set_option maxRecDepth 10000
namespace EV
open PySem L2 PyProof.Rows

/-! ### exceptions of own classes with an own __init__ of one field -/
/-- def __init__(self, r): T.__init__(self, "..") or T.__init__(self, ".." + str(r)); self.f = r  -/
def initB : List Stmt → Option (Str × Str × Str × Bool)
  | [.Expr (.Call (.Attribute (.Name t _) m p2) [.Name s0 _, .Constant (.str _) _ _] [] pos) _, .Assign [.Attribute (.Name s1 _) f _] (.Name r _) _] =>
    if m = "__init__" ∧ s0 = "self" ∧ s1 = "self" ∧ (p2.endLine == pos.line) = true then some (t, f, r, false) else none
  | [.Expr (.Call (.Attribute (.Name t _) m p2) [.Name s0 _, .BinOp (.Constant (.str z) _ _) .Add (.Call (.Name g _) [.Name r' _] [] _) _] [] pos) _, .Assign [.Attribute (.Name s1 _) f _] (.Name r _) _] =>
    if (p2.endLine == pos.line) = true ∧ m = "__init__" ∧ s0 = "self" ∧ s1 = "self" ∧ g = "str" ∧ r' = r ∧ z.length ≤ 1000 then some (t, f, r, true) else none
  | _ => none
/-- what such a class keeps -/
def spInit (K : PySem.W.Frag) (f : Str) (k : Bool) : Sp := fun vs H Q _ => ∃ (a C : Addr) (v : V), vs = [.ref a, v] ∧ OexC K C ∧ PySem.W.findIn K (.ref C) f = some none ∧ H a = some (exo a C none) ∧ (k = true → ∃ n : Nat, v = .int (n : Int) ∧ n < 10 ^ 9) ∧
  ∀ dx, H dx = none → dx ≠ a → Q .non (upd (upd H dx (exd dx [(f, v)])) a (exo a C (some dx)))
section
variable {X : Cx} {C : Addr} {t : Str} {e : Expr} {es : List Expr} {ta : TA} {p1 p2 pos : Pos}
/-- T.__init__(self, ..), T an own class over ValueError -/
theorem pe_tinit {mc : Value} (hg : Gl X t) (hm : X.mg t = some (.ref C)) (hd : (t == ("__debug__" : Str)) = false) (cr : ClX.CRead X.K C mc) (vV : PySem.W.findCls X.K (.ref C) mc "__init__" = some (.val (.builtin "ValueError.__init__"))) (ha : PA X (e :: es) ta)
    (hline : (p2.endLine == pos.line) = true) (hs : (e :: es).all noStar = true) (hlen : (e :: es).length < 20) :
    PE X (.Call (.Attribute (.Name t p1) "__init__" p2) (e :: es) [] pos) (tVeI X.K ta) := by
  refine ⟨fun pins s σ H Q I h => ?_⟩
  have few : ((backTo pos (starEach (e :: es) X.env)).all (fun x => !x.1) && (backToKw pos (keywordEach [] X.env)).all (fun x => x.1.isSome) && decide ((e :: es).length + ([] : List Keyword).length + (if ([] : List Keyword).isEmpty then 0 else 1) < 30)) = true := by
    rw [stars_few hs]
    show (true && true && decide ((e :: es).length + 0 + 0 < 30)) = true
    rw [decide_eq_true (by omega)]
    rfl
  have hs' := hs
  rw [List.all_cons, Bool.and_eq_true] at hs'
  refine call_own (base_of (by rfl)) few hline (ld_glob I hg hm ?_ hd)
  refine PySem.W.method_cls I.kIn cr.ga (PySem.W.cls_value I.kIn cr.rd vV (by decide +kernel) ?_)
  show wpAny _ _ (callWith pos (Value.builtin "ValueError.__init__") [] (backTo pos (starEach (e :: es) X.env)) []) _ _ _
  refine PyProof.Rows.callWith_method1 (thn (ha.run pos pins _ σ H _ (I.tok _) h) fun us s1 ⟨vs, H1, I1, r1, a, C, ws, ev, hl, T, ea, q⟩ => ?_) (star_cons hs'.1) (stars_plain hs'.2)
  subst ev
  cases r1 with
  | @cons _ u0 _ ur ra rw' =>
    obtain rfl : u0 = Value.ref a := ra
    have hlen : ur.length ≤ sizeLine := by
      rw [← Paired.length rw', sizeLine_eq]
      omega
    exact oinit_ok T I1 ea hlen fun s' J => ⟨.non, H1, J, rfl, q⟩
end
/-- what is asked of the class -/
structure XmOk (E : Env) (K : PySem.W.Frag) (mg : Str → Option Value) (x : Str) (cs : List Str) (f : Str) (k : Bool) : Prop where
  ex : ∃ (C fI T : Addr) (mc : Value) (fd : FuncData) (st : Stmt) (qual t r : Str), OexC K C ∧ PySem.W.findIn K (.ref C) "__init__" = some (some (.ref fI)) ∧ PySem.W.typeIn K (.ref fI) = some (.type "function") ∧ C8.Fun K "__init__" qual st fI fd ∧ Binds K fd ["self", r] [] ∧
    FnScope ["self", r] ["self", r] (C8.fnScope st) ∧ initB (C8.fnBody st) = some (t, f, r, k) ∧ mg x = some (.ref C) ∧ mg t = some (.ref T) ∧ ClX.CRead K T mc ∧ PySem.W.findCls K (.ref T) mc "__init__" = some (.val (.builtin "ValueError.__init__")) ∧
    PySem.W.findIn K (.ref C) f = some none ∧ E.xc cs = some C ∧ globC (C8.fnScope st) t = true ∧ (k = true → globC (C8.fnScope st) "str" = true) ∧ mg "str" = none ∧ okName t = true ∧ okName r = true
  db : (x == ("__debug__" : Str)) = false
section
variable {P : Program} {w : World} {K : PySem.W.Frag} {mg : Str → Option Value} {base : Heap} {E : Env} {x f : Str} {cs : List Str} {k : Bool}
theorem gl_of {X : Cx} {x : Str} {sc : Scope} (e : X.env.scope = sc) (h : globC sc x = true) : Gl X x := by
  unfold globC at h
  unfold Gl Env.kindOf
  rw [e]
  split at h
  · assumption
  · cases h
theorem okName_db {x : Str} (h : okName x = true) : (x == ("__debug__" : Str)) = false ∧ (x == ("__classdict__" : Str)) = false := by
  unfold okName at h
  rw [Bool.and_eq_true, Bool.not_eq_true', Bool.not_eq_true'] at h
  exact h
theorem init_fn {fI T : Addr} {mc : Value} {fd : FuncData} {st : Stmt} {qual t r : Str} (F : C8.Fun K "__init__" qual st fI fd) (S : FnScope ["self", r] ["self", r] (C8.fnScope st)) (hb : initB (C8.fnBody st) = some (t, f, r, k)) (hT : mg t = some (.ref T)) (cr : ClX.CRead K T mc)
    (vV : PySem.W.findCls K (.ref T) mc "__init__" = some (.val (.builtin "ValueError.__init__"))) (g1 : globC (C8.fnScope st) t = true) (g2 : k = true → globC (C8.fnScope st) "str" = true) (ms : mg "str" = none) (n1 : okName t = true) (n2 : okName r = true) :
    FnOk P w K mg base C8.CX0 1 fI fd ["self", r] (spInit K f k) := by
  refine C8.fn0 F S (fun vs H Q E' h => ?_) fun cdv A outer s H vs Q E' hr hsp => ?_
  · obtain ⟨a, C, v, rfl, _⟩ := h
    rfl
  · obtain ⟨a, C, v, rfl, oC, hno, ha, hk, hq⟩ := hsp
    generalize hX : (cxOf C8.CX0 P w K mg base ["self", r] qual (C8.fnScope st) fI cdv A outer s H E').nox = X
    have eK : X.K = K := by rw [← hX]; rfl
    have emg : X.mg = mg := by rw [← hX]; rfl
    have eN : X.N = (["self", r] : List Str) := by rw [← hX]; rfl
    have esc : X.env.scope = C8.fnScope st := by rw [← hX]; rfl
    have d1 := okName_db n1
    have d2 := okName_db n2
    have vis : ∀ x, x ∈ (["self", r] : List Str) → Vis X.env.scope x := fun x hx => by
      rw [esc]
      rcases S.par x hx with h | h
      · exact .inl h
      · exact .inr (.inl h)
    have v0 : ∀ {p : Pos}, PE X (.Name "self" p) (tVar 0) := fun {p} => pe_var (by rw [eN]; rfl) (vis _ List.mem_cons_self) (by decide) (by decide)
    have v1 : ∀ {p : Pos}, PE X (.Name r p) (tVar 1) := fun {p} => pe_var (by rw [eN]; rfl) (vis _ (List.mem_cons_of_mem _ List.mem_cons_self)) d2.1 d2.2
    have G1 : Gl X t := gl_of esc g1
    have hm : X.mg t = some (.ref T) := by rw [emg]; exact hT
    have st0 : start ["self", r] [V.ref a, v] = [some (.ref a), some v] := rfl
    have fin : ∀ {rt : V → Hp → Prop}, ∃ (D : Ends), True := fun {rt} => ⟨⟨fun _ _ => True, fun _ _ => True, fun _ _ => True, fun _ _ => True⟩, trivial⟩
    clear fin
    unfold initB at hb
    split at hb
    · rename_i t0 _ m0 _ s0 _ z _ _ _ _ s1 _ f0 _ r0 _ _ eb
      split at hb
      · rename_i cc
        obtain ⟨rfl, rfl, rfl, hln⟩ := cc
        cases hb
        rw [eb]
        refine ⟨_, pss_cons (ps_expr (pe_tinit G1 hm d1.1 (by rw [eK]; exact cr) (by rw [eK]; exact vV) (pa_cons v0 (pa_cons pe_str pa_nil)) hln (by rfl) (by simp))) (pss_one (ps_ost v0 v1)), ?_⟩
        rw [st0]
        refine ⟨.ref a, rfl, ?_⟩
        refine ⟨a, C, [.str z], rfl, by simp, by rw [eK]; exact oC, ha, ?_⟩
        refine ⟨v, rfl, .ref a, rfl, a, C, rfl, by rw [eK]; exact oC, by rw [eK]; exact hno, .inl ⟨ha, fun dx n ne => hq dx n ne⟩⟩
      · cases hb
    · rename_i t0 _ m0 _ s0 _ z _ _ g0 _ r1 _ _ _ _ _ s1 _ f0 _ r0 _ _ eb
      split at hb
      · rename_i cc
        obtain ⟨hln, rfl, rfl, rfl, rfl, rfl, hz⟩ := cc
        cases hb
        have G2 : Gl X "str" := gl_of esc (g2 rfl)
        obtain ⟨n, rfl, hn⟩ := hk rfl
        have hi : (n : Int).natAbs.log2 < 1920 := by
          show n.log2 < 1920
          by_cases h0 : n = 0
          · rw [h0]; decide
          · exact Nat.lt_of_lt_of_le ((Nat.log2_lt h0).mpr (show n < 2 ^ 30 from Nat.lt_of_lt_of_le hn (by decide))) (by decide)
        rw [eb]
        refine ⟨_, pss_cons (ps_expr (pe_tinit G1 hm d1.1 (by rw [eK]; exact cr) (by rw [eK]; exact vV) (pa_cons v0 (pa_cons (pe_op op_add_str pe_str (pe_callTy call_str_int G2 (by rw [emg]; exact ms) (by decide +kernel) (pa_cons v1 pa_nil) (by decide) (by decide))) pa_nil)) hln (by rfl) (by simp))) (pss_one (ps_ost v0 v1)), ?_⟩
        rw [st0]
        refine ⟨.ref a, rfl, ?_⟩
        have hl : z.length + (Str.ofString (toString (n : Int))).length ≤ sizeLine := by
          have h1 := TL.numL_len (n := n) (k := 9) (by decide) hn
          have h2 : (Str.ofString (toString (n : Int))).length = (TL.numL n).length := by
            rw [SX.num_S]
            exact SX.S_len _
          rw [sizeLine_eq, h2]
          omega
        refine ⟨.int (n : Int), rfl, (n : Int), rfl, hi, ?_⟩
        refine ⟨z, Str.ofString (toString (n : Int)), rfl, rfl, hl, ?_⟩
        refine ⟨a, C, [.str (z ++ Str.ofString (toString (n : Int)))], rfl, by simp, by rw [eK]; exact oC, ha, ?_⟩
        refine ⟨.int (n : Int), rfl, .ref a, rfl, a, C, rfl, by rw [eK]; exact oC, by rw [eK]; exact hno, .inl ⟨ha, fun dx n ne => hq dx n ne⟩⟩
      · cases hb
    · cases hb
end

section
variable {X : Cx} {C : Cfg} {E : Env} {Wx : WX} {c : SC} {x f : Str} {cs : List Str} {k : Bool} {e : Expr} {te : TE} {p pos pos' : Pos}
theorem upd_exo {H : Hp} {a dx C : Addr} {u : HO} {o : HO} (ha : H a = none) (ne : dx ≠ a) : upd (del (upd (upd (upd H a (exo a C none)) dx u) a (exo a C (some dx))) a) dx o = upd H dx o := by
  funext b
  by_cases h1 : b = dx
  · subst h1; rw [upd_same, upd_same]
  · rw [upd_ne h1, upd_ne h1]
    by_cases h2 : b = a
    · subst h2; rw [del_same, ha]
    · rw [del_ne h2, upd_ne h2, upd_ne h1, upd_ne h2]
/-- the argument's value -/
theorem xarg_is {k : Bool} {d : D} {H : Hp} {F : Addr → Prop} {ι : List Addr} {v : V} (hx : xarg k d = true) (is : Is E H F ι d v) : (k = true → ∃ n : Nat, v = .int (n : Int) ∧ n < 10 ^ 9) ∧ ∀ H' F' ι', Is E H' F' ι' d v := by
  unfold xarg at hx
  split at hx
  · rename_i i
    simp only [Bool.and_eq_true, decide_eq_true_eq] at hx
    refine ⟨fun _ => ⟨i.toNat, ?_, by omega⟩, fun _ _ _ => is⟩
    rw [show v = .int i from is, Int.toNat_of_nonneg hx.1.2]
  · refine ⟨fun h => ?_, fun _ _ _ => is⟩
    rw [h] at hx
    cases hx
  · cases hx
/-- C(e): what the reading says -/
theorem mk_read {K : PySem.W.Frag} {A : Addr} {Q : XK} {σ : L2.St} {H : Hp} (oC : OexC K A) (hno : PySem.W.findIn K (.ref A) f = some none)
    (h : tE C E Wx te σ H fun v H1 => (k = true → ∃ n : Nat, v = .int (n : Int) ∧ n < 10 ^ 9) ∧ ∀ dx, H1 dx = none → Q (.ref A) (some dx) (upd H1 dx (.xd [(f, v)]))) : tMkO A (spInit K f k) [] (tCons (tE C E Wx te) tNil) σ H Q := by
  refine tE_mono h fun v H1 ⟨hk, q⟩ => ?_
  refine ⟨by simp, fun a ha => ?_⟩
  refine ⟨a, A, v, rfl, oC, hno, upd_same, hk, fun dx hdx ne => ⟨rfl, dx, [(f, v)], upd_same, ?_, ?_, ?_⟩⟩
  · rw [upd_ne ne, upd_same]
  · rw [upd_ne ne] at hdx
    exact hdx
  · rw [upd_ne ne] at hdx
    rw [upd_exo ha ne]
    exact q dx hdx
theorem s_raiseF (hcm : X.calm = true) (tk : Takes X Wx) (xm : XmOk E X.K X.mg x cs f k) (hg : Gl X x) (hr : Room 2 X.A) (hn : noStar e = true) (he : PE X e (tE C E Wx te)) :
    PS X (.Raise (some (.Call (.Name x p) [e] [] pos')) none pos) (tS C E Wx (.raise1 cs f k te)) := by
  obtain ⟨A, fI, T, mc, fd, st, qual, t, r, oC, iC, tI, F, hB, S, hb, gC, gT, cr, vV, hno, hA, g1, g2, ms, n1, n2⟩ := xm.ex
  have F1 := init_fn (P := X.prog) (w := X.w) (base := X.base) F S hb gT cr vV g1 g2 ms n1 n2
  refine (ps_raise hcm tk (pmk_oex oC iC tI F1 hr hB .nil C8.pass0 hg gC (pa_cons he pa_nil (star_cons hn)) xm.db (star_cons hn) rfl)).imp fun D σ H h => mk_read oC hno ?_
  obtain ⟨Fo, Tm, ι, ω, st0, R, hh⟩ := h
  have hh : Fut E Wx anyS Fo Tm ι ω σ H st0 ((evE C te >>= fun h => EV.esc h >>= fun h => chk (xarg k h.1) >>= fun _ => (fun s => .exc ⟨cs, [f], [h.1]⟩ s : M Fl)) st0) (GS E Fo Tm D) := hh
  refine nextE1 R hh trivial fun h v T2 ι2 ω2 H2 st2 g2' q2 hh => ?_
  obtain ⟨h', st3, e1, hh⟩ := hh.op (esc_nx h st2)
  obtain ⟨ω3, g3, is⟩ := g2'.esc q2 e1
  obtain ⟨hx, hh⟩ := hh.chk
  obtain ⟨h1, h2⟩ := xarg_is hx is
  refine ⟨h1, fun dx hdx => ?_⟩
  have gl : Go E Fo (orP noP Tm) ι2 ω3 σ H2 st3 noP ι2 ω3 σ (upd H2 dx (.xd [(f, v)])) st3 := Go.laidT g3.rel hdx
  have g4 := g3.trans gl
  exact hh _ ι2 ω3 σ _ (.ref A) (some dx) trivial g4 ⟨A, rfl, hA, .inr ⟨by simp, dx, [v], rfl, upd_same, rfl, v, [], rfl, h2 _ _ _, rfl⟩⟩
end
/-! ### exceptions as values -/
section
variable {X : Cx} {pins : List (Addr × Obj)} {σ : L2.St} {H' : Hp} {sI s' : Shared}
theorem keep_new {a D : Addr} {oe : Obj} {d : Option Addr} (J : Inv X pins σ H' sI) (k : ∀ b o, sI.heap.get? b = some o → s'.heap.get? b = some o) (ha : sI.heap.get? a = none) (hn : H' a = none) (os : s'.os = sI.os) (ag : AllBare s'.gens)
    (hget : s'.heap.get? a = some oe) (hz : Zc (.ref D) d oe) (hd : ∃ fv, oe.data = .fields fv) : Inv X pins σ (upd H' a (exv a D d)) s' := by
  obtain ⟨fv, hd⟩ := hd
  have ne : ∀ {b : Addr} {o : Obj}, sI.heap.get? b = some o → b ≠ a := fun e z => by rw [z, ha] at e; cases e
  have ne' : ∀ {b : Addr} {u : HO}, H' b = some u → b ≠ a := fun e z => by rw [z, hn] at e; cases e
  refine J.call' (ch := []) os ⟨fun b o q _ _ _ => k b o q, fun b o q _ _ _ => ⟨o.slots, k b o q⟩, fun b o q n _ => ?_, fun b o q _ => ⟨o, k b o q⟩, fun b xs q => ?_, fun b o u q => ?_, fun b ps q => ⟨#[], ?_⟩⟩ (fun b ob e => ?_) ag (fun _ z => nomatch z)
  · rw [upd_ne (ne q)]; exact n
  · rw [upd_ne (ne' q)]; exact q
  · rw [upd_ne (ne' q)]; exact q
  · rw [upd_ne (ne' q), q]; simp
  · by_cases hb : b = a
    · subst hb
      rw [upd_same] at e
      cases e
      exact ⟨⟨oe, fv, hget, hz, hd⟩, ⟨oe, hget⟩, fun h1 h2 ⟨o1, f1, e1, z1, v1⟩ kk => ⟨o1, f1, kk _ e1, z1, v1⟩⟩
    · rw [upd_ne hb] at e
      refine ((J.hok.kept k) b ob e).stay (fun c u _ z => z) (fun c z => ?_) fun c xs z => ?_
      · rw [upd_ne (ne' z)]; exact z
      · rw [upd_ne (ne' z)]; exact z
theorem pe_of_mk {X : Cx} {e : Expr} {t : L2.St → Hp → XK → Prop} (h : PMk X e t) : PE X e (fun σ H Q => t σ H fun cls d H' => ∃ D, cls = .ref D ∧ ∀ a, H' a = none → Q (.ref a) (upd H' a (exv a D d))) := by
  refine ⟨fun pins s σ H Q I hq => thn (h pins s σ H _ I hq) fun u s' ⟨a, oe, vs, sI, H', cls, d, eu, J, k, ha, hg, hz, hd, _, hn, os, ag, _, D, ec, q⟩ => ?_⟩
  subst eu ec
  exact ⟨.ref a, _, keep_new J k ha hn os ag hg hz ⟨vs, hd⟩, rfl, q a hn⟩
end
section
variable {X : Cx} {C : Cfg} {E : Env} {Wx : WX} {c : SC} {x f : Str} {cs : List Str} {k : Bool} {e : Expr} {te : TE} {p pos : Pos}
theorem s_exc0 (xr : XrOk E X.K X.mg x cs) (hg : Gl X x) : PE X (.Call (.Name x p) [] [] pos) (tE C E Wx (.exc0 cs)) := by
  obtain ⟨A, bmB, B, newId, initId, F, q, gC, kC, h1, h2, hA⟩ := xr.ex
  refine (pe_of_mk (mk_own0 F q gC kC (raises_own h1 h2) hg xr.db)).imp fun σ H Q ⟨Fo, Tm, ι, ω, st, R, hh⟩ => ⟨A, rfl, fun a ha => ?_⟩
  have hh : Fut E Wx (· = σ) Fo Tm ι ω σ H st ((M.pure (.exn cs [] [], false) : M Hd) st) (GE E Fo Tm σ Q) := hh
  have g : Go E Fo Tm ι ω σ H st noP ι ω σ (upd H a (exv a A none)) st := Go.laidT R ha
  exact hh.pure_use rfl g (.ref a) (Hk.sh ⟨a, A, none, rfl, upd_same, hA, .inl ⟨rfl, rfl, rfl⟩⟩ (.inl rfl))
theorem s_exc1 (xm : XmOk E X.K X.mg x cs f k) (hg : Gl X x) (hr : Room 2 X.A) (hn : noStar e = true) (he : PE X e (tE C E Wx te)) : PE X (.Call (.Name x p) [e] [] pos) (tE C E Wx (.exc1 cs f k te)) := by
  obtain ⟨A, fI, T, mc, fd, st, qual, t, r, oC, iC, tI, F, hB, S, hb, gC, gT, cr, vV, hno, hA, g1, g2, ms, n1, n2⟩ := xm.ex
  have F1 := init_fn (P := X.prog) (w := X.w) (base := X.base) F S hb gT cr vV g1 g2 ms n1 n2
  refine (pe_of_mk (pmk_oex oC iC tI F1 hr hB .nil C8.pass0 hg gC (pa_cons he pa_nil (star_cons hn)) xm.db (star_cons hn) rfl)).imp fun σ H Q h => mk_read oC hno ?_
  obtain ⟨Fo, Tm, ι, ω, st0, R, hh⟩ := h
  have hh : Fut E Wx (· = σ) Fo Tm ι ω σ H st0 ((evE C te >>= fun h => EV.esc h >>= fun h => chk (xarg k h.1) >>= fun _ => (M.pure (.exn cs [f] [h.1], false) : M Hd)) st0) (GE E Fo Tm σ Q) := hh
  refine nextE1 R hh rfl fun h v T2 ι2 ω2 H2 st2 g2' q2 hh => ?_
  obtain ⟨h', st3, e1, hh⟩ := hh.op (esc_nx h st2)
  obtain ⟨ω3, g3, is⟩ := g2'.esc q2 e1
  obtain ⟨hx, hh⟩ := hh.chk
  obtain ⟨h1, h2⟩ := xarg_is hx is
  refine ⟨h1, fun dx hdx => ⟨A, rfl, fun a ha => ?_⟩⟩
  have gl : Go E Fo (orP noP Tm) ι2 ω3 σ H2 st3 noP ι2 ω3 σ (upd H2 dx (.xd [(f, v)])) st3 := Go.laidT g3.rel hdx
  have g4 := g3.trans gl
  have gl2 : Go E Fo (orP (orP noP noP) Tm) ι2 ω3 σ (upd H2 dx (.xd [(f, v)])) st3 noP ι2 ω3 σ (upd (upd H2 dx (.xd [(f, v)])) a (exv a A (some dx))) st3 := Go.laidT g4.rel ha
  have g5 := g4.trans gl2
  have hne : dx ≠ a := fun z => by subst z; rw [upd_same] at ha; cases ha
  have e0 : orP noP (orP noP noP) = noP := by rw [orP_no, orP_no]
  rw [e0] at g5
  have is : Is E (upd (upd H2 dx (.xd [(f, v)])) a (exv a A (some dx))) (FF Fo (orP noP Tm) ι2 ω3) ι2 (.exn cs [f] [h'.1]) (.ref a) :=
    ⟨a, A, some dx, rfl, upd_same, hA, .inr ⟨by simp, dx, [v], rfl, by rw [upd_ne hne, upd_same]; rfl, rfl, v, [], rfl, h2 _ _ _, rfl⟩⟩
  exact hh.pure_use rfl g5 (.ref a) (Hk.sh is (.inl rfl))
end
/-- a class that is made: as its name is kept -/
def XcOk (E : Env) (K : PySem.W.Frag) (mg : Str → Option Value) (x : Str) (c : List Str × Option (Str × Bool)) : Prop := match c.2 with
  | none => XrOk E K mg x c.1
  | some fk => XmOk E K mg x c.1 fk.1 fk.2
end EV

set_option autoImplicit false
set_option linter.all false
set_option maxRecDepth 10000
namespace EV
open PySem L2 PyProof.Rows

/-! ### the context with its callees -/
structure Ctx (X : Cx) (CX : CXT) (E : Env) (P : Prog) (k : Nat) (Wx : WX) (c : SC) : Prop where
  good : Good X (cfg P k) E Wx c
  fo : FldOk E X P.flds
  room : Room (2 * k + 3) X.A
  pas : ∀ σ, PassesAt CX X σ (WE Wx σ)
  fns : ∀ f, c.fns.contains f = true → ∃ d fa fd ps, P.defs f = some d ∧ FnAt X CX E P k f d fa fd ps ∧ X.mg f = some (.ref fa) ∧ PySem.W.keepIn X.K (.ref fa) = true
  clss : ∀ f, c.clss.contains f = true → ∃ d CA fa fd ps, P.defs f = some d ∧ FnAt X CX E P k f d fa fd ps ∧ Mk X.K CA fa ∧ E.cls f = some CA ∧ X.mg f = some (.ref CA)
  mths : ∀ m, c.meths.contains m = true → ∃ cn CA d fa fd ps, E.cls cn = some CA ∧ P.flds cn (dotS m) = true ∧ (∀ c' CA', E.cls c' = some CA' → P.flds c' (dotS m) = true → CA' = CA) ∧ P.defs (dotS m) = some d ∧ FnAt X CX E P k (dotS m) d fa fd ps ∧ L2.Cls X.K CA ∧ Meth X.K CA m fa
  tk : Takes X Wx
  top : c.top = true → X.stack = X.env :: X.outer ∧ X.env.frame = some X.env.locals ∧ X.ex = []
  xcs : ∀ x cs, c.xcs.lookup x = some cs → XcOk E X.K X.mg x cs
  cxe : CX = L2.CX X.prog X.w
/-- a block's text -/
def SC.blk (c : SC) (scope : Scope) : SC := { c with sc := relC scope c.sc, st := scope, prom := fun _ => false, top := false }
theorem Good.blk {X : Cx} {C : Cfg} {E : Env} {Wx : WX} {c : SC} (g : Good X C E Wx c) (scope : Scope) (s : Shared) (H : Hp) (C' : Addr) (cl : List (Str × Addr)) (fp : List Addr) :
    Good (X.blk s H scope (compEnvC scope cl C' X.env) fp) C E noX (c.blk scope) := by
  have hsc : (X.blk s H scope (compEnvC scope cl C' X.env) fp).env.scope = relS scope c.sc := by rw [← g.sc]; rfl
  refine ⟨⟨g.env.K, g.env.kd, g.env.xc, g.env.xt⟩, g.N, g.nd, hsc, g.calm, g.hu, PassesOwn.never, fun x hx => ?_, g.glob, g.blt, g.xty⟩
  have hx : locC scope x = true := hx
  rw [hsc]
  unfold locC at hx
  split at hx
  · rename_i e
    have := lookup_relS_keep (sc := c.sc) (k := .local) (by decide) e
    exact ⟨.inl this, .inr this⟩
  · rename_i e
    have := lookup_relS_keep (sc := c.sc) (k := .cell) (by decide) e
    refine ⟨.inr this, .inl ?_⟩
    show (scope.names.lookup x == some .cell) = true
    rw [e]
    rfl
  · cases hx
theorem Ctx.blk {X : Cx} {CX : CXT} {E : Env} {P : Prog} {k : Nat} {Wx : WX} {c : SC} (g : Ctx X CX E P k Wx c) (pasN : ∀ (Y : Cx) (σ : L2.St), PassesAt CX Y σ (WE noX σ)) (scope : Scope) (s : Shared) (H : Hp) (C' : Addr) (cl : List (Str × Addr)) (fp : List Addr) :
    Ctx (X.blk s H scope (compEnvC scope cl C' X.env) fp) CX E P k noX (c.blk scope) :=
  ⟨g.good.blk scope s H C' cl fp, ⟨g.fo.get, g.fo.xf⟩, g.room, fun σ => pasN _ σ, fun f hf => by
    obtain ⟨d, fa, fd, ps, h1, h2, h3, h4⟩ := g.fns f hf
    exact ⟨d, fa, fd, ps, h1, ⟨h2.len, h2.ok, h2.bind⟩, h3, h4⟩, fun f hf => by
    obtain ⟨d, CA, fa, fd, ps, h1, h2, h3, h4, h5⟩ := g.clss f hf
    exact ⟨d, CA, fa, fd, ps, h1, ⟨h2.len, h2.ok, h2.bind⟩, h3, h4, h5⟩, fun m hm => by
    obtain ⟨cn, CA, d, fa, fd, ps, h1, h2, h3, h4, h5, h6, h7⟩ := g.mths m hm
    exact ⟨cn, CA, d, fa, fd, ps, h1, h2, h3, h4, ⟨h5.len, h5.ok, h5.bind⟩, h6, h7⟩, fun u s' ⟨_, _, _, _, _, _, _, _, _, _, _, _, _, _, _, _, w⟩ => w.elim, fun h => (nomatch h), g.xcs, g.cxe⟩
/-- the text of a try's body -/
theorem Ctx.tr {X : Cx} {CX : CXT} {E : Env} {P : Prog} {k : Nat} {Wx : WX} {c : SC} (g : Ctx X CX E P k Wx c) {W : WX} {pn : List (Addr × Obj)} {xe : Value → Shared → Prop} (tk : Takes (X.tr pn xe) W) (hp : PassesOwn (model X.prog X.w) X.A X.env xe) :
    Ctx (X.tr pn xe) CX E P k W c :=
  ⟨⟨⟨g.good.env.K, g.good.env.kd, g.good.env.xc, g.good.env.xt⟩, g.good.N, g.good.nd, g.good.sc, g.good.calm, g.good.hu, hp, g.good.fn, g.good.glob, g.good.blt, g.good.xty⟩, ⟨g.fo.get, g.fo.xf⟩, g.room, fun σ => by rw [g.cxe]; exact passAt tk σ, fun f hf => by
    obtain ⟨d, fa, fd, ps, h1, h2, h3, h4⟩ := g.fns f hf
    exact ⟨d, fa, fd, ps, h1, ⟨h2.len, h2.ok, h2.bind⟩, h3, h4⟩, fun f hf => by
    obtain ⟨d, CA, fa, fd, ps, h1, h2, h3, h4, h5⟩ := g.clss f hf
    exact ⟨d, CA, fa, fd, ps, h1, ⟨h2.len, h2.ok, h2.bind⟩, h3, h4, h5⟩, fun m hm => by
    obtain ⟨cn, CA, d, fa, fd, ps, h1, h2, h3, h4, h5, h6, h7⟩ := g.mths m hm
    exact ⟨cn, CA, d, fa, fd, ps, h1, h2, h3, h4, ⟨h5.len, h5.ok, h5.bind⟩, h6, h7⟩, tk, g.top, g.xcs, g.cxe⟩
end EV

set_option autoImplicit false
set_option linter.all false
set_option maxRecDepth 10000
namespace EV
open PySem L2 PyProof.Rows

/-! ### the given text as terms, where the rules serve it -/
def kName (c : SC) (x : Str) : Option TE :=
  if okName x = true then
    if visC c.sc x = true then (c.N.findIdx? (· == x)).map .slot else if isGlob c x = true then some (.glob x) else none
  else none
/-- a built-in's name stands for it -/
def bltC (c : SC) (x : Str) : Bool := globC c.sc x && !c.fns.contains x && !c.clss.contains x
def kTy (c : SC) : Expr → Option Ty
  | .Name x _ => if bltC c x = true ∧ (tyOf x).isSome = true then tyOf x else if globC c.sc x = true ∧ c.xty.contains x = true then some (.cls x) else none
  | _ => none
def kTys (c : SC) : List Expr → Option (List Ty)
  | [] => some []
  | e :: es => (kTy c e).bind fun t => (kTys c es).bind fun ts => some (t :: ts)
def kTyE (c : SC) : Expr → Option (List Ty)
  | .Name x p => (kTy c (.Name x p)).map fun t => [t]
  | .Tuple es _ _ => (kTys c es).bind fun ts => if ts.length ≤ 1000 ∧ ts ≠ [] then some ts else none
  | _ => none
def bmOf (f : Str) (n : Nat) : Option BM := bmAll.find? fun o => decide (bmNm o = (f, n))
/-- what a loop, a block stores -/
def kG1 (c : SC) : Expr → Option TG
  | .Name x _ => if locC c.st x = true then (c.N.findIdx? (· == x)).map fun i => .slot i (c.prom x) else none
  | _ => none
def kGs (c : SC) : List Expr → Option (List TG)
  | [] => some []
  | e :: es => (kG1 c e).bind fun t => (kGs c es).bind fun ts => some (t :: ts)
def kG (c : SC) : Expr → Option TG
  | .Name x p => kG1 c (.Name x p)
  | .Tuple es _ _ => (kGs c es).map .tup
  | _ => none
def isLC : Expr → Bool
  | .ListComp .. => true
  | _ => false
def isTup : Expr → Bool
  | .Tuple .. => true
  | _ => false
def notSet : Expr → Bool
  | .Set .. => false
  | _ => true
def Tupl : TG → Bool
  | .tup _ => true
  | _ => false
mutual
def kE : Nat → SC → Expr → Option TE
  | 0, _, _ => none
  | n + 1, c, e => match e with
    | .Constant k _ _ => (constD k).map .con
    | .Name x _ => kName c x
    | .BinOp a o b _ => (bopOf o).bind fun o => (kE n c a).bind fun a => (kE n c b).bind fun b => some (.bin o a b)
    | .UnaryOp o a _ => match o with
      | .USub => (kE n c a).map .neg
      | .Not => (kE n c a).map .not
      | _ => none
    | .BoolOp o es _ => kBool n c o es
    | .Compare a os bs _ => kCmp n c a os bs
    | .IfExp t a b _ => (kE n c t).bind fun t => (kE n c a).bind fun a => (kE n c b).bind fun b => some (.ite t a b)
    | .Tuple es _ _ => (kL n c es).map .tup
    | .List es _ => (kL n c es).map .lst
    | .Dict ks vs _ => if ks.length ≤ 15 then (kD n c ks vs).map .dic else none
    | .Subscript a b _ => kSub n c a b
    | .Attribute a f _ => if noCall0 a = true then (kE n c a).map fun a => .fld a f else none
    | .Call f args kws p => if kws.isEmpty = true then kCall n c f args p else none
    | .ListComp elt gens scope _ => kComp n c elt gens scope
    | _ => none
def kBool : Nat → SC → BoolOp → List Expr → Option TE
  | 0, _, _, _ => none
  | n + 1, c, o, es => match es with
    | [] => none
    | a :: es => match es with
      | [] => kE n c a
      | b :: es => (kE n c a).bind fun a => (kBool n c o (b :: es)).bind fun r => match o with
        | .And => some (.and a r)
        | .Or => some (.or a r)
def kCmp : Nat → SC → Expr → List CmpOp → List Expr → Option TE
  | 0, _, _, _, _ => none
  | n + 1, c, a, os, bs => match os, bs with
    | [o], [b] => if behindInMarks o b = false then (kE n c a).bind fun a => (kE n c b).bind fun b => some (.cmp (copOf o) a b) else none
    | [o, p], [b, d] => if lastMarks [o, p] [b, d] = false then (kE n c a).bind fun a => (kE n c b).bind fun b => (kE n c d).bind fun d => some (.chain (copOf o) (copOf p) a b d) else none
    | [o, p, q], [b, d, f] => if lastMarks [o, p, q] [b, d, f] = false then (kE n c a).bind fun a => (kE n c b).bind fun b => (kE n c d).bind fun d => (kE n c f).bind fun f => some (.chain3 (copOf o) (copOf p) (copOf q) a b d f) else none
    | _, _ => none
def kSub : Nat → SC → Expr → Expr → Option TE
  | 0, _, _, _ => none
  | n + 1, c, a, b => match b with
    | .Slice lo hi st _ => match st with
      | none => (kE n c a).bind fun a => (kO n c lo).bind fun lo => (kO n c hi).bind fun hi => some (.sli a lo hi)
      | some _ => none
    | b => (kE n c a).bind fun a => (kE n c b).bind fun b => some (.idx a b)
def kCall : Nat → SC → Expr → List Expr → Pos → Option TE
  | 0, _, _, _, _ => none
  | n + 1, c, f, args, cpos => match f with
    | .Name f _ =>
      if globC c.sc f = true then
        if c.fns.contains f = true then (if okName f = true then (kL n c args).map (.call f) else none)
        else if c.clss.contains f = true then (if okName f = true then (kL n c args).map (.make f) else none)
        else if (c.xcs.lookup f).isSome = true then kExc n c (c.xcs.lookup f) args
        else if f = "isinstance" then kIsi n c args
        else if f = "list" then kList n c args
        else match args with
          | [] => none
          | e :: es => (bltOf f (e :: es).length).bind fun o => (kL n c (e :: es)).map (.blt o)
      else none
    | .Attribute a m apos =>
      if m = "replace" then (match args with
        | [.Constant (.str y) _ _, .Constant (.str z) _ _] => if headT a = true ∧ (y == z) = false ∧ noCall0 a = true ∧ (apos.endLine == cpos.line) = true then (kE n c a).map fun a => .bm .replace2 a (.cons (.con (.str y)) (.cons (.con (.str z)) .nil)) else none
        | _ => none)
      else if c.meths.contains m = true then
        if noCall0 a = true ∧ (apos.endLine == cpos.line) = true ∧ args.length < 20 then (kE n c a).bind fun a => (kL n c args).map (.meth a (dotS m)) else none
      else if c.meths.contains m = false ∧ noCall0 a = true ∧ (apos.endLine == cpos.line) = true ∧ args.length < 20 then
        (bmOf m args.length).bind fun b => (kE n c a).bind fun a => (kL n c args).map (.bm b a)
      else none
    | _ => none
def kExc : Nat → SC → Option (List Str × Option (Str × Bool)) → List Expr → Option TE
  | 0, _, _, _ => none
  | n + 1, c, x, args => match x, args with
    | some (cs, none), [] => some (.exc0 cs)
    | some (cs, some (f, k)), [e] => (kE n c e).map (.exc1 cs f k)
    | _, _ => none
def kIsi : Nat → SC → List Expr → Option TE
  | 0, _, _ => none
  | n + 1, c, args => match args with
    | [a, t] => (kE n c a).bind fun a => (kTyE c t).map (.isi a)
    | _ => none
def kList : Nat → SC → List Expr → Option TE
  | 0, _, _ => none
  | n + 1, c, args => match args with
    | [.Call (.Name g _) [e] [] _] => if g = "reversed" ∧ bltC c g = true then (kE n c e).map fun e => .blt .listrev (.cons e .nil) else (kL n c args).map (.blt .list)
    | [_] => (kL n c args).map (.blt .list)
    | _ => none
def kComp : Nat → SC → Expr → List Comprehension → Scope → Option TE
  | 0, _, _, _, _ => none
  | n + 1, c, elt, gens, scope => match gens with
    | [⟨tg, iter, ifs, 0⟩] =>
      if blkC c.N c.sc scope (ownOf c.N scope) = true ∧ notSet iter = true ∧ ifs.length ≤ 1 then
        (kI n c tg iter).bind fun src => (kG (c.blk scope) tg).bind fun g => (kL n (c.blk scope) ifs).bind fun ifs => (kE n (c.blk scope) elt).bind fun elt =>
          if (slotsG g).all (fun j => (ownOf c.N scope).any fun p => p.2 == j) = true then some (.comp elt g src ifs ((ownOf c.N scope).map (·.2))) else none
      else none
    | _ => none
def kL : Nat → SC → List Expr → Option TL
  | 0, _, _ => none
  | n + 1, c, es => match es with
    | [] => some .nil
    | a :: es => (kE n c a).bind fun a => (kL n c es).bind fun l => some (.cons a l)
def kD : Nat → SC → List (Option Expr) → List Expr → Option TL
  | 0, _, _, _ => none
  | n + 1, c, ks, vs => match ks, vs with
    | [], [] => some .nil
    | some k :: ks, v :: vs => (kE n c k).bind fun k => (kE n c v).bind fun v => (kD n c ks vs).bind fun l => some (.cons k (.cons v l))
    | _, _ => none
def kO : Nat → SC → Option Expr → Option TO
  | 0, _, _ => none
  | n + 1, c, o => match o with
    | none => some .none
    | some a => (kE n c a).map .some
/-- what a loop walks; its target -/
def kI : Nat → SC → Expr → Expr → Option TI
  | 0, _, _, _ => none
  | n + 1, c, tg, e => match e with
    | .Call (.Name f p) args [] q =>
      if bltC c f = true ∧ f = "range" then (match args with
        | [a] => (kE n c a).map fun a => .range (.cons a .nil)
        | [a, b] => (kE n c a).bind fun a => (kE n c b).map fun b => .range (.cons a (.cons b .nil))
        | [a, b, d] => (kE n c a).bind fun a => (kE n c b).bind fun b => (kE n c d).map fun d => .range (.cons a (.cons b (.cons d .nil)))
        | _ => none)
      else if bltC c f = true ∧ f = "enumerate" then (match args with
        | [a] => if isTup tg = true then (kE n c a).map .enum else none
        | _ => none)
      else if bltC c f = true ∧ f = "reversed" then (match args with
        | [a] => (kE n c a).map .rev
        | _ => none)
      else if bltC c f = true ∧ f = "zip" then (match args with
        | [a, b] => if isTup tg = true then (kE n c a).bind fun a => (kE n c b).bind fun b => some (.zip a b) else none
        | _ => none)
      else (kE n c (.Call (.Name f p) args [] q)).map .val
    | e => (kE n c e).map .val
end
/-- a comprehension told to a name: its swap -/
def swC (sc scope : Scope) (y : Str) (py lp : Pos) : Bool :=
  (if sc.kind.isAnnotationScope then ScopeKind.function else sc.kind) == .function && sc.names.lookup y == some .local && py.line == lp.line && !(scope.names.any fun (n, k) => n == y && (k == .local || k == .cell))
def isAttr : Expr → Bool
  | .Attribute .. => true
  | _ => false
/-- a statement that the evaluator does not serve: it gets stuck there -/
def badS : TS := .expr (.neg (.con .non))
def isTxt : Expr → Bool
  | .Constant (.str _) _ _ => true
  | _ => false
def kRaise1 (n : Nat) (c : SC) : Expr → TS
  | .Call (.Name x _) [] [] _ => if globC c.sc x = true then (match c.xcs.lookup x with | some (cs, none) => .raise cs | _ => badS) else badS
  | .Call (.Name x _) [e] [] _ => if globC c.sc x = true then (match c.xcs.lookup x with
    | some (cs, none) => if isTxt e = true then .raise cs else badS
    | some (cs, some (f, k)) => (match kE n c e with
      | some te => .raise1 cs f k te
      | none => badS)
    | none => badS) else badS
  | _ => badS
def kRaise (n : Nat) (c : SC) : Option Expr → Option Expr → TS
  | some e, none => kRaise1 n c e
  | _, _ => badS
def tryOk (c : SC) (x y z y' : Str) : Bool := c.top && (decide (y' = y) && (globC c.sc x && (c.xty.contains x && (locC c.st z && (decide (c.sc.names.lookup y = some .local) && (!(y == ("__debug__" : Str)) && !(y == ("__classdict__" : Str))))))))
def kTryH1 (c : SC) : ExceptHandler → Option (Str × Nat × Nat)
  | .ExceptHandler (some (.Name x _)) (some y) [.Assign [.Name z _] (.Name y' _) _] _ => if tryOk c x y z y' = true then (c.N.findIdx? (· == y)).bind fun i => (c.N.findIdx? (· == z)).bind fun j => some (x, i, j) else none
  | _ => none
def kTryH (c : SC) : List ExceptHandler → Option (Str × Nat × Nat)
  | [h] => kTryH1 c h
  | _ => none
mutual
def kS : Nat → SC → Stmt → Option TS
  | 0, _, _ => none
  | n + 1, c, s => match s with
    | .Assign ts e _ => (match ts with
      | [tg] => kAsg n c tg e
      | _ => none)
    | .AugAssign t op e _ => (match t with
      | .Attribute o f _ => (bopOf op).bind fun op => (kE n c o).bind fun o => (kE n c e).bind fun e => some (.augattr o f op e)
      | _ => none)
    | .Expr e _ => if isLC e = false then (kE n c e).map .expr else none
    | .Return oe _ => (match oe with
      | some e => (kE n c e).map .ret
      | none => some .retn)
    | .If t a b _ => (kE n c t).bind fun t => (kB n c a).bind fun a => (kB n c b).bind fun b => some (.ite t a b)
    | .For tg iter b els _ => if els.isEmpty = true ∧ notSet iter = true then (kG c tg).bind fun g => (kI n c tg iter).bind fun src => (kB n c b).bind fun b => some (.for_ g src b) else none
    | .While t b els _ => if els.isEmpty = true then (kE n c t).bind fun t => (kB n c b).bind fun b => some (.while_ t b) else none
    | .Break _ => some .brk
    | .Continue _ => some .cont
    | .Pass _ => some .pass
    | .Raise a b _ => some (kRaise n c a b)
    | .Try body hs els fin _ => if els.isEmpty = true ∧ fin.isEmpty = true then (kTryH c hs).bind fun r => (kB n c body).bind fun b => some (.try_ b r.1 r.2.1 r.2.2) else none
    | _ => none
def kAsg : Nat → SC → Expr → Expr → Option TS
  | 0, _, _, _ => none
  | n + 1, c, tg, e => match tg with
    | .Name x p => (match e with
      | .ListComp elt gens scope lp => (kG1 c (.Name x p)).bind fun g => (kComp n c elt gens scope).map fun te => .asg g te
      | e => (kG1 c (.Name x p)).bind fun g => (kE n c e).map fun te => .asg g te)
    | .Tuple es k p => if isTup e = false then (kG c (.Tuple es k p)).bind fun g => (kE n c e).map fun te => .asg g te else none
    | .Subscript o i _ => if noSlice i = true then (kE n c o).bind fun o => (kE n c i).bind fun i => (kE n c e).bind fun e => some (.sub o i e) else none
    | .Attribute o f _ => (kE n c o).bind fun o => (kE n c e).bind fun e => some (.attr o f e)
    | _ => none
def kB : Nat → SC → List Stmt → Option TB
  | 0, _, _ => none
  | n + 1, c, ss => match ss with
    | [] => some .nil
    | s :: ss => (kS n c s).bind fun s => (kB n c ss).bind fun b => some (.cons s b)
end
end EV

set_option autoImplicit false
set_option linter.all false
set_option maxRecDepth 10000
namespace EV
open PySem L2 PyProof.Rows

/-! ### the rules serve what is compiled: expressions -/
def Plain (C : Cfg) (te : TE) : Prop := evT C te = (evE C te >>= fun h => EV.peek h >>= fun x => liftO (truth x))
structure SE (CX : CXT) (E : Env) (P : Prog) (k n : Nat) : Prop where
  e : ∀ {X : Cx} {Wx : WX} {c : SC}, Ctx X CX E P k Wx c → ∀ {e : Expr} {te : TE}, kE n c e = some te → PE X e (tE (cfg P k) E Wx te) ∧ PT X e (tT (cfg P k) E Wx te) ∧ noStar e = true ∧ noSlice e = true
  bool : ∀ {X : Cx} {Wx : WX} {c : SC}, Ctx X CX E P k Wx c → ∀ {o : BoolOp} {es : List Expr} {te : TE} {pos : Pos}, kBool n c o es = some te → PE X (.BoolOp o es pos) (tE (cfg P k) E Wx te) ∧ PW X (.BoolOp o es pos) (tT (cfg P k) E Wx te)
  cmp : ∀ {X : Cx} {Wx : WX} {c : SC}, Ctx X CX E P k Wx c → ∀ {a : Expr} {os : List CmpOp} {bs : List Expr} {te : TE} {pos : Pos}, kCmp n c a os bs = some te → PE X (.Compare a os bs pos) (tE (cfg P k) E Wx te) ∧ PT X (.Compare a os bs pos) (tT (cfg P k) E Wx te)
  sub : ∀ {X : Cx} {Wx : WX} {c : SC}, Ctx X CX E P k Wx c → ∀ {a b : Expr} {te : TE} {pos : Pos}, kSub n c a b = some te → PE X (.Subscript a b pos) (tE (cfg P k) E Wx te) ∧ Plain (cfg P k) te
  call : ∀ {X : Cx} {Wx : WX} {c : SC}, Ctx X CX E P k Wx c → ∀ {f : Expr} {args : List Expr} {te : TE} {pos : Pos}, kCall n c f args pos = some te → PE X (.Call f args [] pos) (tE (cfg P k) E Wx te) ∧ Plain (cfg P k) te
  exc : ∀ {X : Cx} {Wx : WX} {c : SC}, Ctx X CX E P k Wx c → ∀ {f : Str} {args : List Expr} {te : TE} {p pos : Pos}, globC c.sc f = true → (c.xcs.lookup f).isSome = true → kExc n c (c.xcs.lookup f) args = some te → PE X (.Call (.Name f p) args [] pos) (tE (cfg P k) E Wx te) ∧ Plain (cfg P k) te
  isi : ∀ {X : Cx} {Wx : WX} {c : SC}, Ctx X CX E P k Wx c → bltC c "isinstance" = true → ∀ {args : List Expr} {te : TE} {p pos : Pos}, kIsi n c args = some te → PE X (.Call (.Name "isinstance" p) args [] pos) (tE (cfg P k) E Wx te) ∧ Plain (cfg P k) te
  list : ∀ {X : Cx} {Wx : WX} {c : SC}, Ctx X CX E P k Wx c → bltC c "list" = true → ∀ {args : List Expr} {te : TE} {p pos : Pos}, kList n c args = some te → PE X (.Call (.Name "list" p) args [] pos) (tE (cfg P k) E Wx te) ∧ Plain (cfg P k) te
  comp : ∀ {X : Cx} {Wx : WX} {c : SC}, Ctx X CX E P k Wx c → ∀ {elt : Expr} {gens : List Comprehension} {scope : Scope} {te : TE} {pos : Pos}, kComp n c elt gens scope = some te → PE X (.ListComp elt gens scope pos) (tE (cfg P k) E Wx te) ∧ Plain (cfg P k) te
  l : ∀ {X : Cx} {Wx : WX} {c : SC}, Ctx X CX E P k Wx c → ∀ {es : List Expr} {tl : TL}, kL n c es = some tl → PA X es (tL (cfg P k) E Wx tl) ∧ PA X es (tH (cfg P k) E Wx tl) ∧ (∀ f j, PA X es (tAr (cfg P k) E Wx f j tl)) ∧ es.all noStar = true ∧ tl.len = es.length
  ts : ∀ {X : Cx} {Wx : WX} {c : SC}, Ctx X CX E P k Wx c → ∀ {es : List Expr} {tl : TL}, kL n c es = some tl → es.length ≤ 1 → PTs X es (tTs (cfg P k) E Wx tl)
  d : ∀ {X : Cx} {Wx : WX} {c : SC}, Ctx X CX E P k Wx c → ∀ {ks : List (Option Expr)} {vs : List Expr} {tl : TL} {pos : Pos}, kD n c ks vs = some tl → PPs X pos ks vs (pairsT (cfg P k) E Wx tl) ∧ ks.all (·.isSome) = true ∧ ks.length = vs.length ∧ (ks = [] → tl = .nil)
  o : ∀ {X : Cx} {Wx : WX} {c : SC}, Ctx X CX E P k Wx c → ∀ {oe : Option Expr} {t : TO}, kO n c oe = some t → PO X oe (tOb (cfg P k) E Wx t)
  i : ∀ {X : Cx} {Wx : WX} {c : SC}, Ctx X CX E P k Wx c → ∀ {tg e : Expr} {t : TI}, kI n c tg e = some t → PI X tg e (tI (cfg P k) E Wx t)
theorem SE.zero {CX : CXT} {E : Env} {P : Prog} {k : Nat} : SE CX E P k 0 := by
  constructor <;> intros <;> rename_i h <;> first
    | (cases h; done)
    | (rename_i h0; cases h0; done)
    | skip
section
variable {CX : CXT} {E : Env} {P : Prog} {k n : Nat} {X : Cx} {Wx : WX} {c : SC}
theorem kName_ok (g : Ctx X CX E P k Wx c) {x : Str} {te : TE} {pos : Pos} (h : kName c x = some te) : PE X (.Name x pos) (tE (cfg P k) E Wx te) ∧ Plain (cfg P k) te := by
  unfold kName at h
  split at h
  · rename_i hx
    split at h
    · rename_i hv
      obtain ⟨i, hi, e⟩ := Option.map_eq_some_iff.mp h
      subst e
      exact ⟨s_slot g.good hv hi hx, rfl⟩
    · split at h
      · rename_i hg
        cases h
        exact ⟨s_glob g.good hg hx, rfl⟩
      · cases h
  · cases h
theorem plainT (g : Ctx X CX E P k Wx c) {e : Expr} {te : TE} (h : PE X e (tE (cfg P k) E Wx te) ∧ Plain (cfg P k) te)
    (he : ∀ whole, isTrue e X.env whole = (do let v ← whole; standAt e.pos; holding [v] (truthy v))) (h1 : noStar e = true) (h2 : noSlice e = true) :
    PE X e (tE (cfg P k) E Wx te) ∧ PT X e (tT (cfg P k) E Wx te) ∧ noStar e = true ∧ noSlice e = true :=
  ⟨h.1, s_plainT g.good h.1 he h.2, h1, h2⟩
theorem se_e (ih : SE CX E P k n) (g : Ctx X CX E P k Wx c) {e : Expr} {te : TE} (h : kE (n + 1) c e = some te) :
    PE X e (tE (cfg P k) E Wx te) ∧ PT X e (tT (cfg P k) E Wx te) ∧ noStar e = true ∧ noSlice e = true := by
  cases e with
  | Constant d kk pos =>
    obtain ⟨d', e1, e2⟩ := Option.map_eq_some_iff.mp (show (constD d).map TE.con = some te from h)
    subst e2
    exact plainT g ⟨s_con d e1, rfl⟩ (fun _ => rfl) rfl rfl
  | Name x pos =>
    exact plainT g (kName_ok g (show kName c x = some te from h)) (fun _ => rfl) rfl rfl
  | BinOp a o b pos =>
    have h : ((bopOf o).bind fun o => (kE n c a).bind fun a => (kE n c b).bind fun b => some (.bin o a b)) = some te := h
    obtain ⟨o', e1, h⟩ := Option.bind_eq_some_iff.mp h
    obtain ⟨a', e2, h⟩ := Option.bind_eq_some_iff.mp h
    obtain ⟨b', e3, h⟩ := Option.bind_eq_some_iff.mp h
    cases h
    exact plainT g ⟨s_bin g.good o' e1 (ih.e g e2).1 (ih.e g e3).1, rfl⟩ (fun _ => rfl) rfl rfl
  | UnaryOp o a pos =>
    cases o with
    | USub =>
      obtain ⟨a', e2, h⟩ := Option.map_eq_some_iff.mp (show (kE n c a).map TE.neg = some te from h)
      subst h
      exact plainT g ⟨s_neg g.good (ih.e g e2).1, rfl⟩ (fun _ => rfl) rfl rfl
    | Not =>
      obtain ⟨a', e2, h⟩ := Option.map_eq_some_iff.mp (show (kE n c a).map TE.not = some te from h)
      subst h
      exact ⟨s_not g.good (ih.e g e2).1, s_notT (ih.e g e2).2.1, rfl, rfl⟩
    | _ => cases h
  | BoolOp o es pos =>
    obtain ⟨h1, h2⟩ := ih.bool g (pos := pos) (show kBool n c o es = some te from h)
    exact ⟨h1, h2.pt, rfl, rfl⟩
  | Compare a os bs pos =>
    obtain ⟨h1, h2⟩ := ih.cmp g (pos := pos) (show kCmp n c a os bs = some te from h)
    exact ⟨h1, h2, rfl, rfl⟩
  | IfExp t a b pos =>
    have h : ((kE n c t).bind fun t => (kE n c a).bind fun a => (kE n c b).bind fun b => some (.ite t a b)) = some te := h
    obtain ⟨o', e1, h⟩ := Option.bind_eq_some_iff.mp h
    obtain ⟨a', e2, h⟩ := Option.bind_eq_some_iff.mp h
    obtain ⟨b', e3, h⟩ := Option.bind_eq_some_iff.mp h
    cases h
    exact ⟨s_ite (ih.e g e1).2.1 (ih.e g e2).1 (ih.e g e3).1, s_iteT (ih.e g e1).2.1 (ih.e g e2).2.1 (ih.e g e3).2.1, rfl, rfl⟩
  | Tuple es kk pos =>
    obtain ⟨l, e1, h⟩ := Option.map_eq_some_iff.mp (show (kL n c es).map TE.tup = some te from h)
    subst h
    exact plainT g ⟨s_tup (ih.l g e1).1, rfl⟩ (fun _ => rfl) rfl rfl
  | List es pos =>
    obtain ⟨l, e1, h⟩ := Option.map_eq_some_iff.mp (show (kL n c es).map TE.lst = some te from h)
    subst h
    exact plainT g ⟨s_lst (ih.l g e1).1, rfl⟩ (fun _ => rfl) rfl rfl
  | Dict ks vs pos =>
    have h : (if ks.length ≤ 15 then (kD n c ks vs).map TE.dic else none) = some te := h
    split at h
    · rename_i h15
      obtain ⟨l, e1, h⟩ := Option.map_eq_some_iff.mp h
      subst h
      obtain ⟨p1, p2, p3, p4⟩ := ih.d g (pos := pos) e1
      cases ks with
      | nil =>
        cases vs with
        | cons _ _ => simp at p3
        | nil =>
          rw [p4 rfl]
          exact plainT g ⟨s_dic0, rfl⟩ (fun _ => rfl) rfl rfl
      | cons x y => exact plainT g ⟨s_dic p1 p2 p3 (by simp) h15, rfl⟩ (fun _ => rfl) rfl rfl
    · cases h
  | Subscript a b pos =>
    exact plainT g (ih.sub g (show kSub n c a b = some te from h)) (fun _ => rfl) rfl rfl
  | Attribute a f pos =>
    have h : (if noCall0 a = true then (kE n c a).map fun a => TE.fld a f else none) = some te := h
    split at h
    · rename_i hn
      obtain ⟨a', e1, h⟩ := Option.map_eq_some_iff.mp h
      subst h
      exact plainT g ⟨s_fld g.fo hn (ih.e g e1).1, rfl⟩ (fun _ => rfl) rfl rfl
    · cases h
  | Call f args kws pos =>
    have h : (if kws.isEmpty = true then kCall n c f args pos else none) = some te := h
    cases kws with
    | cons _ _ => cases h
    | nil => exact plainT g (ih.call g (show kCall n c f args pos = some te from h)) (fun _ => rfl) rfl rfl
  | ListComp elt gens scope pos =>
    exact plainT g (ih.comp g (show kComp n c elt gens scope = some te from h)) (fun _ => rfl) rfl rfl
  | _ => cases h
theorem se_bool (ih : SE CX E P k n) (g : Ctx X CX E P k Wx c) {o : BoolOp} {es : List Expr} {te : TE} {pos : Pos} (h : kBool (n + 1) c o es = some te) :
    PE X (.BoolOp o es pos) (tE (cfg P k) E Wx te) ∧ PW X (.BoolOp o es pos) (tT (cfg P k) E Wx te) := by
  match es, h with
  | [a], h =>
    have h : kE n c a = some te := h
    obtain ⟨h1, h2, _, _⟩ := ih.e g h
    refine ⟨pe_one h1, ?_⟩
    cases o with
    | And => exact pw_and1 h2
    | Or => exact pw_or1 h2
  | a :: b :: es, h =>
    have h : ((kE n c a).bind fun a => (kBool n c o (b :: es)).bind fun r => match o with
        | .And => some (.and a r)
        | .Or => some (.or a r)) = some te := h
    obtain ⟨a', e1, h⟩ := Option.bind_eq_some_iff.mp h
    obtain ⟨r', e2, h⟩ := Option.bind_eq_some_iff.mp h
    obtain ⟨h1, h2, _, _⟩ := ih.e g e1
    obtain ⟨h3, h4⟩ := ih.bool g (pos := pos) e2
    cases o with
    | And => cases h; exact ⟨s_and h1 h3, s_andT h2 h4⟩
    | Or => cases h; exact ⟨s_or h1 h3, s_orT h2 h4⟩
theorem chain_test (C : Cfg) (o p : COp) (a b d : TE) : evT C (.chain o p a b d) = (evE C a >>= fun h => evE C b >>= fun k => EV.peek h >>= fun x => EV.peek k >>= fun y => liftO (cmpop o x y) >>= fun r =>
    if r = true then evE C d >>= fun l => EV.peek k >>= fun y => EV.peek l >>= fun z => liftO (cmpop p y z) else (M.pure false : M Bool)) := by
  have e : evT C (.chain o p a b d) = ((evE C a >>= fun h => evE C b >>= fun k => EV.peek h >>= fun x => EV.peek k >>= fun y => liftO (cmpop o x y) >>= fun r =>
    (if r = true then evE C d >>= fun l => EV.peek k >>= fun y => EV.peek l >>= fun z => liftO (cmpop p y z) >>= fun r => (M.pure (D.bl r, false) : M Hd) else (M.pure (D.bl false, false) : M Hd))) >>= fun h => EV.peek h >>= fun x => liftO (truth x)) := rfl
  rw [e]
  simp only [M_assoc]
  congr 1; funext h; congr 1; funext k; congr 1; funext x; congr 1; funext y; congr 1; funext r
  cases r with
  | true => simp only [if_true, M_assoc, lift_test]
  | false => rfl
theorem s_chainT {C : Cfg} (g : Good X C E Wx c) {a b d : Expr} {ta tb tc : TE} {o p : CmpOp} {pos : Pos} (hm : lastMarks [o, p] [b, d] = false) (ha : PE X a (tE C E Wx ta)) (hb : PE X b (tE C E Wx tb)) (hd : PE X d (tE C E Wx tc)) :
    PT X (.Compare a [o, p] [b, d] pos) (tT C E Wx (.chain (copOf o) (copOf p) ta tb tc)) := by
  have ho := cmp_ok (X := X) g.env g.hu (copOf o)
  have ho' := cmp_ok (X := X) g.env g.hu (copOf p)
  rw [copP_of] at ho ho'
  refine (pt_chain ho ho' ha hb hd hm).imp fun σ H Q ⟨Fo, Tm, ι, ω, st, R, hh⟩ => ?_
  rw [chain_test] at hh
  refine next2E R hh rfl fun h x h' y T2 T3 ι3 ω3 H3 st3 g3 q2 q3 R3 hh => ?_
  obtain ⟨dx, px, hh⟩ := Fut.peek R3 q2 hh
  obtain ⟨dy, py, hh⟩ := Fut.peek R3 q3 hh
  obtain ⟨r, er, hh⟩ := hh.lift
  refine ⟨Fo, Tm, ι3, ω3, σ, st3, dx, dy, r, g3.rel0, px.dr.dr, py.dr.dr, er, r, rfl, ?_⟩
  cases r with
  | false => exact ⟨false, rfl, hh.pure_use rfl g3⟩
  | true =>
    rw [if_pos rfl] at hh
    refine nextE g3 hh rfl fun h4 z T4 ι4 ω4 H4 st4 g4' g4 q4 hh => ?_
    rw [orP_assoc] at g4'
    have q3' := q3.keep g4'.kp fun a z => g4'.same a (.inr (.inl z))
    obtain ⟨dy', py', hh⟩ := Fut.peek g4'.rel q3' hh
    rw [orP_assoc] at q4
    obtain ⟨dz, pz, hh⟩ := Fut.peek g4'.rel q4 hh
    obtain ⟨r2, er2, hh⟩ := hh.lift1
    exact ⟨Fo, Tm, ι4, ω4, σ, st4, dy', dz, r2, g4.rel0, py'.dr.dr.dr, pz.dr.dr.dr, er2, r2, rfl, hh.pure_use rfl g4⟩
theorem chain3_test (C : Cfg) (o p q : COp) (a b d f : TE) : evT C (.chain3 o p q a b d f) = (evE C a >>= fun h => evE C b >>= fun k => EV.peek h >>= fun x => EV.peek k >>= fun y => liftO (cmpop o x y) >>= fun r =>
    if r = true then evE C d >>= fun l => EV.peek k >>= fun y => EV.peek l >>= fun z => liftO (cmpop p y z) >>= fun r => if r = true then evE C f >>= fun m => EV.peek l >>= fun z => EV.peek m >>= fun u => liftO (cmpop q z u) else (M.pure false : M Bool) else (M.pure false : M Bool)) := by
  have e : evT C (.chain3 o p q a b d f) = ((evE C a >>= fun h => evE C b >>= fun k => EV.peek h >>= fun x => EV.peek k >>= fun y => liftO (cmpop o x y) >>= fun r =>
    (if r = true then evE C d >>= fun l => EV.peek k >>= fun y => EV.peek l >>= fun z => liftO (cmpop p y z) >>= fun r => (if r = true then evE C f >>= fun m => EV.peek l >>= fun z => EV.peek m >>= fun u => liftO (cmpop q z u) >>= fun r => (M.pure (D.bl r, false) : M Hd) else (M.pure (D.bl false, false) : M Hd)) else (M.pure (D.bl false, false) : M Hd))) >>= fun h => EV.peek h >>= fun x => liftO (truth x)) := rfl
  rw [e]
  simp only [M_assoc]
  congr 1; funext h; congr 1; funext k; congr 1; funext x; congr 1; funext y; congr 1; funext r
  cases r with
  | true =>
    simp only [if_true, M_assoc]
    congr 1; funext l; congr 1; funext y; congr 1; funext z; congr 1; funext r
    cases r with
    | true => simp only [if_true, M_assoc, lift_test]
    | false => rfl
  | false => rfl
theorem s_chain3T {C : Cfg} (g : Good X C E Wx c) {a b d f : Expr} {ta tb tc tf : TE} {o p q : CmpOp} {pos : Pos} (hm : lastMarks [o, p, q] [b, d, f] = false) (ha : PE X a (tE C E Wx ta)) (hb : PE X b (tE C E Wx tb)) (hd : PE X d (tE C E Wx tc)) (hf : PE X f (tE C E Wx tf)) :
    PT X (.Compare a [o, p, q] [b, d, f] pos) (tT C E Wx (.chain3 (copOf o) (copOf p) (copOf q) ta tb tc tf)) := by
  have ho := cmp_ok (X := X) g.env g.hu (copOf o)
  have ho' := cmp_ok (X := X) g.env g.hu (copOf p)
  have ho'' := cmp_ok (X := X) g.env g.hu (copOf q)
  rw [copP_of] at ho ho' ho''
  refine (pt_chain3 ho ho' ho'' ha hb hd hf hm).imp fun σ H Q ⟨Fo, Tm, ι, ω, st, R, hh⟩ => ?_
  rw [chain3_test] at hh
  refine next2E R hh rfl fun h x h' y T2 T3 ι3 ω3 H3 st3 g3 q2 q3 R3 hh => ?_
  obtain ⟨dx, px, hh⟩ := Fut.peek R3 q2 hh
  obtain ⟨dy, py, hh⟩ := Fut.peek R3 q3 hh
  obtain ⟨r, er, hh⟩ := hh.lift
  refine ⟨Fo, Tm, ι3, ω3, σ, st3, dx, dy, r, g3.rel0, px.dr.dr, py.dr.dr, er, r, rfl, ?_⟩
  cases r with
  | false => exact ⟨false, rfl, hh.pure_use rfl g3⟩
  | true =>
    rw [if_pos rfl] at hh
    refine nextE g3 hh rfl fun h4 z T4 ι4 ω4 H4 st4 g4' g4 q4 hh => ?_
    rw [orP_assoc] at g4'
    have q3' := q3.keep g4'.kp fun a z => g4'.same a (.inr (.inl z))
    obtain ⟨dy', py', hh⟩ := Fut.peek g4'.rel q3' hh
    rw [orP_assoc] at q4
    obtain ⟨dz, pz, hh⟩ := Fut.peek g4'.rel q4 hh
    obtain ⟨r2, er2, hh⟩ := hh.lift
    refine ⟨Fo, Tm, ι4, ω4, σ, st4, dy', dz, r2, g4.rel0, py'.dr.dr.dr, pz.dr.dr.dr, er2, r2, rfl, ?_⟩
    cases r2 with
    | false => exact ⟨false, rfl, hh.pure_use rfl g4⟩
    | true =>
      rw [if_pos rfl] at hh
      refine nextE g4 hh rfl fun h5 u T5 ι5 ω5 H5 st5 g5' g5 q5 hh => ?_
      rw [orP_assoc, orP_assoc] at g5'
      have q4' := q4.keep g5'.kp fun a z => g5'.same a (.inr (.inl z))
      obtain ⟨dz', pz', hh⟩ := Fut.peek g5'.rel q4' hh
      rw [orP_assoc, orP_assoc] at q5
      obtain ⟨du, pu, hh⟩ := Fut.peek g5'.rel q5 hh
      obtain ⟨r3, er3, hh⟩ := hh.lift1
      exact ⟨Fo, Tm, ι5, ω5, σ, st5, dz', du, r3, g5.rel0, pz'.dr.dr.dr.dr, pu.dr.dr.dr.dr, er3, r3, rfl, hh.pure_use rfl g5⟩
theorem se_cmp (ih : SE CX E P k n) (g : Ctx X CX E P k Wx c) {a : Expr} {os : List CmpOp} {bs : List Expr} {te : TE} {pos : Pos} (h : kCmp (n + 1) c a os bs = some te) :
    PE X (.Compare a os bs pos) (tE (cfg P k) E Wx te) ∧ PT X (.Compare a os bs pos) (tT (cfg P k) E Wx te) := by
  match os, bs, h with
  | [o], [b], h =>
    have h : (if behindInMarks o b = false then (kE n c a).bind fun a => (kE n c b).bind fun b => some (.cmp (copOf o) a b) else none) = some te := h
    split at h
    · rename_i hm
      obtain ⟨a', e1, h⟩ := Option.bind_eq_some_iff.mp h
      obtain ⟨b', e2, h⟩ := Option.bind_eq_some_iff.mp h
      cases h
      exact ⟨s_cmp g.good o hm (ih.e g e1).1 (ih.e g e2).1, s_cmpT g.good o hm (ih.e g e1).1 (ih.e g e2).1⟩
    · cases h
  | [o, p], [b, d], h =>
    have h : (if lastMarks [o, p] [b, d] = false then (kE n c a).bind fun a => (kE n c b).bind fun b => (kE n c d).bind fun d => some (.chain (copOf o) (copOf p) a b d) else none) = some te := h
    split at h
    · rename_i hm
      obtain ⟨a', e1, h⟩ := Option.bind_eq_some_iff.mp h
      obtain ⟨b', e2, h⟩ := Option.bind_eq_some_iff.mp h
      obtain ⟨d', e3, h⟩ := Option.bind_eq_some_iff.mp h
      cases h
      exact ⟨s_chain g.good hm (ih.e g e1).1 (ih.e g e2).1 (ih.e g e3).1, s_chainT g.good hm (ih.e g e1).1 (ih.e g e2).1 (ih.e g e3).1⟩
    · cases h
  | [o, p, q], [b, d, f], h =>
    have h : (if lastMarks [o, p, q] [b, d, f] = false then (kE n c a).bind fun a => (kE n c b).bind fun b => (kE n c d).bind fun d => (kE n c f).bind fun f => some (.chain3 (copOf o) (copOf p) (copOf q) a b d f) else none) = some te := h
    split at h
    · rename_i hm
      obtain ⟨a', e1, h⟩ := Option.bind_eq_some_iff.mp h
      obtain ⟨b', e2, h⟩ := Option.bind_eq_some_iff.mp h
      obtain ⟨d', e3, h⟩ := Option.bind_eq_some_iff.mp h
      obtain ⟨f', e4, h⟩ := Option.bind_eq_some_iff.mp h
      cases h
      exact ⟨s_chain3 g.good hm (ih.e g e1).1 (ih.e g e2).1 (ih.e g e3).1 (ih.e g e4).1, s_chain3T g.good hm (ih.e g e1).1 (ih.e g e2).1 (ih.e g e3).1 (ih.e g e4).1⟩
    · cases h
theorem se_sub (ih : SE CX E P k n) (g : Ctx X CX E P k Wx c) {a b : Expr} {te : TE} {pos : Pos} (h : kSub (n + 1) c a b = some te) :
    PE X (.Subscript a b pos) (tE (cfg P k) E Wx te) ∧ Plain (cfg P k) te := by
  have gen : ∀ (b : Expr), noSlice b = true → ((kE n c a).bind fun a => (kE n c b).bind fun b => some (TE.idx a b)) = some te → PE X (.Subscript a b pos) (tE (cfg P k) E Wx te) ∧ Plain (cfg P k) te := fun b hb h => by
    obtain ⟨a', e1, h⟩ := Option.bind_eq_some_iff.mp h
    obtain ⟨b', e2, h⟩ := Option.bind_eq_some_iff.mp h
    cases h
    exact ⟨s_idx g.good hb (ih.e g e1).1 (ih.e g e2).1, rfl⟩
  cases b with
  | Slice lo hi st p2 =>
    cases st with
    | some _ => cases h
    | none =>
      have h : ((kE n c a).bind fun a => (kO n c lo).bind fun lo => (kO n c hi).bind fun hi => some (TE.sli a lo hi)) = some te := h
      obtain ⟨a', e1, h⟩ := Option.bind_eq_some_iff.mp h
      obtain ⟨b', e2, h⟩ := Option.bind_eq_some_iff.mp h
      obtain ⟨d', e3, h⟩ := Option.bind_eq_some_iff.mp h
      cases h
      exact ⟨s_sli g.good (ih.e g e1).1 (ih.o g e2) (ih.o g e3), rfl⟩
  | _ => exact gen _ rfl h
theorem bltC_of {x : Str} (h1 : globC c.sc x = true) (h2 : ¬ c.fns.contains x = true) (h3 : ¬ c.clss.contains x = true) : bltC c x = true := by
  unfold bltC
  rw [h1, Bool.eq_false_iff.mpr h2, Bool.eq_false_iff.mpr h3]
  rfl
theorem bltC_is {x : Str} (h : bltC c x = true) : globC c.sc x = true ∧ c.fns.contains x = false ∧ c.clss.contains x = false := by
  unfold bltC at h
  simp only [Bool.and_eq_true, Bool.not_eq_true'] at h
  exact ⟨h.1.1, h.1.2, h.2⟩
theorem kTy_is {e : Expr} {t : Ty} (h : kTy c e = some t) : ∃ x p, e = .Name x p ∧ TyN c x t := by
  cases e with
  | Name x p =>
    have h : (if bltC c x = true ∧ (tyOf x).isSome = true then tyOf x else if globC c.sc x = true ∧ c.xty.contains x = true then some (.cls x) else none) = some t := h
    split at h
    · rename_i hb
      obtain ⟨b1, b2, b3⟩ := bltC_is hb.1
      exact ⟨x, p, rfl, .inl ⟨h, b1, b2, b3⟩⟩
    · split at h
      · rename_i hb
        cases h
        exact ⟨x, p, rfl, .inr ⟨rfl, hb⟩⟩
      · cases h
  | _ => cases h
theorem kTys_is : ∀ {es : List Expr} {ts : List Ty}, kTys c es = some ts → es.length = ts.length ∧ ∀ q ∈ es.zip ts, ∃ x p, q.1 = .Name x p ∧ TyN c x q.2
  | [], ts, h => by
    cases h
    exact ⟨rfl, fun q hq => by cases hq⟩
  | e :: es, ts, h => by
    have h : ((kTy c e).bind fun t => (kTys c es).bind fun ts => some (t :: ts)) = some ts := h
    obtain ⟨t, e1, h⟩ := Option.bind_eq_some_iff.mp h
    obtain ⟨ts', e2, h⟩ := Option.bind_eq_some_iff.mp h
    cases h
    obtain ⟨l, f⟩ := kTys_is e2
    refine ⟨by simp [l], fun q hq => ?_⟩
    rcases List.mem_cons.mp (show q ∈ (e, t) :: es.zip ts' from hq) with hq | hq
    · subst hq; exact kTy_is e1
    · exact f q hq
theorem se_isi (ih : SE CX E P k n) (g : Ctx X CX E P k Wx c) (hb : bltC c "isinstance" = true) {args : List Expr} {te : TE} {p pos : Pos} (h : kIsi (n + 1) c args = some te) :
    PE X (.Call (.Name "isinstance" p) args [] pos) (tE (cfg P k) E Wx te) ∧ Plain (cfg P k) te := by
  obtain ⟨b1, b2, b3⟩ := bltC_is hb
  match args, h with
  | [a, t], h =>
    have h : ((kE n c a).bind fun a => (kTyE c t).map (TE.isi a)) = some te := h
    obtain ⟨a', e1, h⟩ := Option.bind_eq_some_iff.mp h
    obtain ⟨ts, e2, h⟩ := Option.map_eq_some_iff.mp h
    subst h
    obtain ⟨h1, _, h3, _⟩ := ih.e g e1
    refine ⟨?_, rfl⟩
    cases t with
    | Name x q =>
      have e2 : (kTy c (.Name x q)).map (fun t => [t]) = some ts := e2
      obtain ⟨t, e3, e2⟩ := Option.map_eq_some_iff.mp e2
      subst e2
      obtain ⟨x', p', ex, k1⟩ := kTy_is e3
      cases ex
      exact s_isi1 g.good b1 b2 b3 k1 h3 h1
    | Tuple es kk q =>
      have e2 : ((kTys c es).bind fun ts => if ts.length ≤ 1000 ∧ ts ≠ [] then some ts else none) = some ts := e2
      obtain ⟨ts', e3, e2⟩ := Option.bind_eq_some_iff.mp e2
      split at e2
      · rename_i hc
        cases e2
        obtain ⟨l, f⟩ := kTys_is e3
        exact s_isiN g.good b1 b2 b3 f l hc.2 hc.1 h3 h1
      · cases e2
    | _ => cases e2
theorem se_blt (ih : SE CX E P k n) (g : Ctx X CX E P k Wx c) {f : Str} (hb : bltC c f = true) {a : Expr} {es : List Expr} {o : Blt} {tl : TL} {p pos : Pos} (ho : bltOf f (a :: es).length = some o) (h : kL n c (a :: es) = some tl) :
    PE X (.Call (.Name f p) (a :: es) [] pos) (tE (cfg P k) E Wx (.blt o tl)) := by
  obtain ⟨b1, b2, b3⟩ := bltC_is hb
  obtain ⟨h1, h2, h3, h4, h5⟩ := ih.l g h
  exact s_blt g.good ho b1 b2 b3 h4 h2
theorem se_list (ih : SE CX E P k n) (g : Ctx X CX E P k Wx c) (hb : bltC c "list" = true) {args : List Expr} {te : TE} {p pos : Pos} (h : kList (n + 1) c args = some te) :
    PE X (.Call (.Name "list" p) args [] pos) (tE (cfg P k) E Wx te) ∧ Plain (cfg P k) te := by
  obtain ⟨b1, b2, b3⟩ := bltC_is hb
  have gen : ∀ (a : Expr), (kL n c [a]).map (TE.blt .list) = some te → PE X (.Call (.Name "list" p) [a] [] pos) (tE (cfg P k) E Wx te) ∧ Plain (cfg P k) te := fun a h => by
    obtain ⟨tl, e1, h⟩ := Option.map_eq_some_iff.mp h
    subst h
    exact ⟨se_blt ih g hb (show bltOf "list" 1 = some .list from by decide +kernel) e1, rfl⟩
  have h2 : kList (n + 1) c args = (match (generalizing := false) args with
    | [.Call (.Name g _) [e] [] _] => if g = "reversed" ∧ bltC c g = true then (kE n c e).map fun e => .blt .listrev (.cons e .nil) else (kL n c args).map (.blt .list)
    | [_] => (kL n c args).map (.blt .list)
    | _ => none) := rfl
  rw [h2] at h
  split at h
  · rename_i gn p2 e pos2
    split at h
    · rename_i hc
      obtain ⟨hg, hc⟩ := hc
      subst hg
      obtain ⟨c1, c2, c3⟩ := bltC_is hc
      obtain ⟨e', e1, h⟩ := Option.map_eq_some_iff.mp h
      subst h
      obtain ⟨h1, _, h3, _⟩ := ih.e g e1
      exact ⟨s_listrev g.good b1 b2 b3 c1 c2 c3 h3 h1, rfl⟩
    · exact gen _ h
  · exact gen _ h
  · cases h
theorem bmOf_is {f : Str} {m : Nat} {b : BM} (h : bmOf f m = some b) : b ∈ bmAll ∧ bmNm b = (f, m) := by
  refine ⟨List.mem_of_find?_eq_some h, ?_⟩
  have := List.find?_some h
  simpa using this
theorem tl_nil {es : List Expr} {tl : TL} (h : tl.len = es.length) (he : es = []) : tl = .nil := by
  subst he
  cases tl with
  | nil => rfl
  | cons _ _ => cases h
theorem plain_bm {C : Cfg} {b : BM} {a : TE} {l : TL} : Plain C (.bm b a l) := rfl
theorem se_bm (g : Ctx X CX E P k Wx c) {a : Expr} {es : List Expr} {b : BM} {ta : TE} {tl : TL} {apos cpos : Pos} (hb : b ∈ bmAll) (tx : BmText a es apos cpos) (ha : PE X a (tE (cfg P k) E Wx ta)) (hL : PA X es (tL (cfg P k) E Wx tl)) (hH : PA X es (tH (cfg P k) E Wx tl)) (hl : tl.len = es.length) (hn : es.length = (bmNm b).2) :
    PE X (.Call (.Attribute a (bmNm b).1 apos) es [] cpos) (tE (cfg P k) E Wx (.bm b ta tl)) := by
  cases hm : isMut b with
  | true => exact s_bmMut g.good hb hm tx ha hL fun he σ H Q h => by rw [tl_nil hl he] at h; exact tL_nil h
  | false =>
    by_cases h2 : b = .get2
    · subst h2
      exact s_bmGet2 g.good tx ha hL fun he => by rw [he] at hn; cases hn
    · by_cases h3 : b = .extend
      · subst h3
        exact s_bmExt g.good tx ha hH fun he => by rw [he] at hn; cases hn
      · exact s_bmOp g.good hb hm h2 h3 tx ha hH fun he σ H Q h => by rw [tl_nil hl he] at h; exact tH_nil h
theorem se_exc (ih : SE CX E P k n) (g : Ctx X CX E P k Wx c) {f : Str} {args : List Expr} {te : TE} {p pos : Pos} (hg : globC c.sc f = true) (hx : (c.xcs.lookup f).isSome = true) (h : kExc (n + 1) c (c.xcs.lookup f) args = some te) :
    PE X (.Call (.Name f p) args [] pos) (tE (cfg P k) E Wx te) ∧ Plain (cfg P k) te := by
  cases hc : c.xcs.lookup f with
  | none => rw [hc] at hx; cases hx
  | some z =>
    rw [hc] at h
    have hz := g.xcs f z hc
    obtain ⟨cs, o⟩ := z
    cases o with
    | none =>
      cases args with
      | nil => cases h; exact ⟨s_exc0 hz (globC_gl g.good hg), rfl⟩
      | cons _ _ => cases h
    | some fk =>
      obtain ⟨f', kk⟩ := fk
      match args, h with
      | [e], h =>
        obtain ⟨a', e2, h⟩ := Option.map_eq_some_iff.mp (show (kE n c e).map (.exc1 cs f' kk) = some te from h)
        subst h
        obtain ⟨h1, _, h3, _⟩ := ih.e g e2
        exact ⟨s_exc1 hz (globC_gl g.good hg) (g.room.mono (by omega)) h3 h1, rfl⟩
      | [], h => cases h
      | _ :: _ :: _, h => cases h
theorem se_call (ih : SE CX E P k n) (g : Ctx X CX E P k Wx c) {f : Expr} {args : List Expr} {te : TE} {pos : Pos} (h : kCall (n + 1) c f args pos = some te) :
    PE X (.Call f args [] pos) (tE (cfg P k) E Wx te) ∧ Plain (cfg P k) te := by
  cases f with
  | Name f p =>
    replace h : (if globC c.sc f = true then
        if c.fns.contains f = true then (if okName f = true then (kL n c args).map (.call f) else none)
        else if c.clss.contains f = true then (if okName f = true then (kL n c args).map (.make f) else none)
        else if (c.xcs.lookup f).isSome = true then kExc n c (c.xcs.lookup f) args
        else if f = "isinstance" then kIsi n c args
        else if f = "list" then kList n c args
        else match (generalizing := false) args with
          | [] => none
          | e :: es => (bltOf f (e :: es).length).bind fun o => (kL n c (e :: es)).map (.blt o)
      else none) = some te := h
    split at h
    · rename_i hg
      split at h
      · rename_i hf
        split at h
        · rename_i hn
          obtain ⟨tl, e1, h⟩ := Option.map_eq_some_iff.mp h
          subst h
          obtain ⟨d, fa, fd, ps, k1, k2, k3, k4⟩ := g.fns f hf
          obtain ⟨h1, h2, h3, h4, h5⟩ := ih.l g e1
          exact ⟨s_call k2 k1 (g.room.mono (by omega)) (globC_gl g.good hg) k3 k4 g.pas (h3 f 0) h5 h4 hn, rfl⟩
        · cases h
      · rename_i hf
        split at h
        · rename_i hc
          split at h
          · rename_i hn
            obtain ⟨tl, e1, h⟩ := Option.map_eq_some_iff.mp h
            subst h
            obtain ⟨d, CA, fa, fd, ps, k1, k2, k3, k4, k5⟩ := g.clss f hc
            obtain ⟨h1, h2, h3, h4, h5⟩ := ih.l g e1
            exact ⟨s_make k2 k3 k4 k1 g.room (globC_gl g.good hg) k5 g.pas (h3 f 1) h5 h4 hn, rfl⟩
          · cases h
        · rename_i hc
          have hb : bltC c f = true := bltC_of hg hf hc
          split at h
          · rename_i hx
            exact ih.exc g hg hx h
          split at h
          · rename_i ef
            subst ef
            exact ih.isi g hb h
          · split at h
            · rename_i ef
              subst ef
              exact ih.list g hb h
            · split at h
              · cases h
              · obtain ⟨o, e1, h⟩ := Option.bind_eq_some_iff.mp h
                obtain ⟨tl, e2, h⟩ := Option.map_eq_some_iff.mp h
                subst h
                exact ⟨se_blt ih g hb e1 e2, rfl⟩
    · cases h
  | Attribute a m apos =>
    replace h : (if m = "replace" then (match (generalizing := false) args with
        | [.Constant (.str y) _ _, .Constant (.str z) _ _] => if headT a = true ∧ (y == z) = false ∧ noCall0 a = true ∧ (apos.endLine == pos.line) = true then (kE n c a).map fun a => .bm .replace2 a (.cons (.con (.str y)) (.cons (.con (.str z)) .nil)) else none
        | _ => none)
      else if c.meths.contains m = true then
        if noCall0 a = true ∧ (apos.endLine == pos.line) = true ∧ args.length < 20 then (kE n c a).bind fun a => (kL n c args).map (.meth a (dotS m)) else none
      else if c.meths.contains m = false ∧ noCall0 a = true ∧ (apos.endLine == pos.line) = true ∧ args.length < 20 then
        (bmOf m args.length).bind fun b => (kE n c a).bind fun a => (kL n c args).map (.bm b a)
      else none) = some te := h
    split at h
    · rename_i em
      subst em
      split at h
      · split at h
        · rename_i hc
          obtain ⟨c1, c2, c3, c4⟩ := hc
          obtain ⟨a', e2, h⟩ := Option.map_eq_some_iff.mp h
          subst h
          exact ⟨s_repl (ih.e g e2).1 c1 c2 c3 c4, rfl⟩
        · cases h
      · cases h
    split at h
    · rename_i hm
      split at h
      · rename_i hc
        obtain ⟨c2, c3, c4⟩ := hc
        obtain ⟨a', e2, h⟩ := Option.bind_eq_some_iff.mp h
        obtain ⟨tl, e3, h⟩ := Option.map_eq_some_iff.mp h
        subst h
        obtain ⟨h1, h2, h3, h4, h5⟩ := ih.l g e3
        obtain ⟨cn, CA, d, fa, fd, ps, k1, k2, k3, k4, k5, k6, k7⟩ := g.mths m hm
        exact ⟨s_meth (fun c' CA' z1 z2 => by rw [k3 c' CA' z1 z2]; exact ⟨d, fa, fd, ps, k4, k5, k6, k7⟩) (fun c1 c2 C1 C2 z1 z2 z3 z4 => by rw [k3 c1 C1 z1 z3, k3 c2 C2 z2 z4]) ⟨cn, CA, k1, k2⟩ (g.room.mono (by omega)) g.pas (ih.e g e2).1 (h3 (dotS m) 1) h5 (base_of c2) c3 h4 c4, rfl⟩
      · cases h
    split at h
    · rename_i hc
      obtain ⟨c1, c2, c3, c4⟩ := hc
      obtain ⟨b, e1, h⟩ := Option.bind_eq_some_iff.mp h
      obtain ⟨a', e2, h⟩ := Option.bind_eq_some_iff.mp h
      obtain ⟨tl, e3, h⟩ := Option.map_eq_some_iff.mp h
      subst h
      obtain ⟨hb, hn⟩ := bmOf_is e1
      obtain ⟨h1, h2, h3, h4, h5⟩ := ih.l g e3
      have q := se_bm g hb ⟨c2, c3, h4, c4⟩ (ih.e g e2).1 h1 h2 h5 (by rw [hn])
      rw [hn] at q
      exact ⟨q, plain_bm⟩
    · cases h
  | _ => cases h
theorem notSet_ok {iter : Expr} (h : notSet iter = true) (env : PySem.Env) (x : Value) : foldedSetIterable iter env x = pure x := by
  cases iter <;> first | rfl | cases h
theorem kG1_ok {C : Cfg} (g : Good X C E Wx c) {e : Expr} {t : TG} (h : kG1 c e = some t) : PG X e (tG E Wx t) ∧ ∃ x p i pr, e = .Name x p ∧ t = .slot i pr ∧ locC c.st x = true ∧ c.N.findIdx? (· == x) = some i := by
  cases e with
  | Name x p =>
    have h : (if locC c.st x = true then (c.N.findIdx? (· == x)).map fun i => TG.slot i (c.prom x) else none) = some t := h
    split at h
    · rename_i hl
      obtain ⟨i, hi, h⟩ := Option.map_eq_some_iff.mp h
      subst h
      exact ⟨s_gslot g hl hi, x, p, i, _, rfl, rfl, hl, hi⟩
    · cases h
  | _ => cases h
theorem kGs_ok {C : Cfg} (g : Good X C E Wx c) : ∀ {es : List Expr} {ts : List TG}, kGs c es = some ts → PGs X es (tGs E Wx ts) ∧ (assignEach es X.env).length = ts.length ∧ (assignEach es X.env).findIdx? (·.1) = none
  | [], ts, h => by
    cases h
    exact ⟨s_gs_nil, rfl, rfl⟩
  | e :: es, ts, h => by
    have h : ((kG1 c e).bind fun t => (kGs c es).bind fun ts => some (t :: ts)) = some ts := h
    obtain ⟨t, e1, h⟩ := Option.bind_eq_some_iff.mp h
    obtain ⟨ts', e2, h⟩ := Option.bind_eq_some_iff.mp h
    cases h
    obtain ⟨q, x, p, i, pr, ee, et, _, _⟩ := kG1_ok g e1
    subst ee et
    obtain ⟨q2, l, f⟩ := kGs_ok g e2
    have ae : assignEach (.Name x p :: es) X.env = (false, assign (.Name x p) X.env) :: assignEach es X.env := rfl
    refine ⟨s_gs_cons (by rw [ae]; rfl) q q2, by rw [ae]; simp [l], ?_⟩
    rw [ae, List.findIdx?_cons]
    simp only [Bool.false_eq_true, if_false, f, Option.map_none]
theorem kG_ok {C : Cfg} (g : Good X C E Wx c) {e : Expr} {t : TG} (h : kG c e = some t) : PG X e (tG E Wx t) := by
  cases e with
  | Name x p => exact (kG1_ok g (show kG1 c (.Name x p) = some t from h)).1
  | Tuple es kk p =>
    obtain ⟨ts, e1, h⟩ := Option.map_eq_some_iff.mp (show (kGs c es).map TG.tup = some t from h)
    subst h
    obtain ⟨q, l, f⟩ := kGs_ok g e1
    exact s_gtup g l f q
  | _ => cases h
/-- what is seen of a comprehension -/
structure CompIs (n : Nat) (c : SC) (elt : Expr) (gens : List Comprehension) (scope : Scope) (te : TE) (tg iter : Expr) (ifs : List Expr) (src : TI) (tgI : TG) (ifsI : TL) (eltI : TE) : Prop where
  hg : gens = [⟨tg, iter, ifs, 0⟩]
  blk : blkC c.N c.sc scope (ownOf c.N scope) = true
  ns : notSet iter = true
  few : ifs.length ≤ 1
  e1 : kI n c tg iter = some src
  e2 : kG (c.blk scope) tg = some tgI
  e3 : kL n (c.blk scope) ifs = some ifsI
  e4 : kE n (c.blk scope) elt = some eltI
  own : ∀ j ∈ slotsG tgI, j ∈ (ownOf c.N scope).map (·.2)
  te_ : te = .comp eltI tgI src ifsI ((ownOf c.N scope).map (·.2))
theorem kComp_is {elt : Expr} {gens : List Comprehension} {scope : Scope} {te : TE} (h : kComp (n + 1) c elt gens scope = some te) : ∃ tg iter ifs src tgI ifsI eltI, CompIs n c elt gens scope te tg iter ifs src tgI ifsI eltI := by
  match gens, h with
  | [⟨tg, iter, ifs, 0⟩], h =>
    have h : (if blkC c.N c.sc scope (ownOf c.N scope) = true ∧ notSet iter = true ∧ ifs.length ≤ 1 then
        (kI n c tg iter).bind fun src => (kG (c.blk scope) tg).bind fun g => (kL n (c.blk scope) ifs).bind fun ifs => (kE n (c.blk scope) elt).bind fun elt =>
          if (slotsG g).all (fun j => (ownOf c.N scope).any fun p => p.2 == j) = true then some (TE.comp elt g src ifs ((ownOf c.N scope).map (·.2))) else none
      else none) = some te := h
    split at h
    · rename_i hc
      obtain ⟨c1, c2, c3⟩ := hc
      obtain ⟨src, e1, h⟩ := Option.bind_eq_some_iff.mp h
      obtain ⟨tgI, e2, h⟩ := Option.bind_eq_some_iff.mp h
      obtain ⟨ifsI, e3, h⟩ := Option.bind_eq_some_iff.mp h
      obtain ⟨eltI, e4, h⟩ := Option.bind_eq_some_iff.mp h
      split at h
      · rename_i hs
        cases h
        refine ⟨tg, iter, ifs, src, tgI, ifsI, eltI, rfl, c1, c2, c3, e1, e2, e3, e4, fun j hj => ?_, rfl⟩
        have := List.all_eq_true.mp hs j hj
        obtain ⟨q, hq, e⟩ := List.any_eq_true.mp this
        exact List.mem_map.mpr ⟨q, hq, by simpa using e⟩
      · cases h
    · cases h
theorem se_comp (ih : SE CX E P k n) (pasN : ∀ (Y : Cx) (σ : L2.St), PassesAt CX Y σ (WE noX σ)) (g : Ctx X CX E P k Wx c) {elt : Expr} {gens : List Comprehension} {scope : Scope} {te : TE} {pos : Pos} (h : kComp (n + 1) c elt gens scope = some te) :
    PE X (.ListComp elt gens scope pos) (tE (cfg P k) E Wx te) ∧ Plain (cfg P k) te := by
  obtain ⟨tg, iter, ifs, src, tgI, ifsI, eltI, q⟩ := kComp_is h
  obtain ⟨rfl, c1, c2, c3, e1, e2, e3, e4, hs, rfl⟩ := q
  have ok := blkOk_by c1
  rw [← g.good.sc] at ok
  refine ⟨s_comp g.good.calm (by rw [g.good.N]; exact g.good.nd) (ih.i g e1) (by rw [g.good.N]; exact ok) (fun s H C' cl fp => kG_ok (g.blk pasN scope s H C' cl fp).good e2) (fun s H C' cl fp => ih.ts (g.blk pasN scope s H C' cl fp) e3 c3)
    (fun s H C' cl fp => (ih.e (g.blk pasN scope s H C' cl fp) e4).1) (notSet_ok c2 _) hs, rfl⟩
theorem se_l (ih : SE CX E P k n) (g : Ctx X CX E P k Wx c) {es : List Expr} {tl : TL} (h : kL (n + 1) c es = some tl) :
    PA X es (tL (cfg P k) E Wx tl) ∧ PA X es (tH (cfg P k) E Wx tl) ∧ (∀ f j, PA X es (tAr (cfg P k) E Wx f j tl)) ∧ es.all noStar = true ∧ tl.len = es.length := by
  cases es with
  | nil =>
    cases h
    exact ⟨sL_nil, sH_nil, fun _ _ => sA_nil, rfl, rfl⟩
  | cons a es =>
    have h : ((kE n c a).bind fun a => (kL n c es).bind fun l => some (.cons a l)) = some tl := h
    obtain ⟨a', e1, h⟩ := Option.bind_eq_some_iff.mp h
    obtain ⟨l', e2, h⟩ := Option.bind_eq_some_iff.mp h
    cases h
    obtain ⟨p1, _, p3, _⟩ := ih.e g e1
    obtain ⟨q1, q2, q3, q4, q5⟩ := ih.l g e2
    exact ⟨sL_cons p3 p1 q1, sH_cons p3 p1 q2, fun f j => sA_cons p3 p1 (q3 f (j + 1)), by simp [p3, q4], by simp [TL.len, q5]⟩
theorem se_ts (ih : SE CX E P k n) (g : Ctx X CX E P k Wx c) {es : List Expr} {tl : TL} (h : kL (n + 1) c es = some tl) (hl : es.length ≤ 1) : PTs X es (tTs (cfg P k) E Wx tl) := by
  match es, h with
  | [], h =>
    cases h
    exact s_ts_nil
  | [a], h =>
    have h : ((kE n c a).bind fun a => (kL n c []).bind fun l => some (.cons a l)) = some tl := h
    obtain ⟨a', e1, h⟩ := Option.bind_eq_some_iff.mp h
    obtain ⟨l', e2, h⟩ := Option.bind_eq_some_iff.mp h
    cases h
    cases n with
    | zero => cases e2
    | succ n =>
      cases e2
      exact s_ts_one (ih.e g e1).2.1
  | _ :: _ :: _, _ => simp at hl
theorem se_d (ih : SE CX E P k n) (g : Ctx X CX E P k Wx c) {ks : List (Option Expr)} {vs : List Expr} {tl : TL} {pos : Pos} (h : kD (n + 1) c ks vs = some tl) :
    PPs X pos ks vs (pairsT (cfg P k) E Wx tl) ∧ ks.all (·.isSome) = true ∧ ks.length = vs.length ∧ (ks = [] → tl = .nil) := by
  match ks, vs, h with
  | [], [], h =>
    cases h
    exact ⟨pps_nil, rfl, rfl, fun _ => rfl⟩
  | some k' :: ks, v :: vs, h =>
    have h : ((kE n c k').bind fun k => (kE n c v).bind fun v => (kD n c ks vs).bind fun l => some (.cons k (.cons v l))) = some tl := h
    obtain ⟨a', e1, h⟩ := Option.bind_eq_some_iff.mp h
    obtain ⟨b', e2, h⟩ := Option.bind_eq_some_iff.mp h
    obtain ⟨l', e3, h⟩ := Option.bind_eq_some_iff.mp h
    cases h
    obtain ⟨q1, q2, q3, _⟩ := ih.d g (pos := pos) e3
    exact ⟨pps_cons (ih.e g e1).1 (ih.e g e2).1 q1, by simpa using q2, by simp [q3], fun h => by cases h⟩
theorem se_o (ih : SE CX E P k n) (g : Ctx X CX E P k Wx c) {oe : Option Expr} {t : TO} (h : kO (n + 1) c oe = some t) : PO X oe (tOb (cfg P k) E Wx t) := by
  cases oe with
  | none =>
    cases h
    exact sO_none
  | some a =>
    obtain ⟨a', e1, h⟩ := Option.map_eq_some_iff.mp (show (kE n c a).map TO.some = some t from h)
    subst h
    exact sO_some (ih.e g e1).1
theorem se_i (ih : SE CX E P k n) (g : Ctx X CX E P k Wx c) {tg e : Expr} {t : TI} (h : kI (n + 1) c tg e = some t) : PI X tg e (tI (cfg P k) E Wx t) := by
  have gen : ∀ (e : Expr), (kE n c e).map TI.val = some t → PI X tg e (tI (cfg P k) E Wx t) := fun e h => by
    obtain ⟨a', e1, h⟩ := Option.map_eq_some_iff.mp h
    subst h
    exact s_ival g.good (ih.e g e1).1
  have h2 : kI (n + 1) c tg e = (match (generalizing := false) e with
    | .Call (.Name f p) args [] q =>
      if bltC c f = true ∧ f = "range" then (match (generalizing := false) args with
        | [a] => (kE n c a).map fun a => .range (.cons a .nil)
        | [a, b] => (kE n c a).bind fun a => (kE n c b).map fun b => .range (.cons a (.cons b .nil))
        | [a, b, d] => (kE n c a).bind fun a => (kE n c b).bind fun b => (kE n c d).map fun d => .range (.cons a (.cons b (.cons d .nil)))
        | _ => none)
      else if bltC c f = true ∧ f = "enumerate" then (match (generalizing := false) args with
        | [a] => if isTup tg = true then (kE n c a).map .enum else none
        | _ => none)
      else if bltC c f = true ∧ f = "reversed" then (match (generalizing := false) args with
        | [a] => (kE n c a).map .rev
        | _ => none)
      else if bltC c f = true ∧ f = "zip" then (match (generalizing := false) args with
        | [a, b] => if isTup tg = true then (kE n c a).bind fun a => (kE n c b).bind fun b => some (.zip a b) else none
        | _ => none)
      else (kE n c (.Call (.Name f p) args [] q)).map .val
    | e => (kE n c e).map .val) := by rfl
  rw [h2] at h
  split at h
  · rename_i f p args q
    split at h
    · rename_i hc
      obtain ⟨hb, rfl⟩ := hc
      obtain ⟨b1, b2, b3⟩ := bltC_is hb
      split at h
      · obtain ⟨a', e1, h⟩ := Option.map_eq_some_iff.mp h
        subst h
        obtain ⟨h1, _, h3, _⟩ := ih.e g e1
        exact s_range1 g.good b1 b2 b3 h3 h1
      · obtain ⟨a', e1, h⟩ := Option.bind_eq_some_iff.mp h
        obtain ⟨b', e2, h⟩ := Option.map_eq_some_iff.mp h
        subst h
        obtain ⟨h1, _, h3, _⟩ := ih.e g e1
        obtain ⟨k1, _, k3, _⟩ := ih.e g e2
        exact s_range2 g.good b1 b2 b3 h3 k3 h1 k1
      · obtain ⟨a', e1, h⟩ := Option.bind_eq_some_iff.mp h
        obtain ⟨b', e2, h⟩ := Option.bind_eq_some_iff.mp h
        obtain ⟨d', e3, h⟩ := Option.map_eq_some_iff.mp h
        subst h
        obtain ⟨h1, _, h3, _⟩ := ih.e g e1
        obtain ⟨k1, _, k3, _⟩ := ih.e g e2
        obtain ⟨l1, _, l3, _⟩ := ih.e g e3
        exact s_range3 g.good b1 b2 b3 h3 k3 l3 h1 k1 l1
      · cases h
    · split at h
      · rename_i hc
        obtain ⟨hb, rfl⟩ := hc
        obtain ⟨b1, b2, b3⟩ := bltC_is hb
        split at h
        · split at h
          · rename_i ht
            cases tg with
            | Tuple elts kk tp =>
              obtain ⟨a', e1, h⟩ := Option.map_eq_some_iff.mp h
              subst h
              obtain ⟨h1, _, h3, _⟩ := ih.e g e1
              exact s_enum g.good b1 b2 b3 h3 h1
            | _ => cases ht
          · cases h
        · cases h
      · split at h
        · rename_i hc
          obtain ⟨hb, rfl⟩ := hc
          obtain ⟨b1, b2, b3⟩ := bltC_is hb
          split at h
          · obtain ⟨a', e1, h⟩ := Option.map_eq_some_iff.mp h
            subst h
            obtain ⟨h1, _, h3, _⟩ := ih.e g e1
            exact s_irev g.good b1 b2 b3 h3 h1
          · cases h
        · split at h
          · rename_i hc
            obtain ⟨hb, rfl⟩ := hc
            obtain ⟨b1, b2, b3⟩ := bltC_is hb
            split at h
            · split at h
              · rename_i ht
                cases tg with
                | Tuple elts kk tp =>
                  obtain ⟨a', e1, h⟩ := Option.bind_eq_some_iff.mp h
                  obtain ⟨b', e2, h⟩ := Option.bind_eq_some_iff.mp h
                  cases h
                  obtain ⟨h1, _, h3, _⟩ := ih.e g e1
                  obtain ⟨h1', _, h3', _⟩ := ih.e g e2
                  exact s_zip g.good b1 b2 b3 h3 h3' h1 h1'
                | _ => cases ht
              · cases h
            · cases h
          · exact gen _ h
  · exact gen _ h
theorem SE.succ (pasN : ∀ (Y : Cx) (σ : L2.St), PassesAt CX Y σ (WE noX σ)) (ih : SE CX E P k n) : SE CX E P k (n + 1) :=
  { e := fun g _ _ h => se_e ih g h, bool := fun g _ _ _ _ h => se_bool ih g h, cmp := fun g _ _ _ _ _ h => se_cmp ih g h, sub := fun g _ _ _ _ h => se_sub ih g h, call := fun g _ _ _ _ h => se_call ih g h,
    exc := fun g _ _ _ _ _ hg hx h => se_exc ih g hg hx h, isi := fun g hb _ _ _ _ h => se_isi ih g hb h, list := fun g hb _ _ _ _ h => se_list ih g hb h, comp := fun g _ _ _ _ _ h => se_comp ih pasN g h, l := fun g _ _ h => se_l ih g h, ts := fun g _ _ h hl => se_ts ih g h hl,
    d := fun g _ _ _ _ h => se_d ih g h, o := fun g _ _ h => se_o ih g h, i := fun g _ _ _ h => se_i ih g h }
theorem SE.all (pasN : ∀ (Y : Cx) (σ : L2.St), PassesAt CX Y σ (WE noX σ)) : ∀ n, SE CX E P k n
  | 0 => .zero
  | n + 1 => .succ pasN (SE.all pasN n)
end
end EV

set_option autoImplicit false
set_option linter.all false
set_option maxRecDepth 10000
namespace EV
open PySem L2 PyProof.Rows

/-! ### the rules serve what is compiled: statements -/
section
variable {CX : CXT} {E : Env} {P : Prog} {k n : Nat} {X : Cx} {Wx : WX} {c : SC}
theorem isLC_swaps {e : Expr} (h : isLC e = false) (hk : ∃ n c te, kE n c e = some te) (t : Option Expr) (l : Nat) (env : PySem.Env) : swapsWith e t l env = pure false := by
  obtain ⟨n, c, te, hk⟩ := hk
  cases n with
  | zero => cases hk
  | succ n => cases e <;> first | rfl | (cases h; done) | (cases hk; done)
theorem isLC_soles {e : Expr} (h : isLC e = false) (hk : ∃ n c te, kE n c e = some te) (t : Expr) (l : Nat) (env : PySem.Env) : swapsWithSole [t] e l env = pure false := isLC_swaps h hk (some t) l env
theorem tup_sole {es : List Expr} {kk : Nat} {p : Pos} {e : Expr} (l : Nat) (env : PySem.Env) : swapsWithSole [.Tuple es kk p] e l env = pure false := by cases e <;> rfl
theorem sub_sole {o i : Expr} {p : Pos} {e : Expr} (l : Nat) (env : PySem.Env) : swapsWithSole [.Subscript o i p] e l env = pure false := by cases e <;> rfl
theorem sub_stores {o i : Expr} {p : Pos} {e : Expr} (env : PySem.Env) : swappedStores [.Subscript o i p] e env = pure none := by cases e <;> rfl
theorem att_swaps {o : Expr} {f : Str} {p : Pos} {e : Expr} (l : Nat) (env : PySem.Env) : swapsWith e (some (.Attribute o f p)) l env = pure false := by cases e <;> rfl
theorem sub_assign {o i : Expr} {p : Pos} (h : noSlice i = true) (env : PySem.Env) (v : Value) : assign (.Subscript o i p) env v = (do
      let ov ← holding [v] (eval o env)
      let iv ← holding [v, ov] (eval i env)
      standAt p
      holding [v, ov, iv] (setItem ov iv v)
      release [v, ov, iv] []) := by
  cases i <;> first | (cases h; done) | rfl
theorem isTup_stores {e tg : Expr} (h : isTup e = false) (env : PySem.Env) : swappedStores [tg] e env = pure none := by
  cases e <;> first | (cases h; done) | (cases tg <;> rfl)
theorem name_stores {x : Str} {p : Pos} {e : Expr} (env : PySem.Env) : swappedStores [.Name x p] e env = pure none := by
  cases e <;> rfl
theorem swC_is {elt : Expr} {gens : List Comprehension} {scope : Scope} {lp py : Pos} {y : Str} {l : Nat} {env : PySem.Env} : swapsWith (.ListComp elt gens scope lp) (some (.Name y py)) l env = pure (swC env.scope scope y py lp) := rfl
structure SS (CX : CXT) (E : Env) (P : Prog) (k n : Nat) : Prop where
  s : ∀ {X : Cx} {Wx : WX} {c : SC}, Ctx X CX E P k Wx c → ∀ {s : Stmt} {ts : TS}, kS n c s = some ts → PS X s (tS (cfg P k) E Wx ts)
  a : ∀ {X : Cx} {Wx : WX} {c : SC}, Ctx X CX E P k Wx c → ∀ {tg e : Expr} {pos : Pos} {ts : TS}, kAsg n c tg e = some ts → PS X (.Assign [tg] e pos) (tS (cfg P k) E Wx ts)
  b : ∀ {X : Cx} {Wx : WX} {c : SC}, Ctx X CX E P k Wx c → ∀ {ss : List Stmt} {tb : TB}, kB n c ss = some tb → PSs X ss (tB (cfg P k) E Wx tb)
theorem bad_s {C : Cfg} {s : Stmt} : PS X s (tS C E Wx badS) :=
  ⟨fun pins s σ H D I q => by
    obtain ⟨Fo, Tm, ι, ω, st, R, hh⟩ := q
    exact (show False from hh).elim⟩
theorem raise_s (ie : SE CX E P k n) {a b : Option Expr} {pos : Pos} (g : Ctx X CX E P k Wx c) : PS X (.Raise a b pos) (tS (cfg P k) E Wx (kRaise n c a b)) := by
  cases a with
  | none => exact bad_s
  | some e =>
    cases b with
    | some _ => exact bad_s
    | none =>
      show PS X (.Raise (some e) none pos) (tS (cfg P k) E Wx (kRaise1 n c e))
      unfold kRaise1
      split
      · split
        · rename_i hg
          split
          · rename_i cs hcs
            exact s_raise0 g.good.calm g.tk (g.xcs _ _ hcs) (globC_gl g.good hg)
          · exact bad_s
        · exact bad_s
      · split
        · rename_i hg
          split
          · rename_i cs hcs
            split
            · rename_i ht
              unfold isTxt at ht
              split at ht
              · exact s_raise1 g.good.calm g.tk (g.xcs _ _ hcs) (globC_gl g.good hg)
              · cases ht
            · exact bad_s
          · rename_i cs f kk hcs
            split
            · rename_i te ht
              obtain ⟨h1, _, h3, _⟩ := ie.e g ht
              exact s_raiseF g.good.calm g.tk (g.xcs _ _ hcs) (globC_gl g.good hg) (g.room.mono (by omega)) h3 h1
            · exact bad_s
          · exact bad_s
        · exact bad_s
      · exact bad_s
theorem try_s (ih : SS CX E P k n) (g : Ctx X CX E P k Wx c) {body : List Stmt} {hs : List ExceptHandler} {r : Str × Nat × Nat} {b : TB} {pos : Pos} (h1 : kTryH c hs = some r) (h2 : kB n c body = some b) : PS X (.Try body hs [] [] pos) (tS (cfg P k) E Wx (.try_ b r.1 r.2.1 r.2.2)) := by
  match hs, h1 with
  | [h], h1 =>
    have h1 : kTryH1 c h = some r := h1
    unfold kTryH1 at h1
    split at h1
    · rename_i x np y z p1 y' p2 pa pos' heq
      split at h1
      · rename_i hc
        obtain ⟨i, ei, h1⟩ := Option.bind_eq_some_iff.mp h1
        obtain ⟨j, ej, h1⟩ := Option.bind_eq_some_iff.mp h1
        cases h1
        unfold tryOk at hc
        simp only [Bool.and_eq_true, Bool.not_eq_true', decide_eq_true_eq] at hc
        obtain ⟨c1, rfl, c3, c4, c5, c6, c7, c8⟩ := hc
        obtain ⟨t1, t2, t3⟩ := g.top c1
        obtain ⟨l1, l2⟩ := g.good.fn z c5
        obtain ⟨u, hu⟩ := g.good.xty x c4
        have hln : X.env.kindOf y' = some .local := by
          show X.env.scope.names.lookup y' = some .local
          rw [g.good.sc]
          exact c6
        exact s_try g.good t1 t2 t3 g.tk hu (globC_gl g.good c3) ei ej hln l1 l2 c7 c8 fun W pn xe tk hp => ih.b (g.tr tk hp) h2
      · cases h1
    · cases h1
theorem ss_s (pasN : ∀ (Y : Cx) (σ : L2.St), PassesAt CX Y σ (WE noX σ)) (ih : SS CX E P k n) (g : Ctx X CX E P k Wx c) {s : Stmt} {ts : TS} (h : kS (n + 1) c s = some ts) : PS X s (tS (cfg P k) E Wx ts) := by
  have ie : SE CX E P k n := SE.all pasN n
  cases s with
  | Assign ts' e pos =>
    match ts', h with
    | [tg], h => exact ih.a g (show kAsg n c tg e = some ts from h)
  | AugAssign t op e pos =>
    cases t with
    | Attribute o f p =>
      have h : ((bopOf op).bind fun op => (kE n c o).bind fun o => (kE n c e).bind fun e => some (TS.augattr o f op e)) = some ts := h
      obtain ⟨o', e1, h⟩ := Option.bind_eq_some_iff.mp h
      obtain ⟨a', e2, h⟩ := Option.bind_eq_some_iff.mp h
      obtain ⟨b', e3, h⟩ := Option.bind_eq_some_iff.mp h
      cases h
      exact s_augattr g.fo e1 (ie.e g e2).1 (ie.e g e3).1
    | _ => cases h
  | Expr e pos =>
    have h : (if isLC e = false then (kE n c e).map TS.expr else none) = some ts := h
    split at h
    · rename_i hl
      obtain ⟨e', e1, h⟩ := Option.map_eq_some_iff.mp h
      subst h
      exact s_expr (ie.e g e1).1 (isLC_swaps hl ⟨_, _, _, e1⟩ _ _ _)
    · cases h
  | Return oe pos =>
    cases oe with
    | none => cases h; exact s_retN
    | some e =>
      obtain ⟨e', e1, h⟩ := Option.map_eq_some_iff.mp (show (kE n c e).map TS.ret = some ts from h)
      subst h
      exact s_ret (ie.e g e1).1
  | If t a b pos =>
    have h : ((kE n c t).bind fun t => (kB n c a).bind fun a => (kB n c b).bind fun b => some (TS.ite t a b)) = some ts := h
    obtain ⟨o', e1, h⟩ := Option.bind_eq_some_iff.mp h
    obtain ⟨a', e2, h⟩ := Option.bind_eq_some_iff.mp h
    obtain ⟨b', e3, h⟩ := Option.bind_eq_some_iff.mp h
    cases h
    exact s_if (ie.e g e1).2.1 (ih.b g e2) (ih.b g e3)
  | For tg iter b els pos =>
    replace h : (if els.isEmpty = true ∧ notSet iter = true then (kG c tg).bind fun g => (kI n c tg iter).bind fun src => (kB n c b).bind fun b => some (TS.for_ g src b) else none) = some ts := h
    split at h
    · rename_i hc
      obtain ⟨h1, h2⟩ := hc
      cases els with
      | cons _ _ => cases h1
      | nil =>
        obtain ⟨o', e1, h⟩ := Option.bind_eq_some_iff.mp h
        obtain ⟨a', e2, h⟩ := Option.bind_eq_some_iff.mp h
        obtain ⟨b', e3, h⟩ := Option.bind_eq_some_iff.mp h
        cases h
        exact s_for g.good (ie.i g e2) (kG_ok g.good e1) (ih.b g e3) (notSet_ok h2 _)
    · cases h
  | While t b els pos =>
    replace h : (if els.isEmpty = true then (kE n c t).bind fun t => (kB n c b).bind fun b => some (TS.while_ t b) else none) = some ts := h
    cases els with
    | cons _ _ => cases h
    | nil =>
      obtain ⟨o', e1, h⟩ := Option.bind_eq_some_iff.mp h
      obtain ⟨b', e3, h⟩ := Option.bind_eq_some_iff.mp h
      cases h
      exact s_while g.good (ie.e g e1).2.1 (ih.b g e3)
  | Break pos => cases h; exact s_brk
  | Continue pos => cases h; exact s_cont
  | Pass pos => cases h; exact s_pass
  | Raise a b pos =>
    cases h
    exact raise_s ie g
  | Try body hs els fin pos =>
    have h : (if els.isEmpty = true ∧ fin.isEmpty = true then (kTryH c hs).bind fun r => (kB n c body).bind fun b => some (TS.try_ b r.1 r.2.1 r.2.2) else none) = some ts := h
    split at h
    · rename_i hc
      rw [List.isEmpty_iff, List.isEmpty_iff] at hc
      obtain ⟨rfl, rfl⟩ := hc
      obtain ⟨r, e1, h⟩ := Option.bind_eq_some_iff.mp h
      obtain ⟨b, e2, h⟩ := Option.bind_eq_some_iff.mp h
      cases h
      exact try_s ih g e1 e2
    · cases h
  | _ => cases h
theorem ss_a (pasN : ∀ (Y : Cx) (σ : L2.St), PassesAt CX Y σ (WE noX σ)) (ih : SS CX E P k n) (g : Ctx X CX E P k Wx c) {tg e : Expr} {pos : Pos} {ts : TS} (h : kAsg (n + 1) c tg e = some ts) : PS X (.Assign [tg] e pos) (tS (cfg P k) E Wx ts) := by
  have ie : SE CX E P k n := SE.all pasN n
  cases tg with
  | Name x p =>
    have gen : ∀ (e : Expr), isLC e = false → ((kG1 c (.Name x p)).bind fun g => (kE n c e).map fun te => TS.asg g te) = some ts → PS X (.Assign [.Name x p] e pos) (tS (cfg P k) E Wx ts) := fun e hl h => by
      obtain ⟨g', e1, h⟩ := Option.bind_eq_some_iff.mp h
      obtain ⟨t', e2, h⟩ := Option.map_eq_some_iff.mp h
      subst h
      exact s_asg (ie.e g e2).1 (kG1_ok g.good e1).1 (isLC_soles hl ⟨_, _, _, e2⟩ _ _ _) (name_stores _) rfl
    cases e with
    | ListComp elt gens scope lp =>
      have h : ((kG1 c (.Name x p)).bind fun g => (kComp n c elt gens scope).map fun te => TS.asg g te) = some ts := h
      obtain ⟨g', e1, h⟩ := Option.bind_eq_some_iff.mp h
      obtain ⟨t', e2, h⟩ := Option.map_eq_some_iff.mp h
      subst h
      obtain ⟨kg, x', p', i, pr, ex, et, hl, hi⟩ := kG1_ok g.good e1
      cases ex
      subst et
      cases hs : swC X.env.scope scope x p lp with
      | false => exact s_asg (ie.comp g e2).1 kg (by rw [show swapsWithSole [Expr.Name x p] (.ListComp elt gens scope lp) pos.line X.env = swapsWith (.ListComp elt gens scope lp) (some (.Name x p)) pos.line X.env from rfl, swC_is, hs]) (name_stores _) rfl
      | true =>
        cases n with
        | zero => cases e2
        | succ n =>
          have ie' : SE CX E P k n := SE.all pasN n
          obtain ⟨tg, iter, ifs, src, tgI, ifsI, eltI, q⟩ := kComp_is e2
          obtain ⟨rfl, c1, c2, c3, k1, k2, k3, k4, hs', rfl⟩ := q
          have ok := blkOk_by c1
          rw [← g.good.sc] at ok
          have hloc : X.env.scope.names.lookup x = some .local := by
            unfold swC at hs
            simp only [Bool.and_eq_true] at hs
            exact eq_of_beq hs.1.1.2
          exact s_setLc g.good.calm (by rw [g.good.N]; exact g.good.nd) (by rw [g.good.N]; exact findIdx_get hi) hloc (by rw [swC_is, hs]) (ie'.i g k1) (by rw [g.good.N]; exact ok) (fun s H C' cl fp => kG_ok (g.blk pasN scope s H C' cl fp).good k2) (fun s H C' cl fp => ie'.ts (g.blk pasN scope s H C' cl fp) k3 c3)
            (fun s H C' cl fp => (ie'.e (g.blk pasN scope s H C' cl fp) k4).1) (notSet_ok c2 _) hs'
    | _ => exact gen _ rfl h
  | Tuple es kk p =>
    have h : (if isTup e = false then (kG c (.Tuple es kk p)).bind fun g => (kE n c e).map fun te => TS.asg g te else none) = some ts := h
    split at h
    · rename_i hc
      obtain ⟨g', e1, h⟩ := Option.bind_eq_some_iff.mp h
      obtain ⟨t', e2, h⟩ := Option.map_eq_some_iff.mp h
      subst h
      exact s_asg (ie.e g e2).1 (kG_ok g.good e1) (tup_sole _ _) (isTup_stores hc _) rfl
    · cases h
  | Subscript o i p =>
    have h : (if noSlice i = true then (kE n c o).bind fun o => (kE n c i).bind fun i => (kE n c e).bind fun e => some (TS.sub o i e) else none) = some ts := h
    split at h
    · rename_i hc
      obtain ⟨o', e1, h⟩ := Option.bind_eq_some_iff.mp h
      obtain ⟨i', e2, h⟩ := Option.bind_eq_some_iff.mp h
      obtain ⟨t', e3, h⟩ := Option.bind_eq_some_iff.mp h
      cases h
      exact s_sub g.good (ie.e g e1).1 (ie.e g e2).1 (ie.e g e3).1 (sub_sole _ _) (sub_stores _) rfl (sub_assign hc _)
    · cases h
  | Attribute o f p =>
    have h : ((kE n c o).bind fun o => (kE n c e).bind fun e => some (TS.attr o f e)) = some ts := h
    obtain ⟨o', e1, h⟩ := Option.bind_eq_some_iff.mp h
    obtain ⟨t', e3, h⟩ := Option.bind_eq_some_iff.mp h
    cases h
    exact s_attr g.fo (ie.e g e1).1 (ie.e g e3).1 (att_swaps _ _)
  | _ => cases h
theorem ss_b (ih : SS CX E P k n) (g : Ctx X CX E P k Wx c) {ss : List Stmt} {tb : TB} (h : kB (n + 1) c ss = some tb) : PSs X ss (tB (cfg P k) E Wx tb) := by
  cases ss with
  | nil => cases h; exact sB_nil
  | cons s ss =>
    have h : ((kS n c s).bind fun s => (kB n c ss).bind fun b => some (TB.cons s b)) = some tb := h
    obtain ⟨o', e1, h⟩ := Option.bind_eq_some_iff.mp h
    obtain ⟨t', e3, h⟩ := Option.bind_eq_some_iff.mp h
    cases h
    exact sB_cons (ih.s g e1) (ih.b g e3)
theorem SS.zero : SS CX E P k 0 := { s := fun _ _ _ h => (by cases h), a := fun _ _ _ _ _ h => (by cases h), b := fun _ _ _ h => (by cases h) }
theorem SS.all (pasN : ∀ (Y : Cx) (σ : L2.St), PassesAt CX Y σ (WE noX σ)) : ∀ n, SS CX E P k n
  | 0 => .zero
  | n + 1 => { s := fun g _ _ h => ss_s pasN (SS.all pasN n) g h, a := fun g _ _ _ _ h => ss_a pasN (SS.all pasN n) g h, b := fun g _ _ h => ss_b (SS.all pasN n) g h }
end
end EV

set_option autoImplicit false
set_option linter.all false
set_option maxRecDepth 10000
namespace EV
open PySem L2 PyProof.Rows

/-! ### the table of defs -/
structure DefOk (K : PySem.W.Frag) (c : SC) (d : Def) (fa : Addr) (fd : FuncData) (ps : List Str) : Prop where
  ex : ∃ (x qual : Str) (st : Stmt) (fuel : Nat), C8.Fun K x qual st fa fd ∧ FnScope c.N ps (C8.fnScope st) ∧ c.sc = C8.fnScope st ∧ c.st = C8.fnScope st ∧ kB fuel c (C8.fnBody st) = some d.body
  nl : c.N.length = d.n
  len : ps.length = d.ps
  bind : ∀ m, m ≤ d.dfl.length → ∃ ds dvs, Binds K fd ps ds ∧ Vals dvs ds ∧ ∀ H F ι, ∀ E : Env, IsL E H F ι (d.dfl.drop (d.dfl.length - m)) dvs
structure Txt (w : World) (K : PySem.W.Frag) (mg : Str → Option Value) (E : Env) (P : Prog) (fns clss meths : List Str) : Prop where
  hfns : ∀ f, fns.contains f = true → ∃ d fa fd ps c, P.defs f = some d ∧ (c.fns = fns ∧ c.clss = clss ∧ c.meths = meths ∧ c.xty = E.xtl ∧ c.xcs = E.xcl) ∧ DefOk K c d fa fd ps ∧ mg f = some (.ref fa) ∧ PySem.W.keepIn K (.ref fa) = true
  hclss : ∀ f, clss.contains f = true → ∃ d CA fa fd ps c, P.defs f = some d ∧ (c.fns = fns ∧ c.clss = clss ∧ c.meths = meths ∧ c.xty = E.xtl ∧ c.xcs = E.xcl) ∧ DefOk K c d fa fd ps ∧ Mk K CA fa ∧ E.cls f = some CA ∧ mg f = some (.ref CA)
  hmths : ∀ m, meths.contains m = true → ∃ cn CA d fa fd ps c, E.cls cn = some CA ∧ P.flds cn (dotS m) = true ∧ (∀ c' CA', E.cls c' = some CA' → P.flds c' (dotS m) = true → CA' = CA) ∧ P.defs (dotS m) = some d ∧ (c.fns = fns ∧ c.clss = clss ∧ c.meths = meths ∧ c.xty = E.xtl ∧ c.xcs = E.xcl) ∧ DefOk K c d fa fd ps ∧ L2.Cls K CA ∧ Meth K CA m fa
  glob : ∀ x d, P.G x = some d → ∃ v u, mg x = some u ∧ RelV v u ∧ ∀ H F ι, Is E H F ι d v
  blt : ∀ x, x ∈ bltNames → fns.contains x = false → clss.contains x = false → mg x = none
  fld : ∀ c C f, E.cls c = some C → P.flds c f = true → Cls K C ∧ NoAttr K C f
  xf : ∀ cs C f, E.xc cs = some C → P.flds (cs.headD Str.empty) f = true → XfC K C ∧ PySem.W.findIn K (.ref C) f = some none
  EK : E.K = K
  xc : ∀ cs C, E.xc cs = some C → ExcC K C
  xt : ∀ x u, E.xt x = some u → XtOk E K mg x u
  xtl : ∀ x, E.xtl.contains x = true → ∃ u, E.xt x = some u
  xcl : ∀ x cs, E.xcl.lookup x = some cs → XcOk E K mg x cs
  kd : ∀ a kvs, E.kd a kvs → (∃ es n, KDict K w a es n) ∧ ∀ z : Str, ∃ r, PySem.W.nsIn K a z = some r ∧ RelO (valV kvs (.inr z)) r
section
variable {PR : Program} {w : World} {K : PySem.W.Frag} {mg : Str → Option Value} {E : Env} {P : Prog} {fns clss meths : List Str}
theorem noX_pass (Y : Cx) (σ : L2.St) : PassesAt (L2.CX PR w) Y σ (WE noX σ) := fun pins H s e s' I c => by
  obtain ⟨a, B, H', cls, d, _, _, _, _, _, _, _, h⟩ := c
  exact h.elim
theorem fn_ok (T : Txt w K mg E P fns clss meths) : ∀ (k : Nat) (base : Heap) {c : SC} {d : Def} {fa : Addr} {fd : FuncData} {ps : List Str}, c.fns = fns ∧ c.clss = clss ∧ c.meths = meths ∧ c.xty = E.xtl ∧ c.xcs = E.xcl → DefOk K c d fa fd ps →
    FnOk PR w K mg base (L2.CX PR w) (2 * k + 2) fa fd ps (spC E P d k)
  | 0, base, c, d, fa, fd, ps, hc, D => ⟨fun vs H Q E' h => h.elim, fun A outer s H args us vs Q E' hr e0 hb r h => h.elim⟩
  | k + 1, base, c, d, fa, fd, ps, hc, D => by
    obtain ⟨x, qual, st, fuel, F, S, e1, e2, hk⟩ := D.ex
    obtain ⟨oc, od, dV, kV, doc, pm, an, cdv, ct, osl, rfl, lk, hcd⟩ := F.ex
    refine fn_of (k := 2 * k + 3) lk hcd S (fun vs H Q E' h => ?_) fun A outer s H vs Q E' hr hsp => ?_
    · rw [h.1, D.len]
    · obtain ⟨hl, as, St, Fo, ι, ω, R, hh⟩ := hsp
      have es : L2.start c.N vs = startV d.n vs := by
        unfold L2.start startV
        rw [D.nl]
      have cx : Ctx (cxOf (L2.CX PR w) PR w K mg base c.N qual (C8.fnScope st) fa cdv A outer s H E') (L2.CX PR w) E P k (fun cls d _ H' => E' cls d H') c := by
        refine ⟨⟨⟨T.EK, T.kd, T.xc, T.xt⟩, rfl, S.nd, e1.symm, rfl, ?_, passes_of rfl, fun x hx => ⟨?_, .inl rfl⟩, T.glob, fun x hx h1 h2 => T.blt x hx (by rw [← hc.1]; exact h1) (by rw [← hc.2.1]; exact h2), fun x hx => T.xtl x (by rw [← hc.2.2.2.1]; exact hx)⟩, ⟨T.fld, T.xf⟩, hr, fun σ => passAt (takes_of rfl rfl rfl rfl) σ, fun f hf => ?_, fun f hf => ?_, fun m hm => ?_, takes_of rfl rfl rfl rfl, fun _ => ⟨rfl, rfl, rfl⟩, fun x cs hx => T.xcl x cs (by rw [← hc.2.2.2.2]; exact hx), rfl⟩
        · have := hr.un
          show (A.deeper _).units + 65 < cLine
          omega
        · rw [e2] at hx
          exact locC_loc hx
        · obtain ⟨d', fa', fd', ps', c', k1, k2, k3, k4, k5⟩ := T.hfns f (by rw [← hc.1]; exact hf)
          exact ⟨d', fa', fd', ps', k1, ⟨k3.len, fn_ok T k base k2 k3, fun m hm => by
            obtain ⟨ds, dvs, b1, b2, b3⟩ := k3.bind m hm
            exact ⟨ds, dvs, b1, b2, fun H F ι => b3 H F ι E⟩⟩, k4, k5⟩
        · obtain ⟨d', CA, fa', fd', ps', c', k1, k2, k3, k4, k5, k6⟩ := T.hclss f (by rw [← hc.2.1]; exact hf)
          exact ⟨d', CA, fa', fd', ps', k1, ⟨k3.len, fn_ok T k base k2 k3, fun m hm => by
            obtain ⟨ds, dvs, b1, b2, b3⟩ := k3.bind m hm
            exact ⟨ds, dvs, b1, b2, fun H F ι => b3 H F ι E⟩⟩, k4, k5, k6⟩
        · obtain ⟨cn, CA, d', fa', fd', ps', c', k1, k2, k3, k4, k5, k6, k7, k8⟩ := T.hmths m (by rw [← hc.2.2.1]; exact hm)
          exact ⟨cn, CA, d', fa', fd', ps', k1, k2, k3, k4, ⟨k6.len, fn_ok T k base k5 k6, fun m hm => by
            obtain ⟨ds, dvs, b1, b2, b3⟩ := k6.bind m hm
            exact ⟨ds, dvs, b1, b2, fun H F ι => b3 H F ι E⟩⟩, k7, k8⟩
      refine ⟨_, (SS.all noX_pass fuel).b cx hk, ?_⟩
      rw [es]
      exact ⟨Fo, noP, ι, ω, _, R, hh⟩
/-- no list stands in the written part -/
def noList (K : PySem.W.Frag) : Bool := K.all fun p => match p.2.cls with
  | .type s => !(s == "list")
  | _ => true
theorem lookup_in {α β : Type} [BEq α] [LawfulBEq α] {a : α} {b : β} : ∀ {l : List (α × β)}, l.lookup a = some b → (a, b) ∈ l
  | [], h => by cases h
  | (x, y) :: l, h => by
    rw [List.lookup_cons] at h
    split at h
    · rename_i e
      cases h
      rw [eq_of_beq e]
      exact List.mem_cons_self
    · exact List.mem_cons_of_mem _ (lookup_in h)
theorem noList_ok (h : noList K = true) {a : Addr} {o : Obj} (e : K.lookup a = some o) (hc : o.cls = .type "list") : False := by
  unfold noList at h
  have := List.all_eq_true.mp h (a, o) (lookup_in e)
  simp only [hc] at this
  cases this
/-- THE END: the law's def, asked at a script -/
theorem law_sp {d : Def} {k : Nat} {ns : List Int} {a : Addr} {H : Hp} {S' : List D} (hn : noList K = true) (hS : SqL K H a (ns.map V.int)) (hd : P.defs "law" = some d) (h1 : d.ps = 1) (h0 : 1 ≤ d.n)
    {Q : VK} {Ex : XK} (hQ : ∀ H', Q (.bl true) H') (h : callN P k "law" [(.lst (ns.map .int), .sh)] [] = .ok (.bl true, false) S') : spC E P d k [.ref a] H Q Ex := by
  have hr : Rd H a (.lst (ns.map V.int)) := by
    rcases hS with hS | ⟨o, its, n, hk, hc, _⟩
    · exact hS
    · exact (noList_ok hn hk hc).elim
  cases k with
  | zero => cases h
  | succ k =>
    rw [callN, hd] at h
    simp only [h1, List.length_cons, List.length_nil, Nat.zero_add, Nat.sub_self, Nat.le_refl, Nat.zero_le, decide_true, Bool.and_self, if_true, Nat.sub_zero, List.drop_length, List.map_nil, List.append_nil] at h
    have is : ∀ (l : List Int) (F : Addr → Prop), IsL E H F [] (l.map D.int) (l.map V.int) := fun l F => by
      induction l with
      | nil => exact rfl
      | cons i l ih => exact ⟨V.int i, l.map V.int, rfl, rfl, ih⟩
    have nF : ∀ b, ¬ FF noP noP [] (List.replicate d.n none) b := fun b z => by
      rcases z with z | z | z | ⟨i, z⟩
      · exact z
      · exact z
      · cases z
      · rw [List.getElem?_replicate] at z
        split at z <;> cases z
    have hω : ∀ i : Nat, i < d.n → (List.replicate d.n (none : Option Addr))[i]? = some none := fun i hi => by
      rw [List.getElem?_replicate, if_pos hi]
    have hωn : ∀ (i : Nat) (b : Addr), (List.replicate d.n (none : Option Addr))[i]? ≠ some (some b) := fun i b z => by
      rw [List.getElem?_replicate] at z
      split at z <;> cases z
    have R : Rel E noP noP [] (List.replicate d.n none) (startV d.n [.ref a]) H ⟨startS d.n [(.lst (ns.map .int), .sh)], []⟩ := by
      refine ⟨rfl, ?_, ?_, fun m n b e => (by cases e), fun m n b e => absurd e (hωn m b), fun b z => z.elim, fun b z => z.elim, fun b z => z.elim, fun b z => z.elim, fun b z => z.elim, fun b z => (by cases z), fun b z => (nF b z).elim, fun n c e => (by cases e), fun i s e => ?_⟩
      · simp [startV, startS]
      · simp [startS]
        omega
      · cases i with
        | zero =>
          have e : some (some ((D.lst (ns.map .int), Own.sh) : D × Own)) = some s := e
          cases e
          exact ⟨hω 0 h0, .ref a, rfl, a, _, rfl, ⟨hr, nF a⟩, is ns _⟩
        | succ i =>
          have e : (List.replicate (d.n - 1) (none : Slot))[i]? = some s := e
          rw [List.getElem?_replicate] at e
          split at e
          · cases e
            exact hω _ (by omega)
          · cases e
    refine ⟨by rw [h1]; rfl, [(.lst (ns.map .int), .sh)], [], noP, [], List.replicate d.n none, R, ?_⟩
    have h : (match exB (cfg P k) d.body ⟨startS d.n [(.lst (ns.map .int), .sh)], []⟩ with
        | .ok (.ret h) s => (.ok (gc 0 h s.S).1 (gc 0 h s.S).2 : Res (List D) Hd)
        | .ok .next s => .ok (gc 0 (.non, false) s.S).1 (gc 0 (.non, false) s.S).2
        | .ok _ _ => .stuck
        | .exc x s => .exc x s.S
        | .stuck => .stuck) = .ok (.bl true, false) S' := h
    cases hx : exB (cfg P k) d.body ⟨startS d.n [(.lst (ns.map .int), .sh)], []⟩ with
    | stuck => rw [hx] at h; cases h
    | exc x s => rw [hx] at h; cases h
    | ok f s =>
      rw [hx] at h
      cases f with
      | brk => cases h
      | cont => cases h
      | next =>
        have h : (Res.ok (gc 0 (.non, false) s.S).1 (gc 0 (.non, false) s.S).2 : Res (List D) Hd) = .ok (.bl true, false) S' := h
        rw [gc_fst] at h
        cases h
      | ret hd' =>
        have h : (Res.ok (gc 0 hd' s.S).1 (gc 0 hd' s.S).2 : Res (List D) Hd) = .ok (.bl true, false) S' := h
        rw [gc_fst] at h
        obtain ⟨e1, _⟩ := Res.ok.inj h
        subst e1
        exact fun T ι' ω' σ' H' _ g v q _ => by rw [show v = .bl true from q.bl]; exact hQ H'
def spLaw (K : PySem.W.Frag) : Sp := fun vs H Q _ => ∃ (a : Addr) (ns : List Int), vs = [.ref a] ∧ SqL K H a (ns.map V.int) ∧ ns.length ≤ 63 ∧ (∀ z ∈ ns, Builtin.Int.intBits z ≤ 1048576) ∧ ∀ H', Q (.bl true) H'
/-- what is to be shown of the evaluator -/
def LawTrue (P : Prog) (k : Nat) : Prop := ∀ ns : List Int, ns.length ≤ 63 → (∀ z ∈ ns, Builtin.Int.intBits z ≤ 1048576) → ∃ S', callN P k "law" [(.lst (ns.map .int), .sh)] [] = .ok (.bl true, false) S'
theorem law_fn (T : Txt w K mg E P fns clss meths) (hn : noList K = true) {k : Nat} {c : SC} {d : Def} {fa : Addr} {fd : FuncData} {ps : List Str} (hc : c.fns = fns ∧ c.clss = clss ∧ c.meths = meths ∧ c.xty = E.xtl ∧ c.xcs = E.xcl) (D : DefOk K c d fa fd ps) (hd : P.defs "law" = some d) (h1 : d.ps = 1) (h0 : 1 ≤ d.n) (hl : LawTrue P k) (base : Heap) :
    FnOk PR w K mg base (L2.CX PR w) (2 * k + 2) fa fd ps (spLaw K) := (fn_ok T k base hc D).imp fun vs H Q Ex h => by
  obtain ⟨a, ns, rfl, hS, h63, hb, hQ⟩ := h
  obtain ⟨S', e⟩ := hl ns h63 hb
  exact law_sp hn hS hd h1 h0 hQ e
theorem walk {l : PySem.W.OpenLaw} {q : Program} {loose : List Str} {XP : (Str → Option Value) → Heap → Prop} {YP : World → Heap → Prop} {d : DefRec} {K : Params → PySem.W.Frag} {k : Nat} {x : Str} (hn : l.most = some 63) (hdf : d.params.defaults = []) (hr : Room (2 * k + 2) callerA)
    (hY : ∀ (w : World) (h : Heap), YP w h → (K w.params).In h)
    (F : ∀ (w : World) (mg : Str → Option Value) (fa : Addr) (h : Heap), (K w.params).In h → h.Ns mainGlobals mg → mg d.name = some (.ref fa) →
      ∃ fd : FuncData, (∀ (s : Shared) (u : Value), BindsTo s fd ⟨[u], []⟩ [(x, u)]) ∧ ∀ base : Heap, (K w.params).In base → base.Ns mainGlobals mg → FnOk l.prog w (K w.params) mg base (L2.CX l.prog w) (2 * k + 2) fa fd [x] (spLaw (K w.params))) :
    PySem.W.WalkO q loose XP YP l.row.toRowW d [] (fun f vs => PySem.call f vs) :=
  L2.walk_ofB (n := 63) (k := 2 * k + 2) (x := x) (CX := fun w => L2.CX l.prog w) (sp := fun w => spLaw (K w.params)) hn (by decide) hdf hr hY F (fun _ _ a ns hl hb _ hS => ⟨a, ns, rfl, hS, hl, hb, fun _ => rfl⟩) fun _ _ _ _ _ z => by
    obtain ⟨a, B, H', cls, d, _, _, _, _, _, _, _, h⟩ := z
    exact h
/-- the table's rows, one by one -/
def FnsOk (K : PySem.W.Frag) (mg : Str → Option Value) (E : Env) (P : Prog) (fns clss meths : List Str) : List Str → Prop
  | [] => True
  | f :: l => (∃ d fa fd ps c, P.defs f = some d ∧ (c.fns = fns ∧ c.clss = clss ∧ c.meths = meths ∧ c.xty = E.xtl ∧ c.xcs = E.xcl) ∧ DefOk K c d fa fd ps ∧ mg f = some (.ref fa) ∧ PySem.W.keepIn K (.ref fa) = true) ∧ FnsOk K mg E P fns clss meths l
theorem fnsOk_mem : ∀ {l : List Str} {f : Str}, FnsOk K mg E P fns clss meths l → l.contains f = true → ∃ d fa fd ps c, P.defs f = some d ∧ (c.fns = fns ∧ c.clss = clss ∧ c.meths = meths ∧ c.xty = E.xtl ∧ c.xcs = E.xcl) ∧ DefOk K c d fa fd ps ∧ mg f = some (.ref fa) ∧ PySem.W.keepIn K (.ref fa) = true
  | [], f, _, h => by simp at h
  | g :: l, f, ⟨h1, h2⟩, h => by
    by_cases e : f = g
    · subst e; exact h1
    · refine fnsOk_mem h2 ?_
      simp only [List.contains_cons, Bool.or_eq_true, beq_iff_eq] at h
      exact h.resolve_left e
def ClsOk (K : PySem.W.Frag) (mg : Str → Option Value) (E : Env) (P : Prog) (fns clss meths : List Str) : List Str → Prop
  | [] => True
  | f :: l => (∃ d CA fa fd ps c, P.defs f = some d ∧ (c.fns = fns ∧ c.clss = clss ∧ c.meths = meths ∧ c.xty = E.xtl ∧ c.xcs = E.xcl) ∧ DefOk K c d fa fd ps ∧ Mk K CA fa ∧ E.cls f = some CA ∧ mg f = some (.ref CA)) ∧ ClsOk K mg E P fns clss meths l
theorem clsOk_mem : ∀ {l : List Str} {f : Str}, ClsOk K mg E P fns clss meths l → l.contains f = true → ∃ d CA fa fd ps c, P.defs f = some d ∧ (c.fns = fns ∧ c.clss = clss ∧ c.meths = meths ∧ c.xty = E.xtl ∧ c.xcs = E.xcl) ∧ DefOk K c d fa fd ps ∧ Mk K CA fa ∧ E.cls f = some CA ∧ mg f = some (.ref CA)
  | [], f, _, h => by simp at h
  | g :: l, f, ⟨h1, h2⟩, h => by
    by_cases e : f = g
    · subst e; exact h1
    · refine clsOk_mem h2 ?_
      simp only [List.contains_cons, Bool.or_eq_true, beq_iff_eq] at h
      exact h.resolve_left e
def MthsOk (K : PySem.W.Frag) (E : Env) (P : Prog) (fns clss meths : List Str) : List Str → Prop
  | [] => True
  | m :: l => (∃ cn CA d fa fd ps c, E.cls cn = some CA ∧ P.flds cn (dotS m) = true ∧ (∀ c' CA', E.cls c' = some CA' → P.flds c' (dotS m) = true → CA' = CA) ∧ P.defs (dotS m) = some d ∧ (c.fns = fns ∧ c.clss = clss ∧ c.meths = meths ∧ c.xty = E.xtl ∧ c.xcs = E.xcl) ∧ DefOk K c d fa fd ps ∧ L2.Cls K CA ∧ Meth K CA m fa) ∧ MthsOk K E P fns clss meths l
theorem mthsOk_mem : ∀ {l : List Str} {m : Str}, MthsOk K E P fns clss meths l → l.contains m = true → ∃ cn CA d fa fd ps c, E.cls cn = some CA ∧ P.flds cn (dotS m) = true ∧ (∀ c' CA', E.cls c' = some CA' → P.flds c' (dotS m) = true → CA' = CA) ∧ P.defs (dotS m) = some d ∧ (c.fns = fns ∧ c.clss = clss ∧ c.meths = meths ∧ c.xty = E.xtl ∧ c.xcs = E.xcl) ∧ DefOk K c d fa fd ps ∧ L2.Cls K CA ∧ Meth K CA m fa
  | [], f, _, h => by simp at h
  | g :: l, f, ⟨h1, h2⟩, h => by
    by_cases e : f = g
    · subst e; exact h1
    · refine mthsOk_mem h2 ?_
      simp only [List.contains_cons, Bool.or_eq_true, beq_iff_eq] at h
      exact h.resolve_left e
def BltsOk (mg : Str → Option Value) (fns clss : List Str) : List Str → Prop
  | [] => True
  | x :: l => (fns.contains x = true ∨ clss.contains x = true ∨ mg x = none) ∧ BltsOk mg fns clss l
theorem bltsOk_mem : ∀ {l : List Str} {x : Str}, BltsOk mg fns clss l → x ∈ l → fns.contains x = false → clss.contains x = false → mg x = none
  | [], f, _, h, _, _ => by cases h
  | g :: l, f, ⟨h1, h2⟩, h, k1, k2 => by
    by_cases e : f = g
    · subst e
      rcases h1 with h1 | h1 | h1
      · rw [k1] at h1; cases h1
      · rw [k2] at h1; cases h1
      · exact h1
    · exact bltsOk_mem h2 ((List.mem_cons.mp h).resolve_left e) k1 k2
/-- a class's fields -/
def FldsOk (K : PySem.W.Frag) (C : Addr) : List Str → Prop
  | [] => True
  | f :: l => NoAttr K C f ∧ FldsOk K C l
theorem fldsOk_mem {C : Addr} : ∀ {l : List Str} {f : Str}, FldsOk K C l → f ∈ l → NoAttr K C f
  | [], _, _, h => by cases h
  | g :: l, f, ⟨h1, h2⟩, h => by
    by_cases e : f = g
    · subst e; exact h1
    · exact fldsOk_mem h2 ((List.mem_cons.mp h).resolve_left e)
/-- no defaults -/
theorem bind0 {fd : FuncData} {ps : List Str} {d : Def} (hd : d.dfl = []) (b : Binds K fd ps []) : ∀ m, m ≤ d.dfl.length → ∃ ds dvs, Binds K fd ps ds ∧ Vals dvs ds ∧ ∀ H F ι, ∀ E : Env, IsL E H F ι (d.dfl.drop (d.dfl.length - m)) dvs := fun m hm => by
  rw [hd]
  exact ⟨[], [], b, .nil, fun H F ι E => by simp [IsL]⟩
end
end EV

set_option autoImplicit false
set_option linter.all false
set_option maxRecDepth 10000
namespace EV
open PySem L2 PyProof.Rows

/-! ### the constants at the top -/
mutual
def conK (K : PySem.W.Frag) : D → Value → Bool
  | .non, .none => true
  | .bl b, .bool c => b == c
  | .int i, .int j _ => decide (i = j)
  | .str s, .str t _ => decide (s = t)
  | .tup ds, .ref a => match K.lookup a with
    | some ⟨.type c, _, .seq its _, _⟩ => decide (c = "tuple") && decide (its.size ≤ 1000) && conKL K ds its.toList
    | _ => false
  | _, _ => false
def conKL (K : PySem.W.Frag) : List D → List Value → Bool
  | [], [] => true
  | d :: ds, u :: us => conK K d u && conKL K ds us
  | _, _ => false
end
mutual
theorem conK_ok {K : PySem.W.Frag} : ∀ {d : D} {u : Value}, conK K d u = true → ∃ v, RelV v u ∧ ∀ (E : Env) H F ι, E.K = K → Is E H F ι d v
  | .non, u, h => by
    cases u <;> first | (cases h; done) | exact ⟨.non, rfl, fun _ _ _ _ _ => rfl⟩
  | .bl b, u, h => by
    cases u <;> first | (cases h; done) | skip
    rename_i c
    have h : (b == c) = true := h
    exact ⟨.bl b, by rw [eq_of_beq h]; exact rfl, fun _ _ _ _ _ => rfl⟩
  | .int i, u, h => by
    cases u <;> first | (cases h; done) | skip
    rename_i c t
    have h : decide (i = c) = true := h
    have h := of_decide_eq_true h
    subst h
    exact ⟨.int i, ⟨_, rfl⟩, fun _ _ _ _ _ => rfl⟩
  | .str i, u, h => by
    cases u <;> first | (cases h; done) | skip
    rename_i c t
    have h : decide (i = c) = true := h
    have h := of_decide_eq_true h
    subst h
    exact ⟨.str i, ⟨_, rfl⟩, fun _ _ _ _ _ => rfl⟩
  | .tup ds, u, h => by
    cases u <;> first | (cases h; done) | skip
    rename_i a
    have h : (match K.lookup a with
      | some ⟨.type c, _, .seq its _, _⟩ => decide (c = "tuple") && decide (its.size ≤ 1000) && conKL K ds its.toList
      | _ => false) = true := h
    split at h
    · rename_i c od its n sl e
      simp only [Bool.and_eq_true, decide_eq_true_eq] at h
      obtain ⟨⟨rfl, h2⟩, h3⟩ := h
      obtain ⟨vs, r, q⟩ := conKL_ok h3
      exact ⟨.ref a, rfl, fun E H F ι hE => ⟨a, vs, rfl, .inr ⟨_, its, n, by rw [hE]; exact e, rfl, rfl, by rw [sizeLine_eq]; omega, r⟩, q E H F ι hE⟩⟩
    · cases h
  | .lst _, u, h => by cases u <;> cases h
  | .dic _ _, u, h => by cases u <;> cases h
  | .kon _ _, u, h => by cases u <;> cases h
  | .ins _ _ _, u, h => by cases u <;> cases h
  | .ref _, u, h => by cases u <;> cases h
  | .loc _, u, h => by cases u <;> cases h
theorem conKL_ok {K : PySem.W.Frag} : ∀ {ds : List D} {us : List Value}, conKL K ds us = true → ∃ vs, Vals vs us ∧ ∀ (E : Env) H F ι, E.K = K → IsL E H F ι ds vs
  | [], [], _ => ⟨[], .nil, fun _ _ _ _ _ => rfl⟩
  | [], _ :: _, h => by cases h
  | _ :: _, [], h => by cases h
  | d :: ds, u :: us, h => by
    have h : (conK K d u && conKL K ds us) = true := h
    rw [Bool.and_eq_true] at h
    obtain ⟨v, r, q⟩ := conK_ok h.1
    obtain ⟨vs, rs, qs⟩ := conKL_ok h.2
    exact ⟨v :: vs, .cons r rs, fun E H F ι hE => ⟨v, vs, rfl, q E H F ι hE, qs E H F ι hE⟩⟩
end
/-- what is asked of a dict of the top -/
def KdIs (K : PySem.W.Frag) (w : World) (a : Addr) (kvs : List (Key × V)) : Prop := (∃ es n, KDict K w a es n) ∧ ∀ z : Str, ∃ r, PySem.W.nsIn K a z = some r ∧ RelO (valV kvs (.inr z)) r
def conKD (K : PySem.W.Frag) (a : Addr) (vs : List D) : Bool := match K.lookup a with
  | some ⟨_, _, .dict es _, _⟩ => conKL K vs (es.toList.map (·.val))
  | _ => false
theorem find_keys {P : Params} {z : Str} : ∀ {l : List DictEntry} {ks : List Str} {xs : List V}, l.map He.keyOf = He.keysIn P ks → Vals xs (l.map (·.val)) →
    (l.any (·.refKey) = false) ∧ RelO (valV ((ks.map (Sum.inr : Str → Key)).zip xs) (.inr z)) ((l.find? (·.key.isStr z)).map (·.val))
  | [], ks, xs, h, r => by
    cases ks with
    | cons _ _ => cases h
    | nil => exact ⟨rfl, trivial⟩
  | e :: l, [], xs, h, r => by cases h
  | e :: l, k :: ks, xs, h, r => by
    cases r with
    | cons r1 r2 =>
      rename_i x xs
      have h1 : He.keyOf e :: l.map He.keyOf = some (k, PyData.keyHash P k) :: He.keysIn P ks := h
      injection h1 with h2 h3
      obtain ⟨q1, q2⟩ := find_keys (z := z) h3 r2
      obtain ⟨hh, key, val⟩ := e
      unfold He.keyOf at h2
      dsimp only at h2
      split at h2
      · rename_i kk y t
        have h4 := Option.some.inj h2
        obtain ⟨h5, _⟩ := Prod.mk.inj h4
        subst h5
        refine ⟨?_, ?_⟩
        · rw [List.any_cons, q1]
          rfl
        · by_cases hz : y = z
          · subst hz
            have e1 : (DictEntry.mk hh (.str y t) val :: l).find? (·.key.isStr y) = some ⟨hh, .str y t, val⟩ := List.find?_cons_of_pos (by simp [Value.isStr])
            rw [e1]
            show RelO (valV ((Sum.inr y, x) :: _) (.inr y)) _
            rw [valV_pos rfl]
            exact r1
          · have e1 : (DictEntry.mk hh (.str y t) val :: l).find? (·.key.isStr z) = l.find? (·.key.isStr z) := List.find?_cons_of_neg (by simp [Value.isStr, hz])
            rw [e1]
            show RelO (valV ((Sum.inr y, x) :: _) (.inr z)) _
            rw [valV_neg (by intro h; cases h; exact hz rfl)]
            exact q2
      · cases h2
theorem conKD_ok {K : PySem.W.Frag} {w : World} {a : Addr} {ks : List Str} {vs : List D} (h1 : He.dicW K a = some (He.keysIn w.params ks)) (h2 : conKD K a vs = true) (hl : ks.length = vs.length) :
    ∀ (E : Env) H F ι, E.K = K → E.kd = KdIs K w → Is E H F ι (.kon (ks.map .str) vs) (.ref a) := by
  obtain ⟨es, n, D⟩ := He.dicW_ok h1
  have h3 : es.toList.map He.keyOf = He.keysIn w.params ks := by
    unfold He.dicW at h1
    rw [D.at_] at h1
    have h1 : (match decide (("dict" : String) = "dict") && ((#[] : Array (Option Value)).isEmpty && !(a == sysModules)) with
      | true => some (es.toList.map He.keyOf)
      | false => none) = some (He.keysIn w.params ks) := h1
    rw [D.low] at h1
    exact Option.some.inj h1
  have h4 : conKL K vs (es.toList.map (·.val)) = true := by
    unfold conKD at h2
    rw [D.at_] at h2
    exact h2
  obtain ⟨xs, r, q⟩ := conKL_ok h4
  have hx : ks.length = xs.length := by
    have e1 := r.length
    rw [List.length_map] at e1
    have e2 := congrArg List.length h3
    unfold He.keysIn at e2
    rw [List.length_map, List.length_map] at e2
    omega
  intro E H F ι hE hK
  refine ⟨a, (ks.map (Sum.inr : Str → Key)).zip xs, rfl, ?_, ?_, ?_⟩
  · rw [hK]
    refine ⟨⟨es, n, D⟩, fun z => ?_⟩
    obtain ⟨q1, q2⟩ := find_keys (z := z) h3 r
    refine ⟨(es.toList.find? (·.key.isStr z)).map (·.val), ?_, q2⟩
    unfold PySem.W.nsIn
    rw [D.at_]
    dsimp only
    cases hf : es.toList.find? (·.key.isStr z) with
    | some e => rfl
    | none => dsimp only; rw [q1]; rfl
  · have e1 : (((ks.map (Sum.inr : Str → Key)).zip xs).map fun p => keyD p.1) = ((ks.map (Sum.inr : Str → Key)).zip xs).unzip.1.map keyD := by
      rw [List.unzip_fst, List.map_map]
      rfl
    rw [e1, List.unzip_zip (by rw [List.length_map]; exact hx)]
    rw [List.map_map]
    rfl
  · have e1 : ((ks.map (Sum.inr : Str → Key)).zip xs).map (·.2) = xs := by
      rw [List.map_snd_zip (by rw [List.length_map]; omega)]
    rw [e1]
    exact q E H F ι hE
def GlobsOk (K : PySem.W.Frag) (w : World) (mg : Str → Option Value) : List (Str × D) → Prop
  | [] => True
  | p :: l => (∃ v u, mg p.1 = some u ∧ RelV v u ∧ ∀ (E : Env) H F ι, E.K = K → E.kd = KdIs K w → Is E H F ι p.2 v) ∧ GlobsOk K w mg l
theorem globsOk_mem {K : PySem.W.Frag} {w : World} {mg : Str → Option Value} : ∀ {l : List (Str × D)} {x : Str} {d : D}, GlobsOk K w mg l → l.lookup x = some d → ∃ v u, mg x = some u ∧ RelV v u ∧ ∀ (E : Env) H F ι, E.K = K → E.kd = KdIs K w → Is E H F ι d v
  | [], _, _, _, h => by cases h
  | p :: l, x, d, ⟨h1, h2⟩, h => by
    obtain ⟨y, e⟩ := p
    rw [List.lookup_cons] at h
    split at h
    · rename_i he
      cases h
      rw [eq_of_beq he]
      exact h1
    · exact globsOk_mem h2 h
theorem glob_con {K : PySem.W.Frag} {w : World} {mg : Str → Option Value} {x : Str} {d : D} {u : Value} (h1 : mg x = some u) (h2 : conK K d u = true) : ∃ v u, mg x = some u ∧ RelV v u ∧ ∀ (E : Env) H F ι, E.K = K → E.kd = KdIs K w → Is E H F ι d v := by
  obtain ⟨v, r, q⟩ := conK_ok h2
  exact ⟨v, u, h1, r, fun E H F ι hE _ => q E H F ι hE⟩
theorem glob_kon {K : PySem.W.Frag} {w : World} {mg : Str → Option Value} {x : Str} {a : Addr} {ks : List Str} {vs : List D} (h0 : mg x = some (.ref a)) (h1 : He.dicW K a = some (He.keysIn w.params ks)) (h2 : conKD K a vs = true) (hl : ks.length = vs.length) :
    ∃ v u, mg x = some u ∧ RelV v u ∧ ∀ (E : Env) H F ι, E.K = K → E.kd = KdIs K w → Is E H F ι (.kon (ks.map .str) vs) v := ⟨.ref a, .ref a, h0, rfl, conKD_ok h1 h2 hl⟩
/-- a table's rows, one by one -/
def XLs {α β : Type} (p : α → β → Prop) : List (α × β) → Prop
  | [] => True
  | (a, b) :: l => p a b ∧ XLs p l
theorem xls_mem {α β : Type} [BEq α] [LawfulBEq α] {p : α → β → Prop} : ∀ {l : List (α × β)} {a : α} {b : β}, XLs p l → l.lookup a = some b → p a b
  | [], _, _, _, h => by cases h
  | (x, y) :: l, a, b, ⟨h1, h2⟩, h => by
    rw [List.lookup_cons] at h
    split at h
    · rename_i e
      cases h
      rw [eq_of_beq e]
      exact h1
    · exact xls_mem h2 h
theorem xls_has {β : Type} : ∀ {l : List (Str × β)} {ks : List Str} {x : Str}, l.map (·.1) = ks → ks.contains x = true → ∃ u, l.lookup x = some u
  | [], ks, x, e, h => by subst e; cases h
  | (y, u) :: l, ks, x, e, h => by
    subst e
    rw [List.lookup_cons]
    by_cases hx : x = y
    · subst hx
      exact ⟨u, by simp⟩
    · rw [show (x == y) = false from by simpa using hx]
      refine xls_has rfl ?_
      simp only [List.map_cons, List.contains_cons, Bool.or_eq_true, beq_iff_eq] at h
      exact h.resolve_left hx
/-! ### fields of exceptions -/
theorem flds_of {c f : Str} : ∀ {l : List (Str × Str)}, l.contains (c, f) = true → f ∈ (l.filter fun p => decide (p.1 = c)).map (·.2)
  | [], h => by simp at h
  | p :: l, h => by
    rw [List.contains_cons, Bool.or_eq_true] at h
    rcases h with h | h
    · have e : (c, f) = p := eq_of_beq h
      rw [← e]
      simp
    · have := flds_of h
      rw [List.filter_cons]
      split
      · exact List.mem_cons_of_mem _ this
      · exact this
theorem refs_ve1 (a : Addr) : HandSPX.refsVE [.ref a, .type "ValueError", .type "Exception", .type "BaseException", .type "object"] = true := (by decide +kernel : HandSPX.refsVE [.type "ValueError", .type "Exception", .type "BaseException", .type "object"] = true)
theorem xf_one {K : PySem.W.Frag} {C : Addr} {c f g : Str} {l : List (Str × Str)} (e : (l.filter fun p => decide (p.1 = c)).map (·.2) = [g]) (a : XfC K C) (b : PySem.W.findIn K (.ref C) g = some none) (h : l.contains (c, f) = true) : XfC K C ∧ PySem.W.findIn K (.ref C) f = some none := by
  have := flds_of h
  rw [e, List.mem_singleton] at this
  subst this
  exact ⟨a, b⟩
theorem xf_no {K : PySem.W.Frag} {C : Addr} {c f : Str} {l : List (Str × Str)} (e : (l.filter fun p => decide (p.1 = c)).map (·.2) = []) (h : l.contains (c, f) = true) : XfC K C ∧ PySem.W.findIn K (.ref C) f = some none := by
  have := flds_of h
  rw [e] at this
  cases this
end EV

set_option autoImplicit false
set_option linter.all false
set_option maxRecDepth 10000
namespace EV
open PySem

/-! ### what an evaluation answers, step by step -/
def wp {σ α : Type} (r : Res σ α) (Q : α → σ → Prop) (E : Ex → σ → Prop) : Prop :=
  match r with
  | .ok a s => Q a s
  | .exc x s => E x s
  | .stuck => False
def wpo {α : Type} (o : Option α) (Q : α → Prop) : Prop :=
  match o with
  | some a => Q a
  | none => False
/-- neither a name's own object nor a cell -/
def D.vl : D → Bool
  | .loc _ => false
  | .ref _ => false
  | _ => true
def D.nl : D → Bool
  | .loc _ => false
  | _ => true
theorem D.vl_nl {d : D} (h : d.vl = true) : d.nl = true := by cases d <;> first | rfl | cases h
section
variable {σ α β : Type} {Q : β → σ → Prop} {E : Ex → σ → Prop}
theorem wp_ok {a : β} {s : σ} : wp (.ok a s : Res σ β) Q E = Q a s := rfl
theorem wp_exc {x : Ex} {s : σ} : wp (.exc x s : Res σ β) Q E = E x s := rfl
theorem wp_stuck : wp (.stuck : Res σ β) Q E = False := rfl
theorem wpo_some {a : α} {Q : α → Prop} : wpo (some a) Q = Q a := rfl
theorem wpo_none {Q : α → Prop} : wpo none Q = False := rfl
theorem wp_imp {r : Res σ β} {Q' : β → σ → Prop} {E' : Ex → σ → Prop} (h : wp r Q E) (k : ∀ a s, Q a s → Q' a s) (ke : ∀ x s, E x s → E' x s) : wp r Q' E' := by
  cases r with
  | ok a s => exact k a s h
  | exc x s => exact ke x s h
  | stuck => exact h
theorem wp_get {r : Res σ β} (h : wp r Q fun _ _ => False) : ∃ a s, r = .ok a s ∧ Q a s := by
  cases r with
  | ok a s => exact ⟨a, s, rfl, h⟩
  | exc x s => exact h.elim
  | stuck => exact h.elim
end
section
variable {α β : Type} {Q : β → W → Prop} {E : Ex → W → Prop} {s : W}
theorem wp_bind {m : M α} {f : α → M β} : wp ((m >>= f) s) Q E = wp (m s) (fun a s' => wp (f a s') Q E) E := by
  show wp (M.bind m f s) Q E = _
  unfold M.bind
  cases m s <;> rfl
theorem wp_pure {a : β} : wp ((M.pure a : M β) s) Q E = Q a s := rfl
theorem wp_lift {o : Option β} : wp (liftO o s) Q E = wpo o fun a => Q a s := by cases o <;> rfl
theorem wp_chk {b : Bool} {Q : Unit → W → Prop} : wp (chk b s) Q E = (b = true ∧ Q () s) := by
  cases b
  · exact propext ⟨fun h => h.elim, fun h => by cases h.1⟩
  · exact propext ⟨fun h => ⟨rfl, h⟩, fun h => h.2⟩
theorem wp_stk : wp ((stuck : M β) s) Q E = False := rfl
theorem wp_ite {c : Prop} [Decidable c] {m k : M β} : wp ((if c then m else k) s) Q E = if c then wp (m s) Q E else wp (k s) Q E := by split <;> rfl
end
/-! ### the state's parts -/
def slotA : List Slot → Nat → Slot
  | [], _ => none
  | a :: _, 0 => a
  | _ :: l, i + 1 => slotA l i
theorem slotA_get {l : List Slot} {i : Nat} : l[i]? = (if i < l.length then some (slotA l i) else none) := by
  induction l generalizing i with
  | nil => simp
  | cons a l ih =>
    cases i with
    | zero => simp [slotA]
    | succ i => simp [slotA, ih]
theorem slotA_some {l : List Slot} {i : Nat} {x : D × Own} (h : slotA l i = some x) : l[i]? = some (some x) := by
  rw [slotA_get]
  have : i < l.length := by
    induction l generalizing i with
    | nil => cases h
    | cons a l ih =>
      cases i with
      | zero => simp
      | succ i => simpa using ih h
  rw [if_pos this, h]
section
variable {Q : Hd → W → Prop} {E : Ex → W → Prop} {ρ : List Slot} {S : List D} {d : D} {fr : Bool} {i n : Nat} {C : Cfg}
/-- a name read -/
def rdS (x : Slot) (i : Nat) (Q : Hd → Prop) : Prop :=
  match x with
  | some (d, .sh) => Q (d, false)
  | some (_, _) => Q (.loc i, false)
  | none => False
theorem wp_slot : wp (evE C (.slot i) ⟨ρ, S⟩) Q E = rdS (slotA ρ i) i (fun h => Q h ⟨ρ, S⟩) := by
  show wp (slotH i ⟨ρ, S⟩) Q E = _
  unfold slotH rdS
  simp only [slotA_get]
  by_cases h : i < ρ.length
  · rw [if_pos h]
    cases slotA ρ i with
    | none => rfl
    | some x => obtain ⟨d, o⟩ := x; cases o <;> rfl
  · rw [if_neg h]
    have : slotA ρ i = none := by
      cases e : slotA ρ i with
      | none => rfl
      | some x => have := slotA_some e; rw [List.getElem?_eq_none (by omega)] at this; cases this
    rw [this]
    rfl
theorem rdS_sh {Q : Hd → Prop} : rdS (some (d, .sh)) i Q = Q (d, false) := rfl
theorem rdS_own {Q : Hd → Prop} : rdS (some (d, .own)) i Q = Q (.loc i, false) := rfl
theorem rdS_lock {Q : Hd → Prop} : rdS (some (d, .lock)) i Q = Q (.loc i, false) := rfl
theorem rdS_bor {Q : Hd → Prop} : rdS (some (d, .bor)) i Q = Q (.loc i, false) := rfl
/-- a look -/
def pkS (x : Slot) (Q : D → Prop) : Prop :=
  match x with
  | some (_, .sh) => False
  | some (d, _) => Q d
  | none => False
theorem slot_none {l : List Slot} {i : Nat} (h : slotA l i = none) : l[i]? = none ∨ l[i]? = some none := by
  rw [slotA_get, h]
  split
  · exact .inr rfl
  · exact .inl rfl
theorem wp_peek_loc {Q : D → W → Prop} : wp (peek (.loc i, fr) ⟨ρ, S⟩) Q E = pkS (slotA ρ i) (fun d => Q d ⟨ρ, S⟩) := by
  show wp (match ρ[i]? with
    | some (some (d, .sh)) => Res.stuck
    | some (some (d, _)) => .ok d ⟨ρ, S⟩
    | _ => .stuck) Q E = _
  cases e : slotA ρ i with
  | none => rcases slot_none e with h | h <;> rw [h] <;> rfl
  | some x => rw [slotA_some e]; obtain ⟨d, o⟩ := x; cases o <;> rfl
theorem pkS_own {Q : D → Prop} : pkS (some (d, .own)) Q = Q d := rfl
theorem pkS_lock {Q : D → Prop} : pkS (some (d, .lock)) Q = Q d := rfl
theorem pkS_bor {Q : D → Prop} : pkS (some (d, .bor)) Q = Q d := rfl
theorem wp_peek_ref {Q : D → W → Prop} : wp (peek (.ref n, fr) ⟨ρ, S⟩) Q E = wpo S[n]? (fun d => Q d ⟨ρ, S⟩) := by
  show wp (match S[n]? with
    | some d => Res.ok d ⟨ρ, S⟩
    | none => .stuck) Q E = _
  cases S[n]? <;> rfl
theorem wp_peek_v {Q : D → W → Prop} {s : W} (h : d.vl = true) : wp (peek (d, fr) s) Q E = Q d s := by
  cases d <;> first | rfl | cases h
theorem wp_peek_k {Q : D → W → Prop} {s : W} {d : D} (h : (match d with | .loc _ => false | .ref _ => false | _ => true) = true) : wp (peek (d, fr) s) Q E = Q d s := wp_peek_v h
/-- handed on -/
def escS (x : Slot) (Q : D → Prop) : Prop :=
  match x with
  | some (d, .own) => Q d
  | _ => False
theorem escS_own {Q : D → Prop} : escS (some (d, .own)) Q = Q d := rfl
theorem wp_esc_loc : wp (esc (.loc i, fr) ⟨ρ, S⟩) Q E = escS (slotA ρ i) (fun d => Q (d, false) ⟨ρ.set i (some (d, .sh)), S⟩) := by
  show wp (match ρ[i]? with
    | some (some (d, .own)) => Res.ok (d, false) ⟨ρ.set i (some (d, .sh)), S⟩
    | _ => .stuck) Q E = _
  cases e : slotA ρ i with
  | none => rcases slot_none e with h | h <;> rw [h] <;> rfl
  | some x => rw [slotA_some e]; obtain ⟨d, o⟩ := x; cases o <;> rfl
theorem wp_esc_v {s : W} (h : d.nl = true) : wp (esc (d, fr) s) Q E = Q (d, fr) s := by
  cases d <;> first | rfl | cases h
theorem wp_give_loc : wp (give (.loc i, fr) ⟨ρ, S⟩) Q E = escS (slotA ρ i) (fun d => Q (d, true) ⟨ρ.set i none, S⟩) := by
  show wp (match ρ[i]? with
    | some (some (d, .own)) => Res.ok (d, true) ⟨ρ.set i none, S⟩
    | _ => .stuck) Q E = _
  cases e : slotA ρ i with
  | none => rcases slot_none e with h | h <;> rw [h] <;> rfl
  | some x => rw [slotA_some e]; obtain ⟨d, o⟩ := x; cases o <;> rfl
theorem wp_give_v {s : W} (h : d.nl = true) : wp (give (d, fr) s) Q E = Q (d, fr) s := by
  cases d <;> first | rfl | cases h
theorem wp_cell_loc : wp (toCell (.loc i, fr) ⟨ρ, S⟩) Q E = escS (slotA ρ i) (fun d => Q (.ref S.length, false) ⟨ρ.set i (some (.ref S.length, .sh)), S ++ [d]⟩) := by
  show wp (match ρ[i]? with
    | some (some (d, .own)) => Res.ok (.ref S.length, false) ⟨ρ.set i (some (.ref S.length, .sh)), S ++ [d]⟩
    | _ => .stuck) Q E = _
  cases e : slotA ρ i with
  | none => rcases slot_none e with h | h <;> rw [h] <;> rfl
  | some x => rw [slotA_some e]; obtain ⟨d, o⟩ := x; cases o <;> rfl
theorem wp_cell_f {s : W} (h : d.nl = true) : wp (toCell (d, false) s) Q E = Q (d, false) s := by
  cases d <;> first | rfl | cases h
theorem wp_cell_t (h : d.nl = true) : wp (toCell (d, true) ⟨ρ, S⟩) Q E = if d.mutable = true then Q (.ref S.length, false) ⟨ρ, S ++ [d]⟩ else Q (d, false) ⟨ρ, S⟩ := by
  cases d <;> first | rfl | cases h
/-- an object changed -/
theorem wp_chg_loc {f : D → Option (D × D)} : wp (change (.loc i, fr) f ⟨ρ, S⟩) Q E = escS (slotA ρ i) (fun d => wpo (f d) fun r => Q (r.1, false) ⟨ρ.set i (some (r.2, .own)), S⟩) := by
  show wp (match ρ[i]? with
    | some (some (d, .own)) =>
      match f d with
      | some (r, d') => Res.ok (r, false) ⟨ρ.set i (some (d', .own)), S⟩
      | none => .stuck
    | _ => .stuck) Q E = _
  cases e : slotA ρ i with
  | none => rcases slot_none e with h | h <;> rw [h] <;> rfl
  | some x => rw [slotA_some e]; obtain ⟨d, o⟩ := x; cases o <;> first | rfl | (show wp (match f d with | some (r, d') => Res.ok (r, false) ⟨ρ.set i (some (d', .own)), S⟩ | none => .stuck) Q E = wpo (f d) _; cases f d <;> rfl)
theorem wp_chg_ref {f : D → Option (D × D)} : wp (change (.ref n, fr) f ⟨ρ, S⟩) Q E = wpo S[n]? (fun d => wpo (f d) fun r => Q (r.1, false) ⟨ρ, S.set n r.2⟩) := by
  show wp (match S[n]? with
    | some d =>
      match f d with
      | some (r, d') => Res.ok (r, false) ⟨ρ, S.set n d'⟩
      | none => .stuck
    | none => .stuck) Q E = _
  cases S[n]? with
  | none => rfl
  | some d => show wp (match f d with | some (r, d') => Res.ok (r, false) ⟨ρ, S.set n d'⟩ | none => .stuck) Q E = wpo (f d) _; cases f d <;> rfl
/-- a name stored -/
def lockS : Slot → Bool
  | some (_, .lock) => true
  | _ => false
def setS (ρ : List Slot) (S : List D) (i : Nat) (p fr : Bool) (d : D) (Q : Unit → W → Prop) : Prop :=
  i < ρ.length ∧ lockS (slotA ρ i) = false ∧
    if (fr && d.mutable) = true then (if p = true then Q () ⟨ρ.set i (some (.ref S.length, .sh)), S ++ [d]⟩ else Q () ⟨ρ.set i (some (d, .own)), S⟩) else Q () ⟨ρ.set i (some (d, .sh)), S⟩
theorem wp_set {p : Bool} {Q : Unit → W → Prop} (h : d.nl = true) : wp (setSlot i p (d, fr) ⟨ρ, S⟩) Q E = setS ρ S i p fr d Q := by
  have e : setSlot i p (d, fr) ⟨ρ, S⟩ = (if (decide (i < ρ.length) && !isLock ρ[i]?) = true then
      (if (fr && d.mutable) = true then (if p = true then Res.ok () ⟨ρ.set i (some (.ref S.length, .sh)), S ++ [d]⟩ else .ok () ⟨ρ.set i (some (d, .own)), S⟩) else .ok () ⟨ρ.set i (some (d, .sh)), S⟩) else .stuck) := by
    cases d <;> first | rfl | cases h
  rw [e]
  unfold setS
  by_cases hi : i < ρ.length
  · have el : isLock ρ[i]? = lockS (slotA ρ i) := by
      rw [slotA_get, if_pos hi]
      cases slotA ρ i with
      | none => rfl
      | some x => obtain ⟨d, o⟩ := x; cases o <;> rfl
    rw [el]
    cases lockS (slotA ρ i)
    · simp only [hi, decide_true, Bool.not_false, Bool.and_self, if_true, true_and]
      split
      · split <;> rfl
      · rfl
    · simp [hi, wp]
  · simp [hi, wp]
end
/-! ### terms -/
section
variable {Q : Hd → W → Prop} {E : Ex → W → Prop} {s : W} {C : Cfg} {a b c : TE} {l : TL}
def thenV (m : M Hd) (s : W) (E : Ex → W → Prop) (Q : Hd → W → Prop) : Prop := wp (m s) Q E
theorem wp_con {d : D} : wp (evE C (.con d) s) Q E = Q (d, false) s := rfl
theorem wp_glob {x : Str} : wp (evE C (.glob x) s) Q E = wpo (C.G x) fun d => Q (d, false) s := by
  show wp ((liftO (C.G x) >>= fun d => (M.pure (d, false) : M Hd)) s) Q E = _
  simp only [wp_bind, wp_lift, wp_pure]
theorem wp_bin {o : BOp} : wp (evE C (.bin o a b) s) Q E = wp (evE C a s) (fun h s => wp (evE C b s) (fun k s => wp (peek h s) (fun x s => wp (peek k s) (fun y s => wpo (binop o x y) fun r => Q r s) E) E) E) E := by
  show wp ((evE C a >>= fun h => evE C b >>= fun k => peek h >>= fun x => peek k >>= fun y => liftO (binop o x y)) s) Q E = _
  simp only [wp_bind, wp_lift]
def intO : D → Option Int
  | .int i => some i
  | _ => none
def blO : D → Option Bool
  | .bl i => some i
  | _ => none
theorem wp_neg : wp (evE C (.neg a) s) Q E = wp (evE C a s) (fun h s => wp (peek h s) (fun x s => wpo (intO x) fun i => Q (.int (-i), false) s) E) E := by
  show wp ((evE C a >>= fun h => peek h >>= fun x => (match x with
    | .int i => M.pure (.int (-i), false)
    | _ => stuck : M Hd)) s) Q E = _
  simp only [wp_bind]
  congr 1; funext h s; congr 1; funext x s
  cases x <;> rfl
theorem wp_not : wp (evE C (.not a) s) Q E = wp (evE C a s) (fun h s => wp (peek h s) (fun x s => wpo (blO x) fun i => Q (.bl (!i), false) s) E) E := by
  show wp ((evE C a >>= fun h => peek h >>= fun x => (match x with
    | .bl b => M.pure (.bl (!b), false)
    | _ => stuck : M Hd)) s) Q E = _
  simp only [wp_bind]
  congr 1; funext h s; congr 1; funext x s
  cases x <;> rfl
theorem wp_notT {Q : Bool → W → Prop} : wp (evT C (.not a) s) Q E = wp (evT C a s) (fun r s => Q (!r) s) E := by
  show wp ((evT C a >>= fun r => (M.pure (!r) : M Bool)) s) Q E = _
  simp only [wp_bind, wp_pure]
theorem wp_and : wp (evE C (.and a b) s) Q E = wp (evE C a s) (fun h s => wpo (blO h.1) fun r => if r = true then wp (evE C b s) Q E else Q (.bl false, false) s) E := by
  show wp ((evE C a >>= fun h => (match h.1 with
    | .bl true => evE C b
    | .bl false => M.pure (.bl false, false)
    | _ => stuck : M Hd)) s) Q E = _
  simp only [wp_bind]
  congr 1; funext h s
  obtain ⟨d, fr⟩ := h
  cases d <;> first | rfl | (rename_i b; cases b <;> rfl)
theorem wp_or : wp (evE C (.or a b) s) Q E = wp (evE C a s) (fun h s => wpo (blO h.1) fun r => if r = true then Q (.bl true, false) s else wp (evE C b s) Q E) E := by
  show wp ((evE C a >>= fun h => (match h.1 with
    | .bl true => M.pure (.bl true, false)
    | .bl false => evE C b
    | _ => stuck : M Hd)) s) Q E = _
  simp only [wp_bind]
  congr 1; funext h s
  obtain ⟨d, fr⟩ := h
  cases d <;> first | rfl | (rename_i b; cases b <;> rfl)
theorem wp_andT {Q : Bool → W → Prop} : wp (evT C (.and a b) s) Q E = wp (evT C a s) (fun r s => if r = true then wp (evT C b s) Q E else Q false s) E := by
  show wp ((evT C a >>= fun r => if r then evT C b else (M.pure false : M Bool)) s) Q E = _
  simp only [wp_bind]
  congr 1; funext r s
  cases r <;> rfl
theorem wp_orT {Q : Bool → W → Prop} : wp (evT C (.or a b) s) Q E = wp (evT C a s) (fun r s => if r = true then Q true s else wp (evT C b s) Q E) E := by
  show wp ((evT C a >>= fun r => if r then (M.pure true : M Bool) else evT C b) s) Q E = _
  simp only [wp_bind]
  congr 1; funext r s
  cases r <;> rfl
theorem wp_cmp {o : COp} : wp (evE C (.cmp o a b) s) Q E = wp (evE C a s) (fun h s => wp (evE C b s) (fun k s => wp (peek h s) (fun x s => wp (peek k s) (fun y s => wpo (cmpop o x y) fun r => Q (.bl r, false) s) E) E) E) E := by
  show wp ((evE C a >>= fun h => evE C b >>= fun k => peek h >>= fun x => peek k >>= fun y => liftO (cmpop o x y) >>= fun r => (M.pure (.bl r, false) : M Hd)) s) Q E = _
  simp only [wp_bind, wp_lift, wp_pure]
theorem wp_cmpT {o : COp} {Q : Bool → W → Prop} : wp (evT C (.cmp o a b) s) Q E = wp (evE C a s) (fun h s => wp (evE C b s) (fun k s => wp (peek h s) (fun x s => wp (peek k s) (fun y s => wpo (cmpop o x y) fun r => Q r s) E) E) E) E := by
  rw [cmp_test]
  simp only [wp_bind, wp_lift]
theorem wp_chain {o p : COp} : wp (evE C (.chain o p a b c) s) Q E = wp (evE C a s) (fun h s => wp (evE C b s) (fun k s => wp (peek h s) (fun x s => wp (peek k s) (fun y s => wpo (cmpop o x y) fun r =>
    if r = true then wp (evE C c s) (fun l s => wp (peek k s) (fun y s => wp (peek l s) (fun z s => wpo (cmpop p y z) fun r => Q (.bl r, false) s) E) E) E else Q (.bl false, false) s) E) E) E) E := by
  show wp ((evE C a >>= fun h => evE C b >>= fun k => peek h >>= fun x => peek k >>= fun y => liftO (cmpop o x y) >>= fun r =>
    (if r = true then evE C c >>= fun l => peek k >>= fun y => peek l >>= fun z => liftO (cmpop p y z) >>= fun r => (M.pure (D.bl r, false) : M Hd) else (M.pure (D.bl false, false) : M Hd))) s) Q E = _
  simp only [wp_bind, wp_lift, wp_pure, wp_ite]
theorem wp_chainT {o p : COp} {Q : Bool → W → Prop} : wp (evT C (.chain o p a b c) s) Q E = wp (evE C a s) (fun h s => wp (evE C b s) (fun k s => wp (peek h s) (fun x s => wp (peek k s) (fun y s => wpo (cmpop o x y) fun r =>
    if r = true then wp (evE C c s) (fun l s => wp (peek k s) (fun y s => wp (peek l s) (fun z s => wpo (cmpop p y z) fun r => Q r s) E) E) E else Q false s) E) E) E) E := by
  rw [chain_test]
  simp only [wp_bind, wp_lift, wp_pure, wp_ite]
theorem wp_chain3 {o p q : COp} {d : TE} : wp (evE C (.chain3 o p q a b c d) s) Q E = wp (evE C a s) (fun h s => wp (evE C b s) (fun k s => wp (peek h s) (fun x s => wp (peek k s) (fun y s => wpo (cmpop o x y) fun r =>
    if r = true then wp (evE C c s) (fun l s => wp (peek k s) (fun y s => wp (peek l s) (fun z s => wpo (cmpop p y z) fun r => if r = true then wp (evE C d s) (fun m s => wp (peek l s) (fun z s => wp (peek m s) (fun u s => wpo (cmpop q z u) fun r => Q (.bl r, false) s) E) E) E else Q (.bl false, false) s) E) E) E else Q (.bl false, false) s) E) E) E) E := by
  show wp ((evE C a >>= fun h => evE C b >>= fun k => peek h >>= fun x => peek k >>= fun y => liftO (cmpop o x y) >>= fun r =>
    (if r = true then evE C c >>= fun l => peek k >>= fun y => peek l >>= fun z => liftO (cmpop p y z) >>= fun r => (if r = true then evE C d >>= fun m => peek l >>= fun z => peek m >>= fun u => liftO (cmpop q z u) >>= fun r => (M.pure (D.bl r, false) : M Hd) else (M.pure (D.bl false, false) : M Hd)) else (M.pure (D.bl false, false) : M Hd))) s) Q E = _
  simp only [wp_bind, wp_lift, wp_pure, wp_ite]
theorem wp_iteE : wp (evE C (.ite a b c) s) Q E = wp (evT C a s) (fun r s => if r = true then wp (evE C b s) Q E else wp (evE C c s) Q E) E := by
  show wp ((evT C a >>= fun r => if r then evE C b else evE C c) s) Q E = _
  simp only [wp_bind, wp_ite]
theorem wp_iteT {Q : Bool → W → Prop} : wp (evT C (.ite a b c) s) Q E = wp (evT C a s) (fun r s => if r = true then wp (evT C b s) Q E else wp (evT C c s) Q E) E := by
  show wp ((evT C a >>= fun r => if r then evT C b else evT C c) s) Q E = _
  simp only [wp_bind, wp_ite]
theorem wp_tup : wp (evE C (.tup l) s) Q E = wp (evL C l s) (fun ds s => ds.length ≤ line ∧ Q (.tup ds, false) s) E := by
  show wp ((evL C l >>= fun ds => if ds.length ≤ line then (M.pure (.tup ds, false) : M Hd) else stuck) s) Q E = _
  simp only [wp_bind]
  congr 1; funext ds s
  split
  · rename_i h; exact propext ⟨fun q => ⟨h, q⟩, fun q => q.2⟩
  · rename_i h; exact propext ⟨fun q => q.elim, fun q => absurd q.1 h⟩
theorem wp_lst : wp (evE C (.lst l) s) Q E = wp (evL C l s) (fun ds s => ds.length ≤ line ∧ Q (.lst ds, true) s) E := by
  show wp ((evL C l >>= fun ds => if ds.length ≤ line then (M.pure (.lst ds, true) : M Hd) else stuck) s) Q E = _
  simp only [wp_bind]
  congr 1; funext ds s
  split
  · rename_i h; exact propext ⟨fun q => ⟨h, q⟩, fun q => q.2⟩
  · rename_i h; exact propext ⟨fun q => q.elim, fun q => absurd q.1 h⟩
theorem wp_dic : wp (evE C (.dic l) s) Q E = wp (evP C l s) (fun r s => (r.1.all D.fk && decide (r.1.length ≤ 15)) = true ∧ Q (.dic (putAll [] [] r.1 r.2).1 (putAll [] [] r.1 r.2).2, true) s) E := by
  show wp ((evP C l >>= fun r => if r.1.all D.fk && decide (r.1.length ≤ 15) then
      let q := putAll [] [] r.1 r.2
      (M.pure (.dic q.1 q.2, true) : M Hd)
    else stuck) s) Q E = _
  simp only [wp_bind]
  congr 1; funext ds s
  split
  · rename_i h; exact propext ⟨fun q => ⟨h, q⟩, fun q => q.2⟩
  · rename_i h; exact propext ⟨fun q => q.elim, fun q => absurd q.1 h⟩
theorem wp_idx : wp (evE C (.idx a b) s) Q E = wp (evE C a s) (fun h s => wp (evE C b s) (fun k s => wp (peek h s) (fun x s => wp (peek k s) (fun y s => wpo (idxop x y) fun r => Q (r, false) s) E) E) E) E := by
  show wp ((evE C a >>= fun h => evE C b >>= fun k => peek h >>= fun x => peek k >>= fun y => liftO (idxop x y) >>= fun r => (M.pure (r, false) : M Hd)) s) Q E = _
  simp only [wp_bind, wp_lift, wp_pure]
theorem wp_sli {lo hi : TO} : wp (evE C (.sli a lo hi) s) Q E = wp (evE C a s) (fun h s => wp (evO C lo s) (fun i s => wp (evO C hi s) (fun j s => wp (peek h s) (fun x s => wpo (sliop x i j) fun r => Q r s) E) E) E) E := by
  show wp ((evE C a >>= fun h => evO C lo >>= fun i => evO C hi >>= fun j => peek h >>= fun x => liftO (sliop x i j)) s) Q E = _
  simp only [wp_bind, wp_lift]
theorem wp_fld {f : Str} : wp (evE C (.fld a f) s) Q E = wp (evE C a s) (fun h s => wp (peek h s) (fun x s => wpo (fldop C.flds x f) fun r => Q (r, false) s) E) E := by
  show wp ((evE C a >>= fun h => peek h >>= fun x => liftO (fldop C.flds x f) >>= fun r => (M.pure (r, false) : M Hd)) s) Q E = _
  simp only [wp_bind, wp_lift, wp_pure]
theorem wp_blt {o : Blt} : wp (evE C (.blt o l) s) Q E = wp (evH C l s) (fun hs s => wp (peekL hs s) (fun ds s => wpo (bltop o ds) fun r => Q r s) E) E := by
  show wp ((evH C l >>= fun hs => peekL hs >>= fun ds => liftO (bltop o ds)) s) Q E = _
  simp only [wp_bind, wp_lift]
theorem wp_exc0 {cs : List Str} : wp (evE C (.exc0 cs) s) Q E = Q (.exn cs [] [], false) s := rfl
theorem wp_exc1 {cs : List Str} {f : Str} {k : Bool} : wp (evE C (.exc1 cs f k a) s) Q E = wp (evE C a s) (fun h s => wp (esc h s) (fun h s => xarg k h.1 = true ∧ Q (.exn cs [f] [h.1], false) s) E) E := by
  show wp ((evE C a >>= fun h => esc h >>= fun h => chk (xarg k h.1) >>= fun _ => (M.pure (.exn cs [f] [h.1], false) : M Hd)) s) Q E = _
  simp only [wp_bind, wp_chk, wp_pure]
theorem wp_isi {t : List Ty} : wp (evE C (.isi a t) s) Q E = wp (evE C a s) (fun h s => wp (peek h s) (fun x s => wpo (tyAny x t) fun r => Q (.bl r, false) s) E) E := by
  show wp ((evE C a >>= fun h => peek h >>= fun x => liftO (tyAny x t) >>= fun r => (M.pure (.bl r, false) : M Hd)) s) Q E = _
  simp only [wp_bind, wp_lift, wp_pure]
theorem wp_peekL_nil {Q : List D → W → Prop} : wp (peekL [] s) Q E = Q [] s := rfl
theorem wp_peekL_cons {h : Hd} {hs : List Hd} {Q : List D → W → Prop} : wp (peekL (h :: hs) s) Q E = wp (peek h s) (fun x s => wp (peekL hs s) (fun xs s => Q (x :: xs) s) E) E := by
  show wp ((peek h >>= fun x => peekL hs >>= fun xs => (M.pure (x :: xs) : M (List D))) s) Q E = _
  simp only [wp_bind, wp_pure]
theorem wp_L_nil {Q : List D → W → Prop} : wp (evL C .nil s) Q E = Q [] s := rfl
theorem wp_L_cons {Q : List D → W → Prop} : wp (evL C (.cons a l) s) Q E = wp (evE C a s) (fun h s => wp (esc h s) (fun h s => wp (evL C l s) (fun ds s => Q (h.1 :: ds) s) E) E) E := by
  show wp ((evE C a >>= fun h => esc h >>= fun h => evL C l >>= fun ds => (M.pure (h.1 :: ds) : M (List D))) s) Q E = _
  simp only [wp_bind, wp_pure]
theorem wp_H_nil {Q : List Hd → W → Prop} : wp (evH C .nil s) Q E = Q [] s := rfl
theorem wp_H_cons {Q : List Hd → W → Prop} : wp (evH C (.cons a l) s) Q E = wp (evE C a s) (fun h s => wp (evH C l s) (fun ds s => Q (h :: ds) s) E) E := by
  show wp ((evE C a >>= fun h => evH C l >>= fun ds => (M.pure (h :: ds) : M (List Hd))) s) Q E = _
  simp only [wp_bind, wp_pure]
/-- how an argument is handed over -/
def hand (m : Mode) (h : Hd) : M Hd := match m with
  | .val => esc h
  | .ref => toCell h
  | .lend => M.pure h
theorem wp_hand_val {h : Hd} : wp (hand .val h s) Q E = wp (esc h s) Q E := rfl
theorem wp_hand_ref {h : Hd} : wp (hand .ref h s) Q E = wp (toCell h s) Q E := rfl
theorem wp_hand_lend {h : Hd} : wp (hand .lend h s) Q E = Q h s := rfl
theorem wp_A_nil {f : Str} {j : Nat} {Q : List Hd → W → Prop} : wp (evA C f j .nil s) Q E = Q [] s := rfl
theorem wp_A_cons {f : Str} {j : Nat} {Q : List Hd → W → Prop} : wp (evA C f j (.cons a l) s) Q E = wp (evE C a s) (fun h s => wp (hand (C.mode f j) h s) (fun h s => wp (evA C f (j + 1) l s) (fun ds s => Q (h :: ds) s) E) E) E := by
  show wp ((evE C a >>= fun h => hand (C.mode f j) h >>= fun h => evA C f (j + 1) l >>= fun ds => (M.pure (h :: ds) : M (List Hd))) s) Q E = _
  simp only [wp_bind, wp_pure]
theorem wp_P_nil {Q : List D × List D → W → Prop} : wp (evP C .nil s) Q E = Q ([], []) s := rfl
def keyMode (C : Cfg) (d : D) : Mode := match d with
  | .str x => if C.mode (tagS 35 x) 0 = .ref then .ref else .val
  | _ => .val
theorem wp_P_cons {Q : List D × List D → W → Prop} : wp (evP C (.cons a (.cons b l)) s) Q E = wp (evE C a s) (fun h s => wp (esc h s) (fun h s => wp (evE C b s) (fun k s => wp (hand (keyMode C h.1) k s) (fun k s => wp (evP C l s) (fun r s => Q (h.1 :: r.1, k.1 :: r.2) s) E) E) E) E) E := by
  show wp ((evE C a >>= fun h => esc h >>= fun h => evE C b >>= fun k => (match h.1 with
      | .str x => if C.mode (tagS 35 x) 0 = .ref then toCell k else esc k
      | _ => esc k : M Hd) >>= fun k => evP C l >>= fun r => (M.pure (h.1 :: r.1, k.1 :: r.2) : M (List D × List D))) s) Q E = _
  simp only [wp_bind, wp_pure]
  congr 1; funext h s; congr 1; funext h s; congr 1; funext k s
  obtain ⟨d, fr⟩ := h
  cases d <;> first | rfl | skip
  simp only [keyMode]
  split <;> rfl
theorem wp_O_none {Q : Option Int → W → Prop} : wp (evO C .none s) Q E = Q none s := rfl
theorem wp_O_some {Q : Option Int → W → Prop} : wp (evO C (.some a) s) Q E = wp (evE C a s) (fun h s => wpo (intO h.1) fun i => Q (some i) s) E := by
  show wp ((evE C a >>= fun h => (match h.1 with
    | .int i => M.pure (some i)
    | _ => stuck : M (Option Int))) s) Q E = _
  simp only [wp_bind]
  congr 1; funext h s
  obtain ⟨d, fr⟩ := h
  cases d <;> rfl
end
end EV

set_option autoImplicit false
set_option linter.all false
set_option maxRecDepth 10000
namespace EV
open PySem

/-! ### tests that are values -/
section
variable {Q : Bool → W → Prop} {E : Ex → W → Prop} {s : W} {C : Cfg} {a b : TE} {l : TL}
theorem wp_T {te : TE} (h : Plain C te) : wp (evT C te s) Q E = wp (evE C te s) (fun h s => wp (peek h s) (fun x s => wpo (truth x) fun b => Q b s) E) E := by
  rw [h]
  simp only [wp_bind, wp_lift]
theorem wpT_con {d : D} : wp (evT C (.con d) s) Q E = wp (evE C (.con d) s) (fun h s => wp (peek h s) (fun x s => wpo (truth x) fun b => Q b s) E) E := wp_T rfl
theorem wpT_slot {i : Nat} : wp (evT C (.slot i) s) Q E = wp (evE C (.slot i) s) (fun h s => wp (peek h s) (fun x s => wpo (truth x) fun b => Q b s) E) E := wp_T rfl
theorem wpT_idx : wp (evT C (.idx a b) s) Q E = wp (evE C (.idx a b) s) (fun h s => wp (peek h s) (fun x s => wpo (truth x) fun b => Q b s) E) E := wp_T rfl
theorem wpT_bin {o : BOp} : wp (evT C (.bin o a b) s) Q E = wp (evE C (.bin o a b) s) (fun h s => wp (peek h s) (fun x s => wpo (truth x) fun b => Q b s) E) E := wp_T rfl
theorem wpT_fld {f : Str} : wp (evT C (.fld a f) s) Q E = wp (evE C (.fld a f) s) (fun h s => wp (peek h s) (fun x s => wpo (truth x) fun b => Q b s) E) E := wp_T rfl
theorem wpT_call {f : Str} : wp (evT C (.call f l) s) Q E = wp (evE C (.call f l) s) (fun h s => wp (peek h s) (fun x s => wpo (truth x) fun b => Q b s) E) E := wp_T rfl
theorem wpT_meth {f : Str} : wp (evT C (.meth a f l) s) Q E = wp (evE C (.meth a f l) s) (fun h s => wp (peek h s) (fun x s => wpo (truth x) fun b => Q b s) E) E := wp_T rfl
theorem wpT_blt {o : Blt} : wp (evT C (.blt o l) s) Q E = wp (evE C (.blt o l) s) (fun h s => wp (peek h s) (fun x s => wpo (truth x) fun b => Q b s) E) E := wp_T rfl
theorem wpT_isi {t : List Ty} : wp (evT C (.isi a t) s) Q E = wp (evE C (.isi a t) s) (fun h s => wp (peek h s) (fun x s => wpo (truth x) fun b => Q b s) E) E := wp_T rfl
end
/-! ### calls -/
section
variable {Q : Hd → W → Prop} {E : Ex → W → Prop} {s : W} {C : Cfg} {a b : TE} {l : TL} {ρ : List Slot} {S : List D} {P : Prog} {k : Nat}
def ctO (x : Slot) (Q : Ar → Prop) : Prop :=
  match x with
  | some (d, .sh) => Q (d, .sh)
  | some (d, _) => Q (d, .bor)
  | none => False
/-- the arguments as they stand at the call -/
def wpA (ρ : List Slot) (hs : List Hd) (Q : List Ar → Prop) : Prop := wpo (argsAt ρ hs) Q
theorem wpA_nil {Q : List Ar → Prop} : wpA ρ [] Q = Q [] := rfl
theorem wpA_loc {i : Nat} {fr : Bool} {hs : List Hd} {Q : List Ar → Prop} : wpA ρ ((.loc i, fr) :: hs) Q = ctO (slotA ρ i) fun a => wpA ρ hs fun as => Q (a :: as) := by
  show wpo (match ρ[i]? with
    | some (some (d, .sh)) => (argsAt ρ hs).map ((d, .sh) :: ·)
    | some (some (d, _)) => (argsAt ρ hs).map ((d, .bor) :: ·)
    | _ => none) Q = _
  cases e : slotA ρ i with
  | none => rcases slot_none e with h | h <;> rw [h] <;> rfl
  | some x =>
    rw [slotA_some e]
    obtain ⟨d, o⟩ := x
    cases o <;> (show wpo (Option.map _ (argsAt ρ hs)) Q = wpo (argsAt ρ hs) _; cases argsAt ρ hs <;> rfl)
theorem wpA_v {d : D} {fr : Bool} {hs : List Hd} {Q : List Ar → Prop} (h : d.nl = true) : wpA ρ ((d, fr) :: hs) Q = wpA ρ hs fun as => Q ((d, if (fr && d.mutable) = true then .own else .sh) :: as) := by
  have e : argsAt ρ ((d, fr) :: hs) = (argsAt ρ hs).map ((d, if fr && d.mutable then .own else .sh) :: ·) := by
    cases d <;> first | rfl | cases h
  unfold wpA
  rw [e]
  cases argsAt ρ hs <;> rfl
theorem ctO_sh {d : D} {Q : Ar → Prop} : ctO (some (d, .sh)) Q = Q (d, .sh) := rfl
theorem ctO_own {d : D} {Q : Ar → Prop} : ctO (some (d, .own)) Q = Q (d, .bor) := rfl
theorem ctO_lock {d : D} {Q : Ar → Prop} : ctO (some (d, .lock)) Q = Q (d, .bor) := rfl
theorem ctO_bor {d : D} {Q : Ar → Prop} : ctO (some (d, .bor)) Q = Q (d, .bor) := rfl
theorem wp_arL {n : Nat} {hs : List Hd} {Q : List Ar → W → Prop} : wp (arL n hs s) Q E = wpA s.ρ hs fun as => as.length = n ∧ Q as s := by
  unfold arL wpA
  cases argsAt s.ρ hs with
  | none => rfl
  | some l =>
    show wp (if l.length = n then Res.ok l s else .stuck) Q E = (l.length = n ∧ Q l s)
    split
    · rename_i h; exact propext ⟨fun q => ⟨h, q⟩, fun q => q.2⟩
    · rename_i h; exact propext ⟨fun q => q.elim, fun q => absurd q.1 h⟩
theorem wp_run {f : Str} {as : List Ar} : wp (C.run f as s) Q E = wp (C.call f as s.S) (fun h S => Q h ⟨s.ρ, S⟩) (fun x S => E x ⟨s.ρ, S⟩) := by
  unfold Cfg.run
  cases C.call f as s.S <;> rfl
theorem wp_call {f : Str} : wp (evE (cfg P k) (.call f l) s) Q E = wp (evA (cfg P k) f 0 l s) (fun hs s => wpA s.ρ hs fun as => as.length = l.len ∧ wp (callN P k f as s.S) (fun h S => Q h ⟨s.ρ, S⟩) (fun x S => E x ⟨s.ρ, S⟩)) E := by
  show wp ((evA (cfg P k) f 0 l >>= fun hs => arL l.len hs >>= fun as => (cfg P k).run f as) s) Q E = _
  simp only [wp_bind, wp_arL, wp_run]
  rfl
theorem wp_make {c : Str} : wp (evE (cfg P k) (.make c l) s) Q E = wp (evA (cfg P k) c 1 l s) (fun hs s => wpA s.ρ hs fun as => as.length = l.len ∧
    wp (callN P k c ((.ref s.S.length, .sh) :: as) (s.S ++ [.ins c [] []])) (fun h S => h.1.isNon = true ∧ Q (gcNew s.S.length S).1 ⟨s.ρ, (gcNew s.S.length S).2⟩) (fun x S => E x ⟨s.ρ, S⟩)) E := by
  show wp ((evA (cfg P k) c 1 l >>= fun hs => arL l.len hs >>= fun as s => match callN P k c ((.ref s.S.length, .sh) :: as) (s.S ++ [.ins c [] []]) with
      | .ok (.non, _) S => .ok (gcNew s.S.length S).1 { s with S := (gcNew s.S.length S).2 }
      | .ok _ _ => .stuck
      | .exc x S => .exc x { s with S := S }
      | .stuck => .stuck) s) Q E = _
  simp only [wp_bind, wp_arL]
  congr 1; funext hs s
  congr 1; funext as
  congr 1
  cases callN P k c ((.ref s.S.length, .sh) :: as) (s.S ++ [.ins c [] []]) with
  | stuck => rfl
  | exc x S => rfl
  | ok h S =>
    obtain ⟨d, fr⟩ := h
    cases d <;> first
      | exact propext ⟨fun q => ⟨rfl, q⟩, fun q => q.2⟩
      | exact propext ⟨fun q => q.elim, fun q => (by cases q.1)⟩
theorem wp_meth {m : Str} : wp (evE (cfg P k) (.meth a m l) s) Q E = wp (evE (cfg P k) a s) (fun h s => wp (toCell h s) (fun h s => wp (peek h s) (fun x s => methOk P.flds m x = true ∧ wp (evA (cfg P k) m 1 l s) (fun hs s => wpA s.ρ (h :: hs) fun as => as.length = l.len + 1 ∧ wp (callN P k m as s.S) (fun h S => Q h ⟨s.ρ, S⟩) (fun x S => E x ⟨s.ρ, S⟩)) E) E) E) E := by
  show wp ((evE (cfg P k) a >>= fun h => toCell h >>= fun h => peek h >>= fun x => chk (methOk P.flds m x) >>= fun _ => evA (cfg P k) m 1 l >>= fun hs => arL (l.len + 1) (h :: hs) >>= fun as => (cfg P k).run m as) s) Q E = _
  simp only [wp_bind, wp_arL, wp_run, wp_chk]
  rfl
/-! ### methods -/
/-- a method that changes -/
theorem wp_bmMut {o : BM} (ho : o = .append ∨ o = .pop0 ∨ o = .pop1 ∨ o = .remove ∨ o = .insert ∨ o = .clear ∨ o = .reverse) : wp (evE C (.bm o a l) s) Q E =
    wp (evE C a s) (fun h s => wp (peek h s) (fun x s => bmTy o x = true ∧ wp (evL C l s) (fun ds s => wpo (bmch o ds) fun f => wp (change h f s) Q E) E) E) E := by
  have e : evE C (.bm o a l) = (evE C a >>= fun h => peek h >>= fun x => chk (bmTy o x) >>= fun _ => evL C l >>= fun ds => liftO (bmch o ds) >>= fun f => change h f) := by
    rcases ho with h | h | h | h | h | h | h <;> subst h <;> rfl
  rw [e]
  simp only [wp_bind, wp_lift, wp_chk]
theorem wp_append : wp (evE C (.bm .append a l) s) Q E = wp (evE C a s) (fun h s => wp (peek h s) (fun x s => bmTy .append x = true ∧ wp (evL C l s) (fun ds s => wpo (bmch .append ds) fun f => wp (change h f s) Q E) E) E) E := wp_bmMut (by simp)
theorem wp_pop0 : wp (evE C (.bm .pop0 a l) s) Q E = wp (evE C a s) (fun h s => wp (peek h s) (fun x s => bmTy .pop0 x = true ∧ wp (evL C l s) (fun ds s => wpo (bmch .pop0 ds) fun f => wp (change h f s) Q E) E) E) E := wp_bmMut (by simp)
theorem wp_pop1 : wp (evE C (.bm .pop1 a l) s) Q E = wp (evE C a s) (fun h s => wp (peek h s) (fun x s => bmTy .pop1 x = true ∧ wp (evL C l s) (fun ds s => wpo (bmch .pop1 ds) fun f => wp (change h f s) Q E) E) E) E := wp_bmMut (by simp)
theorem wp_remove : wp (evE C (.bm .remove a l) s) Q E = wp (evE C a s) (fun h s => wp (peek h s) (fun x s => bmTy .remove x = true ∧ wp (evL C l s) (fun ds s => wpo (bmch .remove ds) fun f => wp (change h f s) Q E) E) E) E := wp_bmMut (by simp)
theorem wp_insert : wp (evE C (.bm .insert a l) s) Q E = wp (evE C a s) (fun h s => wp (peek h s) (fun x s => bmTy .insert x = true ∧ wp (evL C l s) (fun ds s => wpo (bmch .insert ds) fun f => wp (change h f s) Q E) E) E) E := wp_bmMut (by simp)
theorem wp_clear : wp (evE C (.bm .clear a l) s) Q E = wp (evE C a s) (fun h s => wp (peek h s) (fun x s => bmTy .clear x = true ∧ wp (evL C l s) (fun ds s => wpo (bmch .clear ds) fun f => wp (change h f s) Q E) E) E) E := wp_bmMut (by simp)
theorem wp_reverse : wp (evE C (.bm .reverse a l) s) Q E = wp (evE C a s) (fun h s => wp (peek h s) (fun x s => bmTy .reverse x = true ∧ wp (evL C l s) (fun ds s => wpo (bmch .reverse ds) fun f => wp (change h f s) Q E) E) E) E := wp_bmMut (by simp)
theorem wp_extend : wp (evE C (.bm .extend a l) s) Q E = wp (evE C a s) (fun h s => wp (peek h s) (fun x s => bmTy .extend x = true ∧ wp (evH C l s) (fun hs s => wp (peekL hs s) (fun ds s => wpo (bmch .extend ds) fun f => wp (change h f s) Q E) E) E) E) E := by
  show wp ((evE C a >>= fun h => peek h >>= fun x => chk (bmTy .extend x) >>= fun _ => evH C l >>= fun hs => peekL hs >>= fun ds => liftO (bmch .extend ds) >>= fun f => change h f) s) Q E = _
  simp only [wp_bind, wp_lift, wp_chk]
theorem wp_get2 : wp (evE C (.bm .get2 a l) s) Q E = wp (evE C a s) (fun h s => wp (peek h s) (fun x s => bmTy .get2 x = true ∧ wp (evL C l s) (fun ds s => wp (peek h s) (fun x s => wpo (bmop .get2 x ds) fun r => Q r s) E) E) E) E := by
  show wp ((evE C a >>= fun h => peek h >>= fun x => chk (bmTy .get2 x) >>= fun _ => evL C l >>= fun ds => peek h >>= fun x => liftO (bmop .get2 x ds)) s) Q E = _
  simp only [wp_bind, wp_lift, wp_chk]
theorem wp_bmOp {o : BM} (ho : o = .join ∨ o = .split ∨ o = .get1 ∨ o = .index ∨ o = .count ∨ o = .find2 ∨ o = .replace2 ∨ o = .strip ∨ o = .upper ∨ o = .rfind) : wp (evE C (.bm o a l) s) Q E =
    wp (evE C a s) (fun h s => wp (peek h s) (fun x s => bmTy o x = true ∧ wp (evH C l s) (fun hs s => wp (peekL hs s) (fun ds s => wp (peek h s) (fun x s => wpo (bmop o x ds) fun r => Q r s) E) E) E) E) E := by
  have e : evE C (.bm o a l) = (evE C a >>= fun h => peek h >>= fun x => chk (bmTy o x) >>= fun _ => evH C l >>= fun hs => peekL hs >>= fun ds => peek h >>= fun x => liftO (bmop o x ds)) := by
    rcases ho with h | h | h | h | h | h | h | h | h | h <;> subst h <;> rfl
  rw [e]
  simp only [wp_bind, wp_lift, wp_chk]
theorem wp_join : wp (evE C (.bm .join a l) s) Q E = wp (evE C a s) (fun h s => wp (peek h s) (fun x s => bmTy .join x = true ∧ wp (evH C l s) (fun hs s => wp (peekL hs s) (fun ds s => wp (peek h s) (fun x s => wpo (bmop .join x ds) fun r => Q r s) E) E) E) E) E := wp_bmOp (by simp)
theorem wp_split : wp (evE C (.bm .split a l) s) Q E = wp (evE C a s) (fun h s => wp (peek h s) (fun x s => bmTy .split x = true ∧ wp (evH C l s) (fun hs s => wp (peekL hs s) (fun ds s => wp (peek h s) (fun x s => wpo (bmop .split x ds) fun r => Q r s) E) E) E) E) E := wp_bmOp (by simp)
theorem wp_get1 : wp (evE C (.bm .get1 a l) s) Q E = wp (evE C a s) (fun h s => wp (peek h s) (fun x s => bmTy .get1 x = true ∧ wp (evH C l s) (fun hs s => wp (peekL hs s) (fun ds s => wp (peek h s) (fun x s => wpo (bmop .get1 x ds) fun r => Q r s) E) E) E) E) E := wp_bmOp (by simp)
theorem wp_index : wp (evE C (.bm .index a l) s) Q E = wp (evE C a s) (fun h s => wp (peek h s) (fun x s => bmTy .index x = true ∧ wp (evH C l s) (fun hs s => wp (peekL hs s) (fun ds s => wp (peek h s) (fun x s => wpo (bmop .index x ds) fun r => Q r s) E) E) E) E) E := wp_bmOp (by simp)
theorem wp_count : wp (evE C (.bm .count a l) s) Q E = wp (evE C a s) (fun h s => wp (peek h s) (fun x s => bmTy .count x = true ∧ wp (evH C l s) (fun hs s => wp (peekL hs s) (fun ds s => wp (peek h s) (fun x s => wpo (bmop .count x ds) fun r => Q r s) E) E) E) E) E := wp_bmOp (by simp)
theorem wp_find2 : wp (evE C (.bm .find2 a l) s) Q E = wp (evE C a s) (fun h s => wp (peek h s) (fun x s => bmTy .find2 x = true ∧ wp (evH C l s) (fun hs s => wp (peekL hs s) (fun ds s => wp (peek h s) (fun x s => wpo (bmop .find2 x ds) fun r => Q r s) E) E) E) E) E := wp_bmOp (by simp)
theorem wp_replace2 : wp (evE C (.bm .replace2 a l) s) Q E = wp (evE C a s) (fun h s => wp (peek h s) (fun x s => bmTy .replace2 x = true ∧ wp (evH C l s) (fun hs s => wp (peekL hs s) (fun ds s => wp (peek h s) (fun x s => wpo (bmop .replace2 x ds) fun r => Q r s) E) E) E) E) E := wp_bmOp (by simp)
theorem wp_strip : wp (evE C (.bm .strip a l) s) Q E = wp (evE C a s) (fun h s => wp (peek h s) (fun x s => bmTy .strip x = true ∧ wp (evH C l s) (fun hs s => wp (peekL hs s) (fun ds s => wp (peek h s) (fun x s => wpo (bmop .strip x ds) fun r => Q r s) E) E) E) E) E := wp_bmOp (by simp)
theorem wp_upper : wp (evE C (.bm .upper a l) s) Q E = wp (evE C a s) (fun h s => wp (peek h s) (fun x s => bmTy .upper x = true ∧ wp (evH C l s) (fun hs s => wp (peekL hs s) (fun ds s => wp (peek h s) (fun x s => wpo (bmop .upper x ds) fun r => Q r s) E) E) E) E) E := wp_bmOp (by simp)
end
/-! ### statements -/
section
variable {Q : Fl → W → Prop} {E : Ex → W → Prop} {s : W} {C : Cfg} {e o i t : TE} {b b' : TB}
theorem wp_B_nil : wp (exB C .nil s) Q E = Q .next s := rfl
def thenB (C : Cfg) (b : TB) (Q : Fl → W → Prop) (E : Ex → W → Prop) (f : Fl) (s : W) : Prop :=
  match f with
  | .next => wp (exB C b s) Q E
  | f => Q f s
theorem thenB_next : thenB C b Q E .next s = wp (exB C b s) Q E := rfl
theorem thenB_ret {h : Hd} : thenB C b Q E (.ret h) s = Q (.ret h) s := rfl
theorem thenB_brk : thenB C b Q E .brk s = Q .brk s := rfl
theorem thenB_cont : thenB C b Q E .cont s = Q .cont s := rfl
theorem wp_B_cons {st : TS} : wp (exB C (.cons st b) s) Q E = wp (exS C st s) (thenB C b Q E) E := by
  show wp ((exS C st >>= fun f => (match f with
    | .next => exB C b
    | f => M.pure f : M Fl)) s) Q E = _
  simp only [wp_bind]
  congr 1; funext f s
  cases f <;> rfl
theorem wp_asg {tg : TG} : wp (exS C (.asg tg e) s) Q E = wp (evE C e s) (fun h s => wp (esc h s) (fun h s => wp (assignG tg h s) (fun _ s => Q .next s) E) E) E := by
  show wp ((evE C e >>= fun h => esc h >>= fun h => assignG tg h >>= fun _ => (M.pure .next : M Fl)) s) Q E = _
  simp only [wp_bind, wp_pure]
theorem wp_subS : wp (exS C (.sub o i e) s) Q E = wp (evE C e s) (fun v s => wp (esc v s) (fun v s => wp (evE C o s) (fun h s => wp (evE C i s) (fun k s => wp (esc k s) (fun k s => wp (change h (storeAt k.1 v.1) s) (fun _ s => Q .next s) E) E) E) E) E) E := by
  show wp ((evE C e >>= fun v => esc v >>= fun v => evE C o >>= fun h => evE C i >>= fun k => esc k >>= fun k => change h (storeAt k.1 v.1) >>= fun _ => (M.pure .next : M Fl)) s) Q E = _
  simp only [wp_bind, wp_pure]
def fldMode (C : Cfg) (f : Str) : Mode := if C.mode (tagS 64 f) 0 = .ref then .ref else .val
theorem wp_attr {f : Str} : wp (exS C (.attr o f e) s) Q E = wp (evE C e s) (fun v s => wp (hand (fldMode C f) v s) (fun v s => wp (evE C o s) (fun h s => wp (change h (storeFld C.flds f v.1) s) (fun _ s => Q .next s) E) E) E) E := by
  show wp ((evE C e >>= fun v => (if C.mode (tagS 64 f) 0 = .ref then toCell v else esc v : M Hd) >>= fun v => evE C o >>= fun h => change h (storeFld C.flds f v.1) >>= fun _ => (M.pure .next : M Fl)) s) Q E = _
  simp only [wp_bind, wp_pure]
  congr 1; funext v s
  unfold fldMode
  split <;> rfl
theorem wp_augattr {f : Str} {op : BOp} : wp (exS C (.augattr o f op e) s) Q E = wp (evE C o s) (fun h s => wp (peek h s) (fun x s => wpo (fldopI C.flds x f) fun d => wp (evE C e s) (fun k s => wp (peek k s) (fun y s => wpo (augI op d y) fun r => wp (change h (fun c => if sameC x c then storeFld C.flds f r c else none) s) (fun _ s => Q .next s) E) E) E) E) E := by
  show wp ((evE C o >>= fun h => peek h >>= fun x => liftO (fldopI C.flds x f) >>= fun d => evE C e >>= fun k => peek k >>= fun y => liftO (augI op d y) >>= fun r => change h (fun c => if sameC x c then storeFld C.flds f r c else none) >>= fun _ => (M.pure .next : M Fl)) s) Q E = _
  simp only [wp_bind, wp_lift, wp_pure]
theorem wp_expr : wp (exS C (.expr e) s) Q E = wp (evE C e s) (fun _ s => Q .next s) E := by
  show wp ((evE C e >>= fun _ => (M.pure .next : M Fl)) s) Q E = _
  simp only [wp_bind, wp_pure]
theorem wp_ret : wp (exS C (.ret e) s) Q E = wp (evE C e s) (fun h s => wp (give h s) (fun h s => Q (.ret h) s) E) E := by
  show wp ((evE C e >>= fun h => give h >>= fun h => (M.pure (.ret h) : M Fl)) s) Q E = _
  simp only [wp_bind, wp_pure]
theorem wp_raise {cs : List Str} : wp (exS C (.raise cs) s) Q E = E ⟨cs, [], []⟩ s := rfl
theorem wp_raise1 {cs : List Str} {f : Str} {k : Bool} : wp (exS C (.raise1 cs f k e) s) Q E = wp (evE C e s) (fun h s => wp (esc h s) (fun h s => xarg k h.1 = true ∧ E ⟨cs, [f], [h.1]⟩ s) E) E := by
  show wp ((evE C e >>= fun h => esc h >>= fun h => chk (xarg k h.1) >>= fun _ => (fun s => .exc ⟨cs, [f], [h.1]⟩ s : M Fl)) s) Q E = _
  simp only [wp_bind, wp_chk]
  rfl
theorem wp_try {tb : TB} {x : Str} {i j : Nat} : wp (exS C (.try_ tb x i j) s) Q E = wp (exB C tb s) Q (fun e s' => if e.c.contains x = true then (decide (i ≠ j) && isNone1 s'.ρ[i]?) = true ∧ wp (setSlot j false (.exn e.c e.fs e.vs, false) s') (fun _ s'' => Q .next s'') (fun _ _ => False) else E e s') := by
  show wp (match exB C tb s with
    | .exc e s' => if e.c.contains x then
        (if (decide (i ≠ j) && isNone1 s'.ρ[i]?) = true then
          match setSlot j false (.exn e.c e.fs e.vs, false) s' with
          | .ok _ s'' => .ok .next s''
          | .exc _ _ => .stuck
          | .stuck => .stuck
        else .stuck)
      else .exc e s'
    | .ok f s' => .ok f s'
    | .stuck => .stuck) Q E = _
  cases exB C tb s with
  | ok f s' => rfl
  | stuck => rfl
  | exc e s' =>
    show wp (if e.c.contains x = true then _ else _) Q E = if e.c.contains x = true then _ else _
    by_cases h : e.c.contains x = true
    · rw [if_pos h, if_pos h]
      by_cases hc : (decide (i ≠ j) && isNone1 s'.ρ[i]?) = true
      · rw [if_pos hc]
        cases setSlot j false (.exn e.c e.fs e.vs, false) s' with
        | ok u s'' => exact (propext ⟨fun h => ⟨hc, h⟩, fun h => h.2⟩)
        | exc e2 s'' => exact (propext ⟨fun h => h.elim, fun h => h.2.elim⟩)
        | stuck => exact (propext ⟨fun h => h.elim, fun h => h.2.elim⟩)
      · rw [if_neg hc]
        exact (propext ⟨fun h => h.elim, fun h => absurd h.1 hc⟩)
    · rw [if_neg h, if_neg h]
      rfl
theorem wp_retn : wp (exS C .retn s) Q E = Q (.ret (.non, false)) s := rfl
theorem wp_if : wp (exS C (.ite t b b') s) Q E = wp (evT C t s) (fun r s => if r = true then wp (exB C b s) Q E else wp (exB C b' s) Q E) E := by
  show wp ((evT C t >>= fun r => if r then exB C b else exB C b') s) Q E = _
  simp only [wp_bind, wp_ite]
theorem wp_brk : wp (exS C .brk s) Q E = Q .brk s := rfl
theorem wp_cont : wp (exS C .cont s) Q E = Q .cont s := rfl
theorem wp_pass : wp (exS C .pass s) Q E = Q .next s := rfl
def unlockW : List Nat → W → W
  | [], s => s
  | i :: l, s => match slotA s.ρ i with
    | some (d, .lock) => unlockW l ⟨s.ρ.set i (some (d, .own)), s.S⟩
    | _ => unlockW l s
theorem wp_unlock {Q : Unit → W → Prop} : ∀ {l : List Nat} {s : W}, wp (unlock l s) Q E = Q () (unlockW l s)
  | [], s => rfl
  | i :: l, s => by
    show wp (match s.ρ[i]? with
      | some (some (d, .lock)) => unlock l { s with ρ := s.ρ.set i (some (d, .own)) }
      | _ => unlock l s) Q E = Q () (match slotA s.ρ i with
      | some (d, .lock) => unlockW l ⟨s.ρ.set i (some (d, .own)), s.S⟩
      | _ => unlockW l s)
    cases e : slotA s.ρ i with
    | none => rcases slot_none e with h | h <;> rw [h] <;> exact wp_unlock
    | some x => rw [slotA_some e]; obtain ⟨d, o⟩ := x; cases o <;> exact wp_unlock
theorem wp_for {tg : TG} {src : TI} : wp (exS C (.for_ tg src b) s) Q E = wp (evI C src s) (fun it s' => wp (forLoop tg (exB C b) it.1 s') (fun f s'' => Q f (unlockW (fresh s it.2) s'')) E) E := by
  show wp ((evI C src >>= fun items => forLoop tg (exB C b) items.1 >>= fun f => unlock (fresh s items.2) >>= fun _ => (M.pure f : M Fl)) s) Q E = _
  simp only [wp_bind, wp_unlock, wp_pure]
theorem wp_while : wp (exS C (.while_ t b) s) Q E = wp (whileLoop (evT C t) (exB C b) C.W s) Q E := rfl
/-! ### loops -/
theorem wp_forL_nil {tg : TG} {m : M Fl} : wp (forLoop tg m [] s) Q E = Q .next s := rfl
def thenF (tg : TG) (m : M Fl) (ds : List D) (Q : Fl → W → Prop) (E : Ex → W → Prop) (f : Fl) (s : W) : Prop :=
  match f with
  | .ret h => Q (.ret h) s
  | .brk => Q .next s
  | _ => wp (forLoop tg m ds s) Q E
theorem wp_forL_cons {tg : TG} {m : M Fl} {d : D} {ds : List D} : wp (forLoop tg m (d :: ds) s) Q E = wp (assignG tg (d, false) s) (fun _ s => wp (m s) (thenF tg m ds Q E) E) E := by
  show wp ((assignG tg (d, false) >>= fun _ => m >>= fun f => (match f with
    | .ret h => M.pure (.ret h)
    | .brk => M.pure .next
    | _ => forLoop tg m ds : M Fl)) s) Q E = _
  simp only [wp_bind]
  congr 1; funext _ s
  congr 1; funext f s
  cases f <;> rfl
theorem thenF_next {tg : TG} {m : M Fl} {ds : List D} : thenF tg m ds Q E .next s = wp (forLoop tg m ds s) Q E := rfl
theorem thenF_cont {tg : TG} {m : M Fl} {ds : List D} : thenF tg m ds Q E .cont s = wp (forLoop tg m ds s) Q E := rfl
theorem thenF_brk {tg : TG} {m : M Fl} {ds : List D} : thenF tg m ds Q E .brk s = Q .next s := rfl
theorem thenF_ret {tg : TG} {m : M Fl} {ds : List D} {h : Hd} : thenF tg m ds Q E (.ret h) s = Q (.ret h) s := rfl
/-- a loop by its invariant -/
def stepF (I : W → Prop) (Q : Fl → W → Prop) (f : Fl) (s : W) : Prop :=
  match f with
  | .ret h => Q (.ret h) s
  | .brk => Q .next s
  | _ => I s
theorem stepF_next {I : W → Prop} : stepF I Q .next s = I s := rfl
theorem stepF_cont {I : W → Prop} : stepF I Q .cont s = I s := rfl
theorem stepF_brk {I : W → Prop} : stepF I Q .brk s = Q .next s := rfl
theorem stepF_ret {I : W → Prop} {h : Hd} : stepF I Q (.ret h) s = Q (.ret h) s := rfl
theorem for_inv {tg : TG} {m : M Fl} (I : Nat → W → Prop) : ∀ (ds : List D) (j : Nat) (s : W), I j s →
    (∀ (i : Nat) (d : D) (s : W), ds[i]? = some d → I (j + i) s → wp (assignG tg (d, false) s) (fun _ s => wp (m s) (stepF (I (j + i + 1)) Q) E) E) → (∀ s, I (j + ds.length) s → Q .next s) → wp (forLoop tg m ds s) Q E
  | [], j, s, h0, _, hd => hd s h0
  | d :: ds, j, s, h0, hs, hd => by
    rw [wp_forL_cons]
    refine wp_imp (hs 0 d s rfl h0) (fun _ s h => wp_imp h (fun f s h => ?_) fun _ _ h => h) fun _ _ h => h
    have go : I (j + 1) s → wp (forLoop tg m ds s) Q E := fun h => for_inv I ds (j + 1) s h (fun i d s e h => by
      have := hs (i + 1) d s (by simpa using e) (by rw [show j + (i + 1) = j + 1 + i by omega]; exact h)
      rw [show j + (i + 1) + 1 = j + 1 + i + 1 by omega] at this
      exact this) fun s h => hd s (by rw [List.length_cons, show j + (ds.length + 1) = j + 1 + ds.length by omega]; exact h)
    cases f with
    | next => exact go h
    | cont => exact go h
    | brk => exact h
    | ret v => exact h
/-- the same from the start -/
theorem for_rule {tg : TG} {m : M Fl} {ds : List D} {s : W} (I : Nat → W → Prop) (h0 : I 0 s) (hs : ∀ (i : Nat) (d : D) (s : W), ds[i]? = some d → I i s → wp (assignG tg (d, false) s) (fun _ s => wp (m s) (stepF (I (i + 1)) Q) E) E)
    (hd : ∀ s, I ds.length s → Q .next s) : wp (forLoop tg m ds s) Q E :=
  for_inv I ds 0 s h0 (fun i d s e h => by simpa using hs i d s e (by simpa using h)) fun s h => hd s (by simpa using h)
theorem while_rule {test : M Bool} {m : M Fl} (I : Nat → W → Prop) : ∀ (n : Nat) (s : W), (∃ j, j < n ∧ I j s) →
    (∀ j s, I j s → wp (test s) (fun r s => if r = true then wp (m s) (stepF (fun s => ∃ j', j' < j ∧ I j' s) Q) E else Q .next s) E) → wp (whileLoop test m n s) Q E
  | 0, s, ⟨j, hj, _⟩, _ => absurd hj (by omega)
  | n + 1, s, ⟨j, hj, h0⟩, hs => by
    have e : whileLoop test m (n + 1) s = (test >>= fun b => if b then m >>= fun f => (match f with
      | .ret h => M.pure (.ret h)
      | .brk => M.pure .next
      | _ => whileLoop test m n : M Fl) else (M.pure .next : M Fl)) s := rfl
    rw [e, wp_bind]
    refine wp_imp (hs j s h0) (fun r s h => ?_) fun _ _ h => h
    cases r with
    | false => exact h
    | true =>
      have h : wp (m s) (stepF (fun s => ∃ j', j' < j ∧ I j' s) Q) E := h
      show wp ((m >>= fun f => (match f with
        | .ret h => M.pure (.ret h)
        | .brk => M.pure .next
        | _ => whileLoop test m n : M Fl)) s) Q E
      rw [wp_bind]
      have go : ∀ s, (∃ j', j' < j ∧ I j' s) → wp (whileLoop test m n s) Q E := fun s ⟨j', h1, h2⟩ => while_rule I n s ⟨j', by omega, h2⟩ hs
      refine wp_imp h (fun f s h => ?_) fun _ _ h => h
      cases f with
      | next => exact go s h
      | cont => exact go s h
      | brk => exact h
      | ret v => exact h
end
/-! ### what loops walk; targets -/
section
variable {E : Ex → W → Prop} {s : W} {C : Cfg} {a b : TE} {l : TL} {ρ : List Slot} {S : List D} {d : D} {fr : Bool} {i : Nat}
def lkS (x : Slot) (i : Nat) (Qo : D → Prop) (Q : D → Prop) : Prop :=
  match x with
  | some (d, .own) => Qo d
  | some (d, .lock) => Q d
  | some (d, .bor) => Q d
  | _ => False
theorem lkS_own {Qo Q : D → Prop} : lkS (some (d, .own)) i Qo Q = Qo d := rfl
theorem lkS_lock {Qo Q : D → Prop} : lkS (some (d, .lock)) i Qo Q = Q d := rfl
theorem lkS_bor {Qo Q : D → Prop} : lkS (some (d, .bor)) i Qo Q = Q d := rfl
theorem wp_lock_loc {Q : D × List Nat → W → Prop} : wp (lockH (.loc i, fr) ⟨ρ, S⟩) Q E = lkS (slotA ρ i) i (fun d => Q (d, [i]) ⟨ρ.set i (some (d, .lock)), S⟩) (fun d => Q (d, []) ⟨ρ, S⟩) := by
  show wp (match ρ[i]? with
    | some (some (d, .own)) => Res.ok (d, [i]) ⟨ρ.set i (some (d, .lock)), S⟩
    | some (some (d, .lock)) => .ok (d, []) ⟨ρ, S⟩
    | some (some (d, .bor)) => .ok (d, []) ⟨ρ, S⟩
    | _ => .stuck) Q E = _
  cases e : slotA ρ i with
  | none => rcases slot_none e with h | h <;> rw [h] <;> rfl
  | some x => rw [slotA_some e]; obtain ⟨d, o⟩ := x; cases o <;> rfl
theorem wp_lock_v {Q : D × List Nat → W → Prop} (h : d.vl = true) : wp (lockH (d, fr) s) Q E = Q (d, []) s := by
  cases d <;> first | rfl | cases h
variable {Q : List D × List Nat → W → Prop}
theorem wp_I_val : wp (evI C (.val a) s) Q E = wp (evE C a s) (fun h s => wp (lockH h s) (fun r s => wpo (walk? r.1) fun l => Q (l, r.2) s) E) E := by
  show wp ((evE C a >>= fun h => lockH h >>= fun r => liftO (walk? r.1) >>= fun l => (M.pure (l, r.2) : M _)) s) Q E = _
  simp only [wp_bind, wp_lift, wp_pure]
theorem wp_I_range : wp (evI C (.range l) s) Q E = wp (evL C l s) (fun ds s => wpo (rangeop ds) fun l => Q (l, []) s) E := by
  show wp ((evL C l >>= fun ds => liftO (rangeop ds) >>= fun l => (M.pure (l, []) : M _)) s) Q E = _
  simp only [wp_bind, wp_lift, wp_pure]
theorem wp_I_enum : wp (evI C (.enum a) s) Q E = wp (evE C a s) (fun h s => wp (lockH h s) (fun r s => wpo (onlyL r.1) fun l => Q (enumD 0 l, r.2) s) E) E := by
  show wp ((evE C a >>= fun h => lockH h >>= fun r => liftO (onlyL r.1) >>= fun l => (M.pure (enumD 0 l, r.2) : M _)) s) Q E = _
  simp only [wp_bind, wp_lift, wp_pure]
theorem wp_I_zip : wp (evI C (.zip a b) s) Q E = wp (evE C a s) (fun h s => wp (evE C b s) (fun k s => wp (lockH h s) (fun r s => wp (lockH k s) (fun q s => wpo (zip? r.1 q.1) fun l => Q (zipD l.1 l.2, r.2 ++ q.2) s) E) E) E) E := by
  show wp ((evE C a >>= fun h => evE C b >>= fun k => lockH h >>= fun r => lockH k >>= fun q => liftO (zip? r.1 q.1) >>= fun l => (M.pure (zipD l.1 l.2, r.2 ++ q.2) : M _)) s) Q E = _
  simp only [wp_bind, wp_lift, wp_pure]
theorem wp_I_rev : wp (evI C (.rev a) s) Q E = wp (evE C a s) (fun h s => wp (lockH h s) (fun r s => wpo (onlyL r.1) fun l => Q (l.reverse, r.2) s) E) E := by
  show wp ((evE C a >>= fun h => lockH h >>= fun r => liftO (onlyL r.1) >>= fun l => (M.pure (l.reverse, r.2) : M _)) s) Q E = _
  simp only [wp_bind, wp_lift, wp_pure]
theorem wp_G_slot {p : Bool} {h : Hd} {Q : Unit → W → Prop} : wp (assignG (.slot i p) h s) Q E = wp (setSlot i p h s) Q E := rfl
theorem wp_G_tup {l : List TG} {h : Hd} {Q : Unit → W → Prop} : wp (assignG (.tup l) h s) Q E = wp (peek h s) (fun d s => wpo (tupD d) fun ds => decide (ds.length = l.length) = true ∧ wp (assignL l ds s) Q E) E := by
  show wp ((peek h >>= fun d => liftO (tupD d) >>= fun ds => chk (decide (ds.length = l.length)) >>= fun _ => assignL l ds) s) Q E = _
  simp only [wp_bind, wp_lift, wp_chk]
theorem wp_GL_nil {Q : Unit → W → Prop} : wp (assignL [] [] s) Q E = Q () s := rfl
theorem wp_GL_cons {p : Bool} {l : List TG} {ds : List D} {Q : Unit → W → Prop} : wp (assignL (.slot i p :: l) (d :: ds) s) Q E = wp (setSlot i p (d, false) s) (fun _ s => wp (assignL l ds s) Q E) E := by
  show wp ((setSlot i p (d, false) >>= fun _ => assignL l ds) s) Q E = _
  simp only [wp_bind]
end
/-! ### comprehensions -/
section
variable {Q : Hd → W → Prop} {E : Ex → W → Prop} {s : W} {C : Cfg} {elt : TE} {tg : TG} {src : TI} {ifs : TL} {own : List Nat}
theorem wp_noexc {α : Type} {m : M α} {Q : α → W → Prop} : wp (noexc m s) Q E = wp (m s) Q fun _ _ => False := by
  unfold noexc
  cases m s <;> rfl
theorem wp_comp : wp (evE C (.comp elt tg src ifs own) s) Q E = wp (evI C src s) (fun it s' => ownFree s'.ρ own = true ∧
    wp (compLoop tg own (noexc (evTs C ifs)) (noexc (evE C elt)) it.1 [] s') (fun acc s'' => Q (.lst acc, true) (unlockW (fresh s it.2) ⟨unwipe s'.ρ s''.ρ own, s''.S⟩)) fun _ _ => False) E := by
  show wp ((evI C src >>= fun items => (fun s' => if ownFree s'.ρ own then (match compLoop tg own (noexc (evTs C ifs)) (noexc (evE C elt)) items.1 [] s' with
      | .ok acc s'' => (unlock (fresh s items.2) >>= fun _ => (M.pure (.lst acc, true) : M Hd)) { s'' with ρ := unwipe s'.ρ s''.ρ own }
      | _ => .stuck) else .stuck : M Hd)) s) Q E = _
  simp only [wp_bind]
  congr 1; funext it s'
  cases ownFree s'.ρ own with
  | false => exact propext ⟨fun h => h.elim, fun h => by cases h.1⟩
  | true =>
    show wp (match compLoop tg own (noexc (evTs C ifs)) (noexc (evE C elt)) it.1 [] s' with
      | .ok acc s'' => (unlock (fresh s it.2) >>= fun _ => (M.pure (.lst acc, true) : M Hd)) { s'' with ρ := unwipe s'.ρ s''.ρ own }
      | _ => .stuck) Q E = _
    cases compLoop tg own (noexc (evTs C ifs)) (noexc (evE C elt)) it.1 [] s' with
    | stuck => exact propext ⟨fun h => h.elim, fun h => h.2.elim⟩
    | exc x s => exact propext ⟨fun h => h.elim, fun h => h.2.elim⟩
    | ok acc s'' =>
      show wp _ Q E = (_ ∧ _)
      rw [wp_bind, wp_unlock]
      exact propext ⟨fun h => ⟨rfl, h⟩, fun h => h.2⟩
theorem wp_Ts_nil {Q : Bool → W → Prop} : wp (evTs C .nil s) Q E = Q true s := rfl
theorem wp_Ts_cons {a : TE} {l : TL} {Q : Bool → W → Prop} : wp (evTs C (.cons a l) s) Q E = wp (evT C a s) (fun r s => if r = true then wp (evTs C l s) Q E else Q false s) E := by
  show wp ((evT C a >>= fun r => if r then evTs C l else (M.pure false : M Bool)) s) Q E = _
  simp only [wp_bind, wp_ite, wp_pure]
theorem wp_cL_nil {tests : M Bool} {elt : M Hd} {acc : List D} {Q : List D → W → Prop} : wp (compLoop tg own tests elt [] acc s) Q E = Q acc s := rfl
theorem wp_cL_cons {tests : M Bool} {elt : M Hd} {acc : List D} {d : D} {ds : List D} {Q : List D → W → Prop} : wp (compLoop tg own tests elt (d :: ds) acc s) Q E =
    wp (assignG tg (d, false) ⟨wipeS s.ρ own, s.S⟩) (fun _ s => wp (tests s) (fun b s => if b = true then wp (elt s) (fun h s => wp (esc h s) (fun h s => acc.length < line ∧ wp (compLoop tg own tests elt ds (acc ++ [h.1]) s) Q E) E) E else wp (compLoop tg own tests elt ds acc s) Q E) E) E := by
  show wp (((fun s => .ok () { s with ρ := wipeS s.ρ own } : M Unit) >>= fun _ => assignG tg (d, false) >>= fun _ => tests >>= fun b => (if b then elt >>= fun h => esc h >>= fun h => (if acc.length < line then compLoop tg own tests elt ds (acc ++ [h.1]) else stuck : M (List D)) else compLoop tg own tests elt ds acc)) s) Q E = _
  simp only [wp_bind, wp_ite, wp_ok, wp_stk]
  congr 1; funext _ s; congr 1; funext b s
  cases b with
  | false => rfl
  | true =>
    simp only [if_true]
    congr 1; funext h s; congr 1; funext h s
    split
    · rename_i c; exact propext ⟨fun h => ⟨c, h⟩, fun h => h.2⟩
    · rename_i c; exact propext ⟨fun h => h.elim, fun h => absurd h.1 c⟩
theorem wipeS_len : ∀ {own : List Nat} {ρ : List Slot}, (wipeS ρ own).length = ρ.length
  | [], _ => rfl
  | i :: own, ρ => by rw [wipeS, List.length_set, wipeS_len]
theorem unwipe_get : ∀ {own : List Nat} {ρ ρ' : List Slot} {j : Nat}, ρ'.length = ρ.length → j < ρ.length → (unwipe ρ ρ' own)[j]? = if j ∈ own then ρ[j]? else ρ'[j]?
  | [], ρ, ρ', j, _, _ => by simp [unwipe]
  | i :: own, ρ, ρ', j, hl, hj => by
    have hlen : ∀ own : List Nat, (unwipe ρ ρ' own).length = ρ'.length := fun own => by
      induction own with
      | nil => rfl
      | cons i own ih => rw [unwipe, List.length_set, ih]
    rw [unwipe, List.getElem?_set]
    by_cases e : i = j
    · subst e
      rw [if_pos rfl, if_pos (by rw [hlen, hl]; exact hj), if_pos List.mem_cons_self, List.getElem?_eq_getElem hj]
      rfl
    · rw [if_neg e, unwipe_get hl hj]
      by_cases m : j ∈ own
      · rw [if_pos m, if_pos (List.mem_cons_of_mem _ m)]
      · rw [if_neg m, if_neg (fun h => (List.mem_cons.mp h).elim (fun h => e h.symm) m)]
theorem wipeS_get2 : ∀ {own : List Nat} {ρ : List Slot} {j : Nat}, j ∉ own → (wipeS ρ own)[j]? = ρ[j]?
  | [], ρ, j, _ => rfl
  | i :: own, ρ, j, h => by
    rw [wipeS, List.getElem?_set_ne (fun e => h (by rw [e]; exact List.mem_cons_self)), wipeS_get2 fun m => h (List.mem_cons_of_mem _ m)]
theorem unwipe_eq {own : List Nat} {ρ ρ' : List Slot} (h : wipeS ρ' own = wipeS ρ own) : unwipe ρ ρ' own = ρ := by
  have hl : ρ'.length = ρ.length := by rw [← wipeS_len (own := own), h, wipeS_len]
  have hlen : (unwipe ρ ρ' own).length = ρ'.length := by
    clear h hl
    induction own with
    | nil => rfl
    | cons i own ih => rw [unwipe, List.length_set, ih]
  refine List.ext_getElem? fun j => ?_
  by_cases hj : j < ρ.length
  · rw [unwipe_get hl hj]
    split
    · rfl
    · rename_i m
      rw [← wipeS_get2 (ρ := ρ') m, h, wipeS_get2 m]
  · rw [List.getElem?_eq_none (by omega), List.getElem?_eq_none (by omega)]
/-- the turns of a comprehension, by an invariant over the values so far and the cells -/
theorem comp_inv {tests : M Bool} {elt : M Hd} {ρw : List Slot} {Q : List D → W → Prop} (J : Nat → List D → List D → Prop) : ∀ (ds : List D) (j : Nat) (acc : List D) (s : W), wipeS s.ρ own = ρw → J j acc s.S →
    (∀ (i : Nat) (d : D) (acc S : List D), ds[i]? = some d → J (j + i) acc S → wp (assignG tg (d, false) ⟨ρw, S⟩) (fun _ s => wp (tests s) (fun b s => if b = true then wp (elt s) (fun h s => wp (esc h s) (fun h s => acc.length < line ∧ wipeS s.ρ own = ρw ∧ J (j + i + 1) (acc ++ [h.1]) s.S) E) E
      else wipeS s.ρ own = ρw ∧ J (j + i + 1) acc s.S) E) E) → (∀ acc s, wipeS s.ρ own = ρw → J (j + ds.length) acc s.S → Q acc s) → wp (compLoop tg own tests elt ds acc s) Q E
  | [], j, acc, s, hw, h0, _, hd => hd acc s hw h0
  | d :: ds, j, acc, s, hw, h0, hs, hd => by
    rw [wp_cL_cons, hw]
    have go : ∀ acc s, wipeS s.ρ own = ρw → J (j + 1) acc s.S → wp (compLoop tg own tests elt ds acc s) Q E := fun acc s hw h => comp_inv J ds (j + 1) acc s hw h (fun i d acc S e h => by
      have := hs (i + 1) d acc S (by simpa using e) (by rw [show j + (i + 1) = j + 1 + i by omega]; exact h)
      rw [show j + (i + 1) + 1 = j + 1 + i + 1 by omega] at this
      exact this) fun acc s hw h => hd acc s hw (by rw [List.length_cons, show j + (ds.length + 1) = j + 1 + ds.length by omega]; exact h)
    refine wp_imp (hs 0 d acc s.S rfl h0) (fun _ s h => wp_imp h (fun b s h => ?_) fun _ _ h => h) fun _ _ h => h
    cases b with
    | false => exact go acc s h.1 h.2
    | true =>
      have h : wp (elt s) _ E := h
      exact wp_imp h (fun h' s h => wp_imp h (fun h' s h => ⟨h.1, go _ s h.2.1 h.2.2⟩) fun _ _ h => h) fun _ _ h => h
theorem comp_rule {ρ : List Slot} {S : List D} {tests : M Bool} {elt : M Hd} {ds : List D} {Q : List D → W → Prop} (J : Nat → List D → List D → Prop) (h0 : J 0 [] S)
    (hs : ∀ (i : Nat) (d : D) (acc S : List D), ds[i]? = some d → J i acc S → wp (assignG tg (d, false) ⟨wipeS ρ own, S⟩) (fun _ s => wp (tests s) (fun b s => if b = true then wp (elt s) (fun h s => wp (esc h s) (fun h s => acc.length < line ∧ wipeS s.ρ own = wipeS ρ own ∧ J (i + 1) (acc ++ [h.1]) s.S) E) E
      else wipeS s.ρ own = wipeS ρ own ∧ J (i + 1) acc s.S) E) E) (hd : ∀ acc s, unwipe ρ s.ρ own = ρ → J ds.length acc s.S → Q acc s) : wp (compLoop tg own tests elt ds [] ⟨ρ, S⟩) Q E :=
  comp_inv J ds 0 [] ⟨ρ, S⟩ rfl h0 (fun i d acc S e h => by simpa using hs i d acc S e (by simpa using h)) fun acc s hw h => hd acc s (unwipe_eq hw) (by simpa using h)
end
/-! ### a def's body -/
section
variable {P : Prog} {k : Nat} {f : Str} {d : Def} {as : List Ar} {S : List D} {Q : Hd → List D → Prop} {E : Ex → List D → Prop}
def outQ (L : Nat) (Q : Hd → List D → Prop) (f : Fl) (s : W) : Prop :=
  match f with
  | .ret h => Q (gc L h s.S).1 (gc L h s.S).2
  | .next => Q (gc L (.non, false) s.S).1 (gc L (.non, false) s.S).2
  | _ => False
theorem gc_same {L : Nat} {h : Hd} {S : List D} (e : S.length = L) : gc L h S = (h, S) := by
  unfold gc
  split
  · rfl
  · rw [← e, List.take_length]
theorem outQ_ret {L : Nat} {h : Hd} {s : W} (e : s.S.length = L) : outQ L Q (.ret h) s = Q h s.S := by
  unfold outQ
  simp only [gc_same e]
theorem outQ_next {L : Nat} {s : W} (e : s.S.length = L) : outQ L Q .next s = Q (.non, false) s.S := by
  unfold outQ
  simp only [gc_same e]
/-- a call of a def, every parameter given -/
theorem wp_def (hd : P.defs f = some d) (hl : as.length = d.ps) : wp (callN P (k + 1) f as S) Q E = wp (exB (cfg P k) d.body ⟨startS d.n as, S⟩) (outQ S.length Q) (fun x s => E x s.S) := by
  rw [callN, hd]
  simp only [hl, Nat.sub_self, Nat.le_refl, decide_true, Nat.zero_le, Bool.and_self, if_true, Nat.sub_zero, List.drop_length, List.map_nil, List.append_nil]
  show wp (match exB (cfg P k) d.body ⟨startS d.n as, S⟩ with
    | .ok (.ret h) s => .ok (gc S.length h s.S).1 (gc S.length h s.S).2
    | .ok .next s => .ok (gc S.length (.non, false) s.S).1 (gc S.length (.non, false) s.S).2
    | .ok _ _ => .stuck
    | .exc x s => .exc x s.S
    | .stuck => .stuck) Q E = _
  cases exB (cfg P k) d.body ⟨startS d.n as, S⟩ with
  | stuck => rfl
  | exc x s => rfl
  | ok f s => cases f <;> rfl
/-- the last ones by their defaults -/
theorem wp_defD (hd : P.defs f = some d) (hl : as.length ≤ d.ps) (hm : d.ps - as.length ≤ d.dfl.length) : wp (callN P (k + 1) f as S) Q E = wp (exB (cfg P k) d.body ⟨startS d.n (as ++ (d.dfl.drop (d.dfl.length - (d.ps - as.length))).map fun x => (x, .sh)), S⟩) (outQ S.length Q) (fun x s => E x s.S) := by
  rw [callN, hd]
  simp only [hl, hm, decide_true, Bool.and_self, if_true]
  show wp (match exB (cfg P k) d.body ⟨startS d.n (as ++ (d.dfl.drop (d.dfl.length - (d.ps - as.length))).map fun x => (x, .sh)), S⟩ with
    | .ok (.ret h) s => .ok (gc S.length h s.S).1 (gc S.length h s.S).2
    | .ok .next s => .ok (gc S.length (.non, false) s.S).1 (gc S.length (.non, false) s.S).2
    | .ok _ _ => .stuck
    | .exc x s => .exc x s.S
    | .stuck => .stuck) Q E = _
  cases exB (cfg P k) d.body ⟨startS d.n (as ++ (d.dfl.drop (d.dfl.length - (d.ps - as.length))).map fun x => (x, .sh)), S⟩ with
  | stuck => rfl
  | exc x s => rfl
  | ok f s => cases f <;> rfl
end
theorem vl_non  : D.vl .non = true := id rfl
theorem nl_non  : D.nl .non = true := id rfl
theorem mut_non  : D.mutable .non = false := id rfl
theorem vl_bl {b : Bool} : D.vl (.bl b) = true := id rfl
theorem nl_bl {b : Bool} : D.nl (.bl b) = true := id rfl
theorem mut_bl {b : Bool} : D.mutable (.bl b) = false := id rfl
theorem vl_int {i : Int} : D.vl (.int i) = true := id rfl
theorem nl_int {i : Int} : D.nl (.int i) = true := id rfl
theorem mut_int {i : Int} : D.mutable (.int i) = false := id rfl
theorem vl_str {x : Str} : D.vl (.str x) = true := id rfl
theorem nl_str {x : Str} : D.nl (.str x) = true := id rfl
theorem mut_str {x : Str} : D.mutable (.str x) = false := id rfl
theorem vl_tup {l : List D} : D.vl (.tup l) = true := id rfl
theorem nl_tup {l : List D} : D.nl (.tup l) = true := id rfl
theorem mut_tup {l : List D} : D.mutable (.tup l) = false := id rfl
theorem vl_lst {l : List D} : D.vl (.lst l) = true := id rfl
theorem nl_lst {l : List D} : D.nl (.lst l) = true := id rfl
theorem mut_lst {l : List D} : D.mutable (.lst l) = true := id rfl
theorem vl_dic {l m : List D} : D.vl (.dic l m) = true := id rfl
theorem nl_dic {l m : List D} : D.nl (.dic l m) = true := id rfl
theorem mut_dic {l m : List D} : D.mutable (.dic l m) = true := id rfl
theorem vl_kon {l m : List D} : D.vl (.kon l m) = true := id rfl
theorem nl_kon {l m : List D} : D.nl (.kon l m) = true := id rfl
theorem mut_kon {l m : List D} : D.mutable (.kon l m) = false := id rfl
theorem vl_exn {c f : List Str} {v : List D} : D.vl (.exn c f v) = true := id rfl
theorem nl_exn {c f : List Str} {v : List D} : D.nl (.exn c f v) = true := id rfl
theorem mut_exn {c f : List Str} {v : List D} : D.mutable (.exn c f v) = false := id rfl
theorem vl_ins {c : Str} {f : List Str} {v : List D} : D.vl (.ins c f v) = true := id rfl
theorem nl_ins {c : Str} {f : List Str} {v : List D} : D.nl (.ins c f v) = true := id rfl
theorem mut_ins {c : Str} {f : List Str} {v : List D} : D.mutable (.ins c f v) = true := id rfl
theorem vl_ref {n : Nat} : D.vl (.ref n) = false := id rfl
theorem nl_ref {n : Nat} : D.nl (.ref n) = true := id rfl
theorem mut_ref {n : Nat} : D.mutable (.ref n) = false := id rfl
theorem vl_loc {n : Nat} : D.vl (.loc n) = false := id rfl
theorem nl_loc {n : Nat} : D.nl (.loc n) = false := id rfl
theorem mut_loc {n : Nat} : D.mutable (.loc n) = false := id rfl
end EV

set_option autoImplicit false
set_option linter.all false
set_option maxRecDepth 10000
namespace EV
open PySem
/-- a mark: rewriting leaves alone what it marks -/
structure Tg {α : Sort _} (a : α) : Type where
def wq {σ α : Type} (r : Res σ α) (Q : α → σ → Prop) (E : Ex → σ → Prop) (_ : Tg Q := .mk) (_ : Tg E := .mk) : Prop := wp r Q E
def wqo {α : Type} (o : Option α) (Q : α → Prop) (_ : Tg Q := .mk) : Prop := wpo o Q
def rdQ (x : Slot) (i : Nat) (Q : Hd → Prop) (_ : Tg Q := .mk) : Prop := rdS x i Q
def pkQ (x : Slot) (Q : D → Prop) (_ : Tg Q := .mk) : Prop := pkS x Q
def escQ (x : Slot) (Q : D → Prop) (_ : Tg Q := .mk) : Prop := escS x Q
def setQ (ρ : List Slot) (S : List D) (i : Nat) (p fr : Bool) (d : D) (Q : Unit → W → Prop) (_ : Tg Q := .mk) : Prop := setS ρ S i p fr d Q
def ctQ (x : Slot) (Q : Ar → Prop) (_ : Tg Q := .mk) : Prop := ctO x Q
def wqA (ρ : List Slot) (hs : List Hd) (Q : List Ar → Prop) (_ : Tg Q := .mk) : Prop := wpA ρ hs Q
def thenQ (C : Cfg) (b : TB) (Q : Fl → W → Prop) (E : Ex → W → Prop) (f : Fl) (s : W) (_ : Tg (C, b, Q, E) := .mk) : Prop := thenB C b Q E f s
def thenFQ (tg : TG) (m : M Fl) (ds : List D) (Q : Fl → W → Prop) (E : Ex → W → Prop) (f : Fl) (s : W) (_ : Tg (tg, m, ds, Q, E) := .mk) : Prop := thenF tg m ds Q E f s
def stepQ (I : W → Prop) (Q : Fl → W → Prop) (f : Fl) (s : W) (_ : Tg (I, Q) := .mk) : Prop := stepF I Q f s
def lkQ (x : Slot) (i : Nat) (Qo : D → Prop) (Q : D → Prop) (_ : Tg (Qo, Q) := .mk) : Prop := lkS x i Qo Q
def outT (L : Nat) (Q : Hd → List D → Prop) (f : Fl) (s : W) (_ : Tg Q := .mk) : Prop := outQ L Q f s
theorem setQ_eq {ρ : List Slot} {S : List D} {i : Nat} {p fr : Bool} {d : D} {Q : Unit → W → Prop} : setQ ρ S i p fr d Q = (i < ρ.length ∧ lockS (slotA ρ i) = false ∧
    if (fr && d.mutable) = true then (if p = true then Q () ⟨ρ.set i (some (.ref S.length, .sh)), S ++ [d]⟩ else Q () ⟨ρ.set i (some (d, .own)), S⟩) else Q () ⟨ρ.set i (some (d, .sh)), S⟩) := rfl
theorem wq_wp {σ α : Type} {r : Res σ α} {Q : α → σ → Prop} {E : Ex → σ → Prop} : wq r Q E = wp r Q E := rfl
section
variable {σ α β : Type} {Q : β → σ → Prop} {E : Ex → σ → Prop}
theorem qwp_ok {a : β} {s : σ} : wq (.ok a s : Res σ β) Q E = Q a s := wp_ok
theorem qwp_exc {x : Ex} {s : σ} : wq (.exc x s : Res σ β) Q E = E x s := wp_exc
theorem qwp_stuck : wq (.stuck : Res σ β) Q E = False := wp_stuck
theorem qwpo_some {a : α} {Q : α → Prop} : wqo (some a) Q = Q a := wpo_some
theorem qwpo_none {Q : α → Prop} : wqo none Q = False := wpo_none
theorem qwp_imp {r : Res σ β} {Q' : β → σ → Prop} {E' : Ex → σ → Prop} (h : wq r Q E) (k : ∀ a s, Q a s → Q' a s) (ke : ∀ x s, E x s → E' x s) : wq r Q' E' := wp_imp h k ke
end
section
variable {α β : Type} {Q : β → W → Prop} {E : Ex → W → Prop} {s : W}
theorem qwp_bind {m : M α} {f : α → M β} : wq ((m >>= f) s) Q E = wq (m s) (fun a s' => wq (f a s') Q E) E := wp_bind
theorem qwp_pure {a : β} : wq ((M.pure a : M β) s) Q E = Q a s := wp_pure
theorem qwp_lift {o : Option β} : wq (liftO o s) Q E = wqo o fun a => Q a s := wp_lift
theorem qwp_chk {b : Bool} {Q : Unit → W → Prop} : wq (chk b s) Q E = (b = true ∧ Q () s) := wp_chk
theorem qwp_stk : wq ((stuck : M β) s) Q E = False := wp_stk
theorem qwp_ite {c : Prop} [Decidable c] {m k : M β} : wq ((if c then m else k) s) Q E = if c then wq (m s) Q E else wq (k s) Q E := wp_ite
end
section
variable {Q : Hd → W → Prop} {E : Ex → W → Prop} {ρ : List Slot} {S : List D} {d : D} {fr : Bool} {i n : Nat} {C : Cfg}
theorem qwp_slot : wq (evE C (.slot i) ⟨ρ, S⟩) Q E = rdQ (slotA ρ i) i (fun h => Q h ⟨ρ, S⟩) := wp_slot
theorem qrdS_sh {Q : Hd → Prop} : rdQ (some (d, .sh)) i Q = Q (d, false) := rdS_sh
theorem qrdS_own {Q : Hd → Prop} : rdQ (some (d, .own)) i Q = Q (.loc i, false) := rdS_own
theorem qrdS_lock {Q : Hd → Prop} : rdQ (some (d, .lock)) i Q = Q (.loc i, false) := rdS_lock
theorem qrdS_bor {Q : Hd → Prop} : rdQ (some (d, .bor)) i Q = Q (.loc i, false) := rdS_bor
theorem qwp_peek_loc {Q : D → W → Prop} : wq (peek (.loc i, fr) ⟨ρ, S⟩) Q E = pkQ (slotA ρ i) (fun d => Q d ⟨ρ, S⟩) := wp_peek_loc
theorem qpkS_own {Q : D → Prop} : pkQ (some (d, .own)) Q = Q d := pkS_own
theorem qpkS_lock {Q : D → Prop} : pkQ (some (d, .lock)) Q = Q d := pkS_lock
theorem qpkS_bor {Q : D → Prop} : pkQ (some (d, .bor)) Q = Q d := pkS_bor
theorem qwp_peek_ref {Q : D → W → Prop} : wq (peek (.ref n, fr) ⟨ρ, S⟩) Q E = wqo S[n]? (fun d => Q d ⟨ρ, S⟩) := wp_peek_ref
theorem qwp_peek_v {Q : D → W → Prop} {s : W} (h : d.vl = true) : wq (peek (d, fr) s) Q E = Q d s := wp_peek_v h
theorem qescS_own {Q : D → Prop} : escQ (some (d, .own)) Q = Q d := escS_own
theorem qwp_esc_loc : wq (esc (.loc i, fr) ⟨ρ, S⟩) Q E = escQ (slotA ρ i) (fun d => Q (d, false) ⟨ρ.set i (some (d, .sh)), S⟩) := wp_esc_loc
theorem qwp_esc_v {s : W} (h : d.nl = true) : wq (esc (d, fr) s) Q E = Q (d, fr) s := wp_esc_v h
theorem qwp_give_loc : wq (give (.loc i, fr) ⟨ρ, S⟩) Q E = escQ (slotA ρ i) (fun d => Q (d, true) ⟨ρ.set i none, S⟩) := wp_give_loc
theorem qwp_give_v {s : W} (h : d.nl = true) : wq (give (d, fr) s) Q E = Q (d, fr) s := wp_give_v h
theorem qwp_cell_loc : wq (toCell (.loc i, fr) ⟨ρ, S⟩) Q E = escQ (slotA ρ i) (fun d => Q (.ref S.length, false) ⟨ρ.set i (some (.ref S.length, .sh)), S ++ [d]⟩) := wp_cell_loc
theorem qwp_cell_f {s : W} (h : d.nl = true) : wq (toCell (d, false) s) Q E = Q (d, false) s := wp_cell_f h
theorem qwp_cell_t (h : d.nl = true) : wq (toCell (d, true) ⟨ρ, S⟩) Q E = if d.mutable = true then Q (.ref S.length, false) ⟨ρ, S ++ [d]⟩ else Q (d, false) ⟨ρ, S⟩ := wp_cell_t h
theorem qwp_chg_loc {f : D → Option (D × D)} : wq (change (.loc i, fr) f ⟨ρ, S⟩) Q E = escQ (slotA ρ i) (fun d => wqo (f d) fun r => Q (r.1, false) ⟨ρ.set i (some (r.2, .own)), S⟩) := wp_chg_loc
theorem qwp_chg_ref {f : D → Option (D × D)} : wq (change (.ref n, fr) f ⟨ρ, S⟩) Q E = wqo S[n]? (fun d => wqo (f d) fun r => Q (r.1, false) ⟨ρ, S.set n r.2⟩) := wp_chg_ref
theorem qwp_set {p : Bool} {Q : Unit → W → Prop} (h : d.nl = true) : wq (setSlot i p (d, fr) ⟨ρ, S⟩) Q E = setQ ρ S i p fr d Q := wp_set h
end
section
variable {Q : Hd → W → Prop} {E : Ex → W → Prop} {s : W} {C : Cfg} {a b c : TE} {l : TL}
theorem qwp_con {d : D} : wq (evE C (.con d) s) Q E = Q (d, false) s := wp_con
theorem qwp_glob {x : Str} : wq (evE C (.glob x) s) Q E = wqo (C.G x) fun d => Q (d, false) s := wp_glob
theorem qwp_bin {o : BOp} : wq (evE C (.bin o a b) s) Q E = wq (evE C a s) (fun h s => wq (evE C b s) (fun k s => wq (peek h s) (fun x s => wq (peek k s) (fun y s => wqo (binop o x y) fun r => Q r s) E) E) E) E := wp_bin
theorem qwp_neg : wq (evE C (.neg a) s) Q E = wq (evE C a s) (fun h s => wq (peek h s) (fun x s => wqo (intO x) fun i => Q (.int (-i), false) s) E) E := wp_neg
theorem qwp_not : wq (evE C (.not a) s) Q E = wq (evE C a s) (fun h s => wq (peek h s) (fun x s => wqo (blO x) fun i => Q (.bl (!i), false) s) E) E := wp_not
theorem qwp_notT {Q : Bool → W → Prop} : wq (evT C (.not a) s) Q E = wq (evT C a s) (fun r s => Q (!r) s) E := wp_notT
theorem qwp_and : wq (evE C (.and a b) s) Q E = wq (evE C a s) (fun h s => wqo (blO h.1) fun r => if r = true then wq (evE C b s) Q E else Q (.bl false, false) s) E := wp_and
theorem qwp_or : wq (evE C (.or a b) s) Q E = wq (evE C a s) (fun h s => wqo (blO h.1) fun r => if r = true then Q (.bl true, false) s else wq (evE C b s) Q E) E := wp_or
theorem qwp_andT {Q : Bool → W → Prop} : wq (evT C (.and a b) s) Q E = wq (evT C a s) (fun r s => if r = true then wq (evT C b s) Q E else Q false s) E := wp_andT
theorem qwp_orT {Q : Bool → W → Prop} : wq (evT C (.or a b) s) Q E = wq (evT C a s) (fun r s => if r = true then Q true s else wq (evT C b s) Q E) E := wp_orT
theorem qwp_cmp {o : COp} : wq (evE C (.cmp o a b) s) Q E = wq (evE C a s) (fun h s => wq (evE C b s) (fun k s => wq (peek h s) (fun x s => wq (peek k s) (fun y s => wqo (cmpop o x y) fun r => Q (.bl r, false) s) E) E) E) E := wp_cmp
theorem qwp_cmpT {o : COp} {Q : Bool → W → Prop} : wq (evT C (.cmp o a b) s) Q E = wq (evE C a s) (fun h s => wq (evE C b s) (fun k s => wq (peek h s) (fun x s => wq (peek k s) (fun y s => wqo (cmpop o x y) fun r => Q r s) E) E) E) E := wp_cmpT
theorem qwp_chain {o p : COp} : wq (evE C (.chain o p a b c) s) Q E = wq (evE C a s) (fun h s => wq (evE C b s) (fun k s => wq (peek h s) (fun x s => wq (peek k s) (fun y s => wqo (cmpop o x y) fun r =>
    if r = true then wq (evE C c s) (fun l s => wq (peek k s) (fun y s => wq (peek l s) (fun z s => wqo (cmpop p y z) fun r => Q (.bl r, false) s) E) E) E else Q (.bl false, false) s) E) E) E) E := wp_chain
theorem qwp_chainT {o p : COp} {Q : Bool → W → Prop} : wq (evT C (.chain o p a b c) s) Q E = wq (evE C a s) (fun h s => wq (evE C b s) (fun k s => wq (peek h s) (fun x s => wq (peek k s) (fun y s => wqo (cmpop o x y) fun r =>
    if r = true then wq (evE C c s) (fun l s => wq (peek k s) (fun y s => wq (peek l s) (fun z s => wqo (cmpop p y z) fun r => Q r s) E) E) E else Q false s) E) E) E) E := wp_chainT
theorem qwp_chain3 {o p q : COp} {d : TE} : wq (evE C (.chain3 o p q a b c d) s) Q E = wq (evE C a s) (fun h s => wq (evE C b s) (fun k s => wq (peek h s) (fun x s => wq (peek k s) (fun y s => wqo (cmpop o x y) fun r =>
    if r = true then wq (evE C c s) (fun l s => wq (peek k s) (fun y s => wq (peek l s) (fun z s => wqo (cmpop p y z) fun r => if r = true then wq (evE C d s) (fun m s => wq (peek l s) (fun z s => wq (peek m s) (fun u s => wqo (cmpop q z u) fun r => Q (.bl r, false) s) E) E) E else Q (.bl false, false) s) E) E) E else Q (.bl false, false) s) E) E) E) E := wp_chain3
theorem qwp_iteE : wq (evE C (.ite a b c) s) Q E = wq (evT C a s) (fun r s => if r = true then wq (evE C b s) Q E else wq (evE C c s) Q E) E := wp_iteE
theorem qwp_iteT {Q : Bool → W → Prop} : wq (evT C (.ite a b c) s) Q E = wq (evT C a s) (fun r s => if r = true then wq (evT C b s) Q E else wq (evT C c s) Q E) E := wp_iteT
theorem qwp_tup : wq (evE C (.tup l) s) Q E = wq (evL C l s) (fun ds s => ds.length ≤ line ∧ Q (.tup ds, false) s) E := wp_tup
theorem qwp_lst : wq (evE C (.lst l) s) Q E = wq (evL C l s) (fun ds s => ds.length ≤ line ∧ Q (.lst ds, true) s) E := wp_lst
theorem qwp_dic : wq (evE C (.dic l) s) Q E = wq (evP C l s) (fun r s => (r.1.all D.fk && decide (r.1.length ≤ 15)) = true ∧ Q (.dic (putAll [] [] r.1 r.2).1 (putAll [] [] r.1 r.2).2, true) s) E := wp_dic
theorem qwp_idx : wq (evE C (.idx a b) s) Q E = wq (evE C a s) (fun h s => wq (evE C b s) (fun k s => wq (peek h s) (fun x s => wq (peek k s) (fun y s => wqo (idxop x y) fun r => Q (r, false) s) E) E) E) E := wp_idx
theorem qwp_sli {lo hi : TO} : wq (evE C (.sli a lo hi) s) Q E = wq (evE C a s) (fun h s => wq (evO C lo s) (fun i s => wq (evO C hi s) (fun j s => wq (peek h s) (fun x s => wqo (sliop x i j) fun r => Q r s) E) E) E) E := wp_sli
theorem qwp_fld {f : Str} : wq (evE C (.fld a f) s) Q E = wq (evE C a s) (fun h s => wq (peek h s) (fun x s => wqo (fldop C.flds x f) fun r => Q (r, false) s) E) E := wp_fld
theorem qwp_blt {o : Blt} : wq (evE C (.blt o l) s) Q E = wq (evH C l s) (fun hs s => wq (peekL hs s) (fun ds s => wqo (bltop o ds) fun r => Q r s) E) E := wp_blt
theorem qwp_exc0 {cs : List Str} : wq (evE C (.exc0 cs) s) Q E = Q (.exn cs [] [], false) s := wp_exc0
theorem qwp_exc1 {cs : List Str} {f : Str} {k : Bool} : wq (evE C (.exc1 cs f k a) s) Q E = wq (evE C a s) (fun h s => wq (esc h s) (fun h s => xarg k h.1 = true ∧ Q (.exn cs [f] [h.1], false) s) E) E := wp_exc1
theorem qwp_isi {t : List Ty} : wq (evE C (.isi a t) s) Q E = wq (evE C a s) (fun h s => wq (peek h s) (fun x s => wqo (tyAny x t) fun r => Q (.bl r, false) s) E) E := wp_isi
theorem qwp_peekL_nil {Q : List D → W → Prop} : wq (peekL [] s) Q E = Q [] s := wp_peekL_nil
theorem qwp_peekL_cons {h : Hd} {hs : List Hd} {Q : List D → W → Prop} : wq (peekL (h :: hs) s) Q E = wq (peek h s) (fun x s => wq (peekL hs s) (fun xs s => Q (x :: xs) s) E) E := wp_peekL_cons
theorem qwp_L_nil {Q : List D → W → Prop} : wq (evL C .nil s) Q E = Q [] s := wp_L_nil
theorem qwp_L_cons {Q : List D → W → Prop} : wq (evL C (.cons a l) s) Q E = wq (evE C a s) (fun h s => wq (esc h s) (fun h s => wq (evL C l s) (fun ds s => Q (h.1 :: ds) s) E) E) E := wp_L_cons
theorem qwp_H_nil {Q : List Hd → W → Prop} : wq (evH C .nil s) Q E = Q [] s := wp_H_nil
theorem qwp_H_cons {Q : List Hd → W → Prop} : wq (evH C (.cons a l) s) Q E = wq (evE C a s) (fun h s => wq (evH C l s) (fun ds s => Q (h :: ds) s) E) E := wp_H_cons
theorem qwp_hand_val {h : Hd} : wq (hand .val h s) Q E = wq (esc h s) Q E := wp_hand_val
theorem qwp_hand_ref {h : Hd} : wq (hand .ref h s) Q E = wq (toCell h s) Q E := wp_hand_ref
theorem qwp_hand_lend {h : Hd} : wq (hand .lend h s) Q E = Q h s := wp_hand_lend
theorem qwp_A_nil {f : Str} {j : Nat} {Q : List Hd → W → Prop} : wq (evA C f j .nil s) Q E = Q [] s := wp_A_nil
theorem qwp_A_cons {f : Str} {j : Nat} {Q : List Hd → W → Prop} : wq (evA C f j (.cons a l) s) Q E = wq (evE C a s) (fun h s => wq (hand (C.mode f j) h s) (fun h s => wq (evA C f (j + 1) l s) (fun ds s => Q (h :: ds) s) E) E) E := wp_A_cons
theorem qwp_P_nil {Q : List D × List D → W → Prop} : wq (evP C .nil s) Q E = Q ([], []) s := wp_P_nil
theorem qwp_P_cons {Q : List D × List D → W → Prop} : wq (evP C (.cons a (.cons b l)) s) Q E = wq (evE C a s) (fun h s => wq (esc h s) (fun h s => wq (evE C b s) (fun k s => wq (hand (keyMode C h.1) k s) (fun k s => wq (evP C l s) (fun r s => Q (h.1 :: r.1, k.1 :: r.2) s) E) E) E) E) E := wp_P_cons
theorem qwp_O_none {Q : Option Int → W → Prop} : wq (evO C .none s) Q E = Q none s := wp_O_none
theorem qwp_O_some {Q : Option Int → W → Prop} : wq (evO C (.some a) s) Q E = wq (evE C a s) (fun h s => wqo (intO h.1) fun i => Q (some i) s) E := wp_O_some
end
section
variable {Q : Bool → W → Prop} {E : Ex → W → Prop} {s : W} {C : Cfg} {a b : TE} {l : TL}
theorem qwpT_con {d : D} : wq (evT C (.con d) s) Q E = wq (evE C (.con d) s) (fun h s => wq (peek h s) (fun x s => wqo (truth x) fun b => Q b s) E) E := wpT_con
theorem qwpT_slot {i : Nat} : wq (evT C (.slot i) s) Q E = wq (evE C (.slot i) s) (fun h s => wq (peek h s) (fun x s => wqo (truth x) fun b => Q b s) E) E := wpT_slot
theorem qwpT_idx : wq (evT C (.idx a b) s) Q E = wq (evE C (.idx a b) s) (fun h s => wq (peek h s) (fun x s => wqo (truth x) fun b => Q b s) E) E := wpT_idx
theorem qwpT_bin {o : BOp} : wq (evT C (.bin o a b) s) Q E = wq (evE C (.bin o a b) s) (fun h s => wq (peek h s) (fun x s => wqo (truth x) fun b => Q b s) E) E := wpT_bin
theorem qwpT_fld {f : Str} : wq (evT C (.fld a f) s) Q E = wq (evE C (.fld a f) s) (fun h s => wq (peek h s) (fun x s => wqo (truth x) fun b => Q b s) E) E := wpT_fld
theorem qwpT_call {f : Str} : wq (evT C (.call f l) s) Q E = wq (evE C (.call f l) s) (fun h s => wq (peek h s) (fun x s => wqo (truth x) fun b => Q b s) E) E := wpT_call
theorem qwpT_meth {f : Str} : wq (evT C (.meth a f l) s) Q E = wq (evE C (.meth a f l) s) (fun h s => wq (peek h s) (fun x s => wqo (truth x) fun b => Q b s) E) E := wpT_meth
theorem qwpT_blt {o : Blt} : wq (evT C (.blt o l) s) Q E = wq (evE C (.blt o l) s) (fun h s => wq (peek h s) (fun x s => wqo (truth x) fun b => Q b s) E) E := wpT_blt
theorem qwpT_isi {t : List Ty} : wq (evT C (.isi a t) s) Q E = wq (evE C (.isi a t) s) (fun h s => wq (peek h s) (fun x s => wqo (truth x) fun b => Q b s) E) E := wpT_isi
end
section
variable {Q : Hd → W → Prop} {E : Ex → W → Prop} {s : W} {C : Cfg} {a b : TE} {l : TL} {ρ : List Slot} {S : List D} {P : Prog} {k : Nat}
theorem qwpA_nil {Q : List Ar → Prop} : wqA ρ [] Q = Q [] := wpA_nil
theorem qwpA_loc {i : Nat} {fr : Bool} {hs : List Hd} {Q : List Ar → Prop} : wqA ρ ((.loc i, fr) :: hs) Q = ctQ (slotA ρ i) fun a => wqA ρ hs fun as => Q (a :: as) := wpA_loc
theorem qwpA_v {d : D} {fr : Bool} {hs : List Hd} {Q : List Ar → Prop} (h : d.nl = true) : wqA ρ ((d, fr) :: hs) Q = wqA ρ hs fun as => Q ((d, if (fr && d.mutable) = true then .own else .sh) :: as) := wpA_v h
theorem qctO_sh {d : D} {Q : Ar → Prop} : ctQ (some (d, .sh)) Q = Q (d, .sh) := ctO_sh
theorem qctO_own {d : D} {Q : Ar → Prop} : ctQ (some (d, .own)) Q = Q (d, .bor) := ctO_own
theorem qctO_lock {d : D} {Q : Ar → Prop} : ctQ (some (d, .lock)) Q = Q (d, .bor) := ctO_lock
theorem qctO_bor {d : D} {Q : Ar → Prop} : ctQ (some (d, .bor)) Q = Q (d, .bor) := ctO_bor
theorem qwp_arL {n : Nat} {hs : List Hd} {Q : List Ar → W → Prop} : wq (arL n hs s) Q E = wqA s.ρ hs fun as => as.length = n ∧ Q as s := wp_arL
theorem qwp_run {f : Str} {as : List Ar} : wq (C.run f as s) Q E = wq (C.call f as s.S) (fun h S => Q h ⟨s.ρ, S⟩) (fun x S => E x ⟨s.ρ, S⟩) := wp_run
theorem qwp_call {f : Str} : wq (evE (cfg P k) (.call f l) s) Q E = wq (evA (cfg P k) f 0 l s) (fun hs s => wqA s.ρ hs fun as => as.length = l.len ∧ wq (callN P k f as s.S) (fun h S => Q h ⟨s.ρ, S⟩) (fun x S => E x ⟨s.ρ, S⟩)) E := wp_call
theorem qwp_make {c : Str} : wq (evE (cfg P k) (.make c l) s) Q E = wq (evA (cfg P k) c 1 l s) (fun hs s => wqA s.ρ hs fun as => as.length = l.len ∧
    wq (callN P k c ((.ref s.S.length, .sh) :: as) (s.S ++ [.ins c [] []])) (fun h S => h.1.isNon = true ∧ Q (gcNew s.S.length S).1 ⟨s.ρ, (gcNew s.S.length S).2⟩) (fun x S => E x ⟨s.ρ, S⟩)) E := wp_make
theorem qwp_meth {m : Str} : wq (evE (cfg P k) (.meth a m l) s) Q E = wq (evE (cfg P k) a s) (fun h s => wq (toCell h s) (fun h s => wq (peek h s) (fun x s => methOk P.flds m x = true ∧ wq (evA (cfg P k) m 1 l s) (fun hs s => wqA s.ρ (h :: hs) fun as => as.length = l.len + 1 ∧ wq (callN P k m as s.S) (fun h S => Q h ⟨s.ρ, S⟩) (fun x S => E x ⟨s.ρ, S⟩)) E) E) E) E := wp_meth
theorem qwp_append : wq (evE C (.bm .append a l) s) Q E = wq (evE C a s) (fun h s => wq (peek h s) (fun x s => bmTy .append x = true ∧ wq (evL C l s) (fun ds s => wqo (bmch .append ds) fun f => wq (change h f s) Q E) E) E) E := wp_append
theorem qwp_pop0 : wq (evE C (.bm .pop0 a l) s) Q E = wq (evE C a s) (fun h s => wq (peek h s) (fun x s => bmTy .pop0 x = true ∧ wq (evL C l s) (fun ds s => wqo (bmch .pop0 ds) fun f => wq (change h f s) Q E) E) E) E := wp_pop0
theorem qwp_pop1 : wq (evE C (.bm .pop1 a l) s) Q E = wq (evE C a s) (fun h s => wq (peek h s) (fun x s => bmTy .pop1 x = true ∧ wq (evL C l s) (fun ds s => wqo (bmch .pop1 ds) fun f => wq (change h f s) Q E) E) E) E := wp_pop1
theorem qwp_remove : wq (evE C (.bm .remove a l) s) Q E = wq (evE C a s) (fun h s => wq (peek h s) (fun x s => bmTy .remove x = true ∧ wq (evL C l s) (fun ds s => wqo (bmch .remove ds) fun f => wq (change h f s) Q E) E) E) E := wp_remove
theorem qwp_insert : wq (evE C (.bm .insert a l) s) Q E = wq (evE C a s) (fun h s => wq (peek h s) (fun x s => bmTy .insert x = true ∧ wq (evL C l s) (fun ds s => wqo (bmch .insert ds) fun f => wq (change h f s) Q E) E) E) E := wp_insert
theorem qwp_clear : wq (evE C (.bm .clear a l) s) Q E = wq (evE C a s) (fun h s => wq (peek h s) (fun x s => bmTy .clear x = true ∧ wq (evL C l s) (fun ds s => wqo (bmch .clear ds) fun f => wq (change h f s) Q E) E) E) E := wp_clear
theorem qwp_reverse : wq (evE C (.bm .reverse a l) s) Q E = wq (evE C a s) (fun h s => wq (peek h s) (fun x s => bmTy .reverse x = true ∧ wq (evL C l s) (fun ds s => wqo (bmch .reverse ds) fun f => wq (change h f s) Q E) E) E) E := wp_reverse
theorem qwp_extend : wq (evE C (.bm .extend a l) s) Q E = wq (evE C a s) (fun h s => wq (peek h s) (fun x s => bmTy .extend x = true ∧ wq (evH C l s) (fun hs s => wq (peekL hs s) (fun ds s => wqo (bmch .extend ds) fun f => wq (change h f s) Q E) E) E) E) E := wp_extend
theorem qwp_get2 : wq (evE C (.bm .get2 a l) s) Q E = wq (evE C a s) (fun h s => wq (peek h s) (fun x s => bmTy .get2 x = true ∧ wq (evL C l s) (fun ds s => wq (peek h s) (fun x s => wqo (bmop .get2 x ds) fun r => Q r s) E) E) E) E := wp_get2
theorem qwp_join : wq (evE C (.bm .join a l) s) Q E = wq (evE C a s) (fun h s => wq (peek h s) (fun x s => bmTy .join x = true ∧ wq (evH C l s) (fun hs s => wq (peekL hs s) (fun ds s => wq (peek h s) (fun x s => wqo (bmop .join x ds) fun r => Q r s) E) E) E) E) E := wp_join
theorem qwp_split : wq (evE C (.bm .split a l) s) Q E = wq (evE C a s) (fun h s => wq (peek h s) (fun x s => bmTy .split x = true ∧ wq (evH C l s) (fun hs s => wq (peekL hs s) (fun ds s => wq (peek h s) (fun x s => wqo (bmop .split x ds) fun r => Q r s) E) E) E) E) E := wp_split
theorem qwp_get1 : wq (evE C (.bm .get1 a l) s) Q E = wq (evE C a s) (fun h s => wq (peek h s) (fun x s => bmTy .get1 x = true ∧ wq (evH C l s) (fun hs s => wq (peekL hs s) (fun ds s => wq (peek h s) (fun x s => wqo (bmop .get1 x ds) fun r => Q r s) E) E) E) E) E := wp_get1
theorem qwp_index : wq (evE C (.bm .index a l) s) Q E = wq (evE C a s) (fun h s => wq (peek h s) (fun x s => bmTy .index x = true ∧ wq (evH C l s) (fun hs s => wq (peekL hs s) (fun ds s => wq (peek h s) (fun x s => wqo (bmop .index x ds) fun r => Q r s) E) E) E) E) E := wp_index
theorem qwp_count : wq (evE C (.bm .count a l) s) Q E = wq (evE C a s) (fun h s => wq (peek h s) (fun x s => bmTy .count x = true ∧ wq (evH C l s) (fun hs s => wq (peekL hs s) (fun ds s => wq (peek h s) (fun x s => wqo (bmop .count x ds) fun r => Q r s) E) E) E) E) E := wp_count
theorem qwp_find2 : wq (evE C (.bm .find2 a l) s) Q E = wq (evE C a s) (fun h s => wq (peek h s) (fun x s => bmTy .find2 x = true ∧ wq (evH C l s) (fun hs s => wq (peekL hs s) (fun ds s => wq (peek h s) (fun x s => wqo (bmop .find2 x ds) fun r => Q r s) E) E) E) E) E := wp_find2
theorem qwp_replace2 : wq (evE C (.bm .replace2 a l) s) Q E = wq (evE C a s) (fun h s => wq (peek h s) (fun x s => bmTy .replace2 x = true ∧ wq (evH C l s) (fun hs s => wq (peekL hs s) (fun ds s => wq (peek h s) (fun x s => wqo (bmop .replace2 x ds) fun r => Q r s) E) E) E) E) E := wp_replace2
theorem qwp_strip : wq (evE C (.bm .strip a l) s) Q E = wq (evE C a s) (fun h s => wq (peek h s) (fun x s => bmTy .strip x = true ∧ wq (evH C l s) (fun hs s => wq (peekL hs s) (fun ds s => wq (peek h s) (fun x s => wqo (bmop .strip x ds) fun r => Q r s) E) E) E) E) E := wp_strip
theorem qwp_upper : wq (evE C (.bm .upper a l) s) Q E = wq (evE C a s) (fun h s => wq (peek h s) (fun x s => bmTy .upper x = true ∧ wq (evH C l s) (fun hs s => wq (peekL hs s) (fun ds s => wq (peek h s) (fun x s => wqo (bmop .upper x ds) fun r => Q r s) E) E) E) E) E := wp_upper
end
section
variable {Q : Fl → W → Prop} {E : Ex → W → Prop} {s : W} {C : Cfg} {e o i t : TE} {b b' : TB}
theorem qwp_B_nil : wq (exB C .nil s) Q E = Q .next s := wp_B_nil
theorem qthenB_next : thenQ C b Q E .next s = wq (exB C b s) Q E := thenB_next
theorem qthenB_ret {h : Hd} : thenQ C b Q E (.ret h) s = Q (.ret h) s := thenB_ret
theorem qthenB_brk : thenQ C b Q E .brk s = Q .brk s := thenB_brk
theorem qthenB_cont : thenQ C b Q E .cont s = Q .cont s := thenB_cont
theorem qwp_B_cons {st : TS} : wq (exB C (.cons st b) s) Q E = wq (exS C st s) (fun f s => thenQ C b Q E f s) E := wp_B_cons
theorem qwp_asg {tg : TG} : wq (exS C (.asg tg e) s) Q E = wq (evE C e s) (fun h s => wq (esc h s) (fun h s => wq (assignG tg h s) (fun _ s => Q .next s) E) E) E := wp_asg
theorem qwp_subS : wq (exS C (.sub o i e) s) Q E = wq (evE C e s) (fun v s => wq (esc v s) (fun v s => wq (evE C o s) (fun h s => wq (evE C i s) (fun k s => wq (esc k s) (fun k s => wq (change h (storeAt k.1 v.1) s) (fun _ s => Q .next s) E) E) E) E) E) E := wp_subS
theorem qwp_attr {f : Str} : wq (exS C (.attr o f e) s) Q E = wq (evE C e s) (fun v s => wq (hand (fldMode C f) v s) (fun v s => wq (evE C o s) (fun h s => wq (change h (storeFld C.flds f v.1) s) (fun _ s => Q .next s) E) E) E) E := wp_attr
theorem qwp_augattr {f : Str} {op : BOp} : wq (exS C (.augattr o f op e) s) Q E = wq (evE C o s) (fun h s => wq (peek h s) (fun x s => wqo (fldopI C.flds x f) fun d => wq (evE C e s) (fun k s => wq (peek k s) (fun y s => wqo (augI op d y) fun r => wq (change h (fun c => if sameC x c then storeFld C.flds f r c else none) s) (fun _ s => Q .next s) E) E) E) E) E := wp_augattr
theorem qwp_expr : wq (exS C (.expr e) s) Q E = wq (evE C e s) (fun _ s => Q .next s) E := wp_expr
theorem qwp_ret : wq (exS C (.ret e) s) Q E = wq (evE C e s) (fun h s => wq (give h s) (fun h s => Q (.ret h) s) E) E := wp_ret
theorem qwp_raise {cs : List Str} : wq (exS C (.raise cs) s) Q E = E ⟨cs, [], []⟩ s := wp_raise
theorem qwp_raise1 {cs : List Str} {f : Str} {k : Bool} : wq (exS C (.raise1 cs f k e) s) Q E = wq (evE C e s) (fun h s => wq (esc h s) (fun h s => xarg k h.1 = true ∧ E ⟨cs, [f], [h.1]⟩ s) E) E := wp_raise1
theorem qwp_try {tb : TB} {x : Str} {i j : Nat} : wq (exS C (.try_ tb x i j) s) Q E = wq (exB C tb s) Q (fun e s' => if e.c.contains x = true then (decide (i ≠ j) && isNone1 s'.ρ[i]?) = true ∧ wq (setSlot j false (.exn e.c e.fs e.vs, false) s') (fun _ s'' => Q .next s'') (fun _ _ => False) else E e s') := wp_try
theorem qwp_retn : wq (exS C .retn s) Q E = Q (.ret (.non, false)) s := wp_retn
theorem qwp_if : wq (exS C (.ite t b b') s) Q E = wq (evT C t s) (fun r s => if r = true then wq (exB C b s) Q E else wq (exB C b' s) Q E) E := wp_if
theorem qwp_brk : wq (exS C .brk s) Q E = Q .brk s := wp_brk
theorem qwp_cont : wq (exS C .cont s) Q E = Q .cont s := wp_cont
theorem qwp_pass : wq (exS C .pass s) Q E = Q .next s := wp_pass
theorem qwp_for {tg : TG} {src : TI} : wq (exS C (.for_ tg src b) s) Q E = wq (evI C src s) (fun it s' => wq (forLoop tg (exB C b) it.1 s') (fun f s'' => Q f (unlockW (fresh s it.2) s'')) E) E := wp_for
theorem qwp_while : wq (exS C (.while_ t b) s) Q E = wq (whileLoop (evT C t) (exB C b) C.W s) Q E := wp_while
theorem qwp_forL_nil {tg : TG} {m : M Fl} : wq (forLoop tg m [] s) Q E = Q .next s := wp_forL_nil
theorem qwp_forL_cons {tg : TG} {m : M Fl} {d : D} {ds : List D} : wq (forLoop tg m (d :: ds) s) Q E = wq (assignG tg (d, false) s) (fun _ s => wq (m s) (fun f s => thenFQ tg m ds Q E f s) E) E := wp_forL_cons
theorem qthenF_next {tg : TG} {m : M Fl} {ds : List D} : thenFQ tg m ds Q E .next s = wq (forLoop tg m ds s) Q E := thenF_next
theorem qthenF_cont {tg : TG} {m : M Fl} {ds : List D} : thenFQ tg m ds Q E .cont s = wq (forLoop tg m ds s) Q E := thenF_cont
theorem qthenF_brk {tg : TG} {m : M Fl} {ds : List D} : thenFQ tg m ds Q E .brk s = Q .next s := thenF_brk
theorem qthenF_ret {tg : TG} {m : M Fl} {ds : List D} {h : Hd} : thenFQ tg m ds Q E (.ret h) s = Q (.ret h) s := thenF_ret
theorem qstepF_next {I : W → Prop} : stepQ I Q .next s = I s := stepF_next
theorem qstepF_cont {I : W → Prop} : stepQ I Q .cont s = I s := stepF_cont
theorem qstepF_brk {I : W → Prop} : stepQ I Q .brk s = Q .next s := stepF_brk
theorem qstepF_ret {I : W → Prop} {h : Hd} : stepQ I Q (.ret h) s = Q (.ret h) s := stepF_ret
theorem qfor_rule {tg : TG} {m : M Fl} {ds : List D} {s : W} (I : Nat → W → Prop) (h0 : I 0 s) (hs : ∀ (i : Nat) (d : D) (s : W), ds[i]? = some d → I i s → wq (assignG tg (d, false) s) (fun _ s => wq (m s) (fun f s => stepQ (I (i + 1)) Q f s) E) E)
    (hd : ∀ s, I ds.length s → Q .next s) : wq (forLoop tg m ds s) Q E := for_rule I h0 hs hd
end
section
variable {E : Ex → W → Prop} {s : W} {C : Cfg} {a b : TE} {l : TL} {ρ : List Slot} {S : List D} {d : D} {fr : Bool} {i : Nat}
theorem qlkS_own {Qo Q : D → Prop} : lkQ (some (d, .own)) i Qo Q = Qo d := lkS_own
theorem qlkS_lock {Qo Q : D → Prop} : lkQ (some (d, .lock)) i Qo Q = Q d := lkS_lock
theorem qlkS_bor {Qo Q : D → Prop} : lkQ (some (d, .bor)) i Qo Q = Q d := lkS_bor
theorem qwp_lock_loc {Q : D × List Nat → W → Prop} : wq (lockH (.loc i, fr) ⟨ρ, S⟩) Q E = lkQ (slotA ρ i) i (fun d => Q (d, [i]) ⟨ρ.set i (some (d, .lock)), S⟩) (fun d => Q (d, []) ⟨ρ, S⟩) := wp_lock_loc
theorem qwp_lock_v {Q : D × List Nat → W → Prop} (h : d.vl = true) : wq (lockH (d, fr) s) Q E = Q (d, []) s := wp_lock_v h
variable {Q : List D × List Nat → W → Prop}
theorem qwp_I_val : wq (evI C (.val a) s) Q E = wq (evE C a s) (fun h s => wq (lockH h s) (fun r s => wqo (walk? r.1) fun l => Q (l, r.2) s) E) E := wp_I_val
theorem qwp_I_range : wq (evI C (.range l) s) Q E = wq (evL C l s) (fun ds s => wqo (rangeop ds) fun l => Q (l, []) s) E := wp_I_range
theorem qwp_I_enum : wq (evI C (.enum a) s) Q E = wq (evE C a s) (fun h s => wq (lockH h s) (fun r s => wqo (onlyL r.1) fun l => Q (enumD 0 l, r.2) s) E) E := wp_I_enum
theorem qwp_I_zip : wq (evI C (.zip a b) s) Q E = wq (evE C a s) (fun h s => wq (evE C b s) (fun k s => wq (lockH h s) (fun r s => wq (lockH k s) (fun q s => wqo (zip? r.1 q.1) fun l => Q (zipD l.1 l.2, r.2 ++ q.2) s) E) E) E) E := wp_I_zip
theorem qwp_I_rev : wq (evI C (.rev a) s) Q E = wq (evE C a s) (fun h s => wq (lockH h s) (fun r s => wqo (onlyL r.1) fun l => Q (l.reverse, r.2) s) E) E := wp_I_rev
theorem qwp_G_slot {p : Bool} {h : Hd} {Q : Unit → W → Prop} : wq (assignG (.slot i p) h s) Q E = wq (setSlot i p h s) Q E := wp_G_slot
theorem qwp_G_tup {l : List TG} {h : Hd} {Q : Unit → W → Prop} : wq (assignG (.tup l) h s) Q E = wq (peek h s) (fun d s => wqo (tupD d) fun ds => decide (ds.length = l.length) = true ∧ wq (assignL l ds s) Q E) E := wp_G_tup
theorem qwp_GL_nil {Q : Unit → W → Prop} : wq (assignL [] [] s) Q E = Q () s := wp_GL_nil
theorem qwp_GL_cons {p : Bool} {l : List TG} {ds : List D} {Q : Unit → W → Prop} : wq (assignL (.slot i p :: l) (d :: ds) s) Q E = wq (setSlot i p (d, false) s) (fun _ s => wq (assignL l ds s) Q E) E := wp_GL_cons
end
section
variable {Q : Hd → W → Prop} {E : Ex → W → Prop} {s : W} {C : Cfg} {elt : TE} {tg : TG} {src : TI} {ifs : TL} {own : List Nat}
theorem qwp_noexc {α : Type} {m : M α} {Q : α → W → Prop} : wq (noexc m s) Q E = wq (m s) Q fun _ _ => False := wp_noexc
theorem qwp_comp : wq (evE C (.comp elt tg src ifs own) s) Q E = wq (evI C src s) (fun it s' => ownFree s'.ρ own = true ∧
    wq (compLoop tg own (noexc (evTs C ifs)) (noexc (evE C elt)) it.1 [] s') (fun acc s'' => Q (.lst acc, true) (unlockW (fresh s it.2) ⟨unwipe s'.ρ s''.ρ own, s''.S⟩)) fun _ _ => False) E := wp_comp
theorem qwp_Ts_nil {Q : Bool → W → Prop} : wq (evTs C .nil s) Q E = Q true s := wp_Ts_nil
theorem qwp_Ts_cons {a : TE} {l : TL} {Q : Bool → W → Prop} : wq (evTs C (.cons a l) s) Q E = wq (evT C a s) (fun r s => if r = true then wq (evTs C l s) Q E else Q false s) E := wp_Ts_cons
theorem qwp_cL_nil {tests : M Bool} {elt : M Hd} {acc : List D} {Q : List D → W → Prop} : wq (compLoop tg own tests elt [] acc s) Q E = Q acc s := wp_cL_nil
theorem qwp_cL_cons {tests : M Bool} {elt : M Hd} {acc : List D} {d : D} {ds : List D} {Q : List D → W → Prop} : wq (compLoop tg own tests elt (d :: ds) acc s) Q E =
    wq (assignG tg (d, false) ⟨wipeS s.ρ own, s.S⟩) (fun _ s => wq (tests s) (fun b s => if b = true then wq (elt s) (fun h s => wq (esc h s) (fun h s => acc.length < line ∧ wq (compLoop tg own tests elt ds (acc ++ [h.1]) s) Q E) E) E else wq (compLoop tg own tests elt ds acc s) Q E) E) E := wp_cL_cons
theorem qcomp_rule {ρ : List Slot} {S : List D} {tests : M Bool} {elt : M Hd} {ds : List D} {Q : List D → W → Prop} (J : Nat → List D → List D → Prop) (h0 : J 0 [] S)
    (hs : ∀ (i : Nat) (d : D) (acc S : List D), ds[i]? = some d → J i acc S → wq (assignG tg (d, false) ⟨wipeS ρ own, S⟩) (fun _ s => wq (tests s) (fun b s => if b = true then wq (elt s) (fun h s => wq (esc h s) (fun h s => acc.length < line ∧ wipeS s.ρ own = wipeS ρ own ∧ J (i + 1) (acc ++ [h.1]) s.S) E) E
      else wipeS s.ρ own = wipeS ρ own ∧ J (i + 1) acc s.S) E) E) (hd : ∀ acc s, unwipe ρ s.ρ own = ρ → J ds.length acc s.S → Q acc s) : wq (compLoop tg own tests elt ds [] ⟨ρ, S⟩) Q E := comp_rule J h0 hs hd
end
section
variable {P : Prog} {k : Nat} {f : Str} {d : Def} {as : List Ar} {S : List D} {Q : Hd → List D → Prop} {E : Ex → List D → Prop}
theorem qoutQ_ret {L : Nat} {h : Hd} {s : W} (e : s.S.length = L) : outT L Q (.ret h) s = Q h s.S := outQ_ret e
theorem qoutQ_next {L : Nat} {s : W} (e : s.S.length = L) : outT L Q .next s = Q (.non, false) s.S := outQ_next e
theorem qwp_def (hd : P.defs f = some d) (hl : as.length = d.ps) : wq (callN P (k + 1) f as S) Q E = wq (exB (cfg P k) d.body ⟨startS d.n as, S⟩) (fun f s => outT S.length Q f s) (fun x s => E x s.S) := wp_def hd hl
theorem qwp_defD (hd : P.defs f = some d) (hl : as.length ≤ d.ps) (hm : d.ps - as.length ≤ d.dfl.length) : wq (callN P (k + 1) f as S) Q E = wq (exB (cfg P k) d.body ⟨startS d.n (as ++ (d.dfl.drop (d.dfl.length - (d.ps - as.length))).map fun x => (x, .sh)), S⟩) (fun f s => outT S.length Q f s) (fun x s => E x s.S) := wp_defD hd hl hm
end
theorem qwhile_rule {Q : Fl → W → Prop} {E : Ex → W → Prop} {test : M Bool} {m : M Fl} (I : Nat → W → Prop) (n : Nat) (s : W) (h0 : ∃ j, j < n ∧ I j s)
    (hs : ∀ j s, I j s → wq (test s) (fun r s => if r = true then wq (m s) (fun f s => stepQ (fun s => ∃ j', j' < j ∧ I j' s) Q f s) E else Q .next s) E) : wq (whileLoop test m n s) Q E := while_rule I n s h0 hs
theorem wq_get {σ β : Type} {Q : β → σ → Prop} {r : Res σ β} (h : wq r Q fun _ _ => False) : ∃ a s, r = .ok a s ∧ Q a s := wp_get h
theorem wq_of {σ β : Type} {Q : β → σ → Prop} {E : Ex → σ → Prop} {r : Res σ β} {a : β} {s : σ} (e : r = .ok a s) : wq r Q E = Q a s := by subst e; rfl
end EV

set_option autoImplicit false
set_option linter.all false
set_option maxRecDepth 10000
namespace EV
open PySem

/-! ### operations on values, one by one -/
theorem ofString_inj {a b : String} : (Str.ofString a = Str.ofString b) = (a = b) := by
  refine propext ⟨fun h => ?_, fun h => by rw [h]⟩
  have h : (Str.ofString a).cps.toList = (Str.ofString b).cps.toList := by rw [h]
  rw [Str.ofString_eq_toList, Str.ofString_eq_toList] at h
  simp only [List.toList_toArray] at h
  have inj : ∀ (l m : List Char), l.map Char.toNat = m.map Char.toNat → l = m := fun l => by
    induction l with
    | nil => intro m h; cases m with | nil => rfl | cons _ _ => cases h
    | cons x l ih =>
      intro m h
      cases m with
      | nil => cases h
      | cons y m =>
        simp only [List.map_cons, List.cons.injEq] at h
        rw [Char.toNat_inj.mp h.1, ih m h.2]
  exact String.toList_inj.mp (inj _ _ h)
section
variable {i j : Int} {x y : Str} {a b : Bool} {l m ks vs : List D} {d e : D}
theorem eqv_str : D.eqv (.str x) (.str y) = decide (x = y) := rfl
theorem eqv_int : D.eqv (.int i) (.int j) = decide (i = j) := by simp only [D.eqv]; by_cases h : i = j <;> simp [h]
theorem eqv_bl : D.eqv (.bl a) (.bl b) = decide (a = b) := by cases a <;> cases b <;> rfl
theorem eqv_tup : D.eqv (.tup l) (.tup m) = D.eqvL l m := rfl
theorem eqv_lst : D.eqv (.lst l) (.lst m) = D.eqvL l m := rfl
theorem eqv_non : D.eqv .non .non = true := rfl
theorem eqv_non_str : D.eqv .non (.str x) = false := rfl
theorem eqv_str_non : D.eqv (.str x) .non = false := rfl
theorem eqv_non_tup : D.eqv .non (.tup l) = false := rfl
theorem eqv_tup_non : D.eqv (.tup l) .non = false := rfl
theorem eqv_str_tup : D.eqv (.str x) (.tup l) = false := rfl
theorem eqv_tup_str : D.eqv (.tup l) (.str x) = false := rfl
theorem eqvL_nil : D.eqvL [] [] = true := rfl
theorem eqvL_cons : D.eqvL (d :: l) (e :: m) = (D.eqv d e && D.eqvL l m) := rfl
theorem eqvL_nc : D.eqvL [] (e :: m) = false := rfl
theorem eqvL_cn : D.eqvL (d :: l) [] = false := rfl
theorem fk_str : D.fk (.str x) = true := id rfl
theorem fk_int : D.fk (.int i) = true := id rfl
theorem bin_add_int : binop .add (.int i) (.int j) = some (.int (i + j), false) := rfl
theorem bin_sub_int : binop .sub (.int i) (.int j) = some (.int (i - j), false) := rfl
theorem bin_mul_int : binop .mul (.int i) (.int j) = if (small i || small j) = true then some (.int (i * j), false) else none := rfl
theorem bin_mul_r (h : small j = true) : binop .mul (.int i) (.int j) = some (.int (i * j), false) := by rw [bin_mul_int, h, Bool.or_true, if_pos rfl]
theorem bin_mul_l (h : small i = true) : binop .mul (.int i) (.int j) = some (.int (i * j), false) := by rw [bin_mul_int, h, Bool.true_or, if_pos rfl]
theorem bin_mod_int : binop .mod (.int i) (.int j) = if 0 < j then some (.int (i % j), false) else none := rfl
theorem bin_fdiv_int : binop .fdiv (.int i) (.int j) = if 0 < j ∧ j < 1073741824 then some (.int (i / j), false) else none := by
  show (if (decide (0 < j) && decide (j < 1073741824)) = true then some (D.int (i / j), false) else none) = _
  simp only [Bool.and_eq_true, decide_eq_true_eq]
theorem bin_pow_int : binop .pow (.int i) (.int j) = if (decide (0 ≤ j) && decide (j ≤ 1000) && small i) = true then some (.int (i ^ j.toNat), false) else none := rfl
theorem bin_add_str : binop .add (.str x) (.str y) = if x.length + y.length ≤ line then some (.str (x ++ y), false) else none := rfl
theorem bin_add_lst : binop .add (.lst l) (.lst m) = if l.length + m.length ≤ line then some (.lst (l ++ m), true) else none := rfl
theorem bin_add_tup : binop .add (.tup l) (.tup m) = if l.length + m.length ≤ line then some (.tup (l ++ m), false) else none := rfl
theorem bin_mul_lst : binop .mul (.lst l) (.int j) = if (l.length * j.toNat ≤ line && decide (-(2 ^ 62) ≤ j) && decide (j < 2 ^ 62)) = true then some (.lst (rep l j.toNat), true) else none := rfl
theorem bin_mul_tup : binop .mul (.tup l) (.int j) = if (!l.isEmpty && decide (l.length ≤ 1000) && decide (0 ≤ j) && decide (j ≤ 1000)) = true then some (.tup (rep l j.toNat), false) else none := rfl
theorem isNon_non : D.isNon .non = true := rfl
theorem isNon_str : D.isNon (.str x) = false := rfl
theorem isNon_tup : D.isNon (.tup l) = false := rfl
theorem isNon_lst : D.isNon (.lst l) = false := rfl
theorem isNon_int : D.isNon (.int i) = false := rfl
theorem isNon_bl : D.isNon (.bl a) = false := rfl
theorem cmp_eq : cmpop .eq d e = if eqOk d e = true then some (D.eqv d e) else none := rfl
theorem cmp_ne : cmpop .ne d e = if eqOk d e = true then some (!D.eqv d e) else none := rfl
theorem cmp_lt_int : cmpop .lt (.int i) (.int j) = some (decide (i < j)) := rfl
theorem cmp_gt_int : cmpop .gt (.int i) (.int j) = some (decide (j < i)) := rfl
theorem cmp_le_int : cmpop .le (.int i) (.int j) = some (decide (i ≤ j)) := rfl
theorem cmp_ge_int : cmpop .ge (.int i) (.int j) = some (decide (j ≤ i)) := rfl
theorem cmp_lt_str : cmpop .lt (.str x) (.str y) = some (strLt x y) := rfl
theorem cmp_in : cmpop .isin d e = inOp d e := rfl
theorem cmp_notin : cmpop .notin d e = (inOp d e).map (!·) := rfl
theorem cmp_is_non : cmpop .is d .non = some d.isNon := by cases d <;> rfl
theorem cmp_isnot_non : cmpop .isnot d .non = some (!d.isNon) := by cases d <;> rfl
theorem cmp_is_bl : cmpop .is (.bl a) (.bl b) = some (decide (a = b)) := by cases a <;> cases b <;> rfl
theorem cmp_isnot_bl : cmpop .isnot (.bl a) (.bl b) = some (!decide (a = b)) := by cases a <;> cases b <;> rfl
theorem eqOk_int : eqOk (.int i) (.int j) = true := id rfl
theorem eqOk_str : eqOk (.str x) (.str y) = true := id rfl
theorem eqOk_bl : eqOk (.bl a) (.bl b) = true := id rfl
theorem eqOk_non : eqOk .non .non = true := id rfl
theorem eqOk_non_str : eqOk .non (.str x) = true := id rfl
theorem eqOk_str_non : eqOk (.str x) .non = true := id rfl
theorem eqOk_ok (h : d.ok = true) (k : e.ok = true) : eqOk d e = true := by unfold eqOk; rw [h, k]; simp
theorem truth_non : truth .non = some false := rfl
theorem truth_bl : truth (.bl a) = some a := rfl
theorem truth_int : truth (.int i) = some (i != 0) := rfl
theorem truth_str : truth (.str x) = if x.length ≤ line then some (x.length != 0) else none := rfl
theorem truth_tup : truth (.tup l) = some (!l.isEmpty) := rfl
theorem truth_lst : truth (.lst l) = some (!l.isEmpty) := rfl
theorem truth_dic : truth (.dic ks vs) = some (!ks.isEmpty) := rfl
theorem idx_lst : idxop (.lst l) (.int i) = L2.atI l i := rfl
theorem idx_tup : idxop (.tup l) (.int i) = L2.atI l i := rfl
theorem idx_str : idxop (.str x) (.int i) = if x.length ≤ line then (L2.atI x.cps.toList i).map fun c => .str ⟨#[c]⟩ else none := rfl
theorem idx_dic_str : idxop (.dic ks vs) (.str x) = look ks vs (.str x) := rfl
theorem idx_kon_str : idxop (.kon ks vs) (.str x) = look ks vs (.str x) := rfl
theorem look_cons {k v : D} : look (k :: ks) (v :: vs) d = if D.eqv k d = true then some v else look ks vs d := rfl
theorem look_nil {vs : List D} : look [] vs d = none := rfl
theorem sli_lst {lo hi : Option Int} : sliop (.lst l) lo hi = some (.lst (cut l lo hi), true) := rfl
theorem sli_tup {lo hi : Option Int} : sliop (.tup l) lo hi = some (.tup (cut l lo hi), false) := rfl
theorem sli_str {lo hi : Option Int} : sliop (.str x) lo hi = if x.length ≤ line then some (.str ⟨(cut x.cps.toList lo hi).toArray⟩, false) else none := rfl
theorem len_lst : bltop .len [.lst l] = some (.int l.length, false) := rfl
theorem len_tup : bltop .len [.tup l] = some (.int l.length, false) := rfl
theorem len_dic : bltop .len [.dic ks vs] = some (.int ks.length, false) := rfl
theorem len_str : bltop .len [.str x] = if x.length ≤ line then some (.int x.length, false) else none := rfl
theorem list_lst : bltop .list [.lst l] = some (.lst l, true) := rfl
theorem list_tup : bltop .list [.tup l] = some (.lst l, true) := rfl
theorem tuple_lst : bltop .tuple [.lst l] = some (.tup l, false) := rfl
theorem tuple_tup : bltop .tuple [.tup l] = some (.tup l, false) := rfl
theorem int_int : bltop .int [.int i] = some (.int i, false) := rfl
theorem int_bl : bltop .int [.bl a] = some (.int (b2i a), false) := rfl
theorem sum_lst : bltop .sum [.lst l] = (intsD l).map fun l => (.int l.sum, false) := rfl
theorem all_lst : bltop .all [.lst l] = (boolsD l).map fun l => (.bl (l.all id), false) := rfl
theorem any_lst : bltop .any [.lst l] = (boolsD l).map fun l => (.bl (l.any id), false) := rfl
theorem max2_int : bltop .max2 [.int i, .int j] = some (.int (if j > i then j else i), false) := rfl
theorem min2_int : bltop .min2 [.int i, .int j] = some (.int (if j < i then j else i), false) := rfl
theorem listrev_lst : bltop .listrev [.lst l] = some (.lst l.reverse, true) := rfl
theorem sorted_lst : bltop .sorted [.lst l] = if sortOk l = true then some (.lst (sortD l), true) else none := rfl
theorem sorted_tup : bltop .sorted [.tup l] = if sortOk l = true then some (.lst (sortD l), true) else none := rfl
theorem sortedset_lst : bltop .sortedset [.lst l] = if sortOk l = true then some (.lst (sortD (dedup l)), true) else none := rfl
theorem sortedset_tup : bltop .sortedset [.tup l] = if sortOk l = true then some (.lst (sortD (dedup l)), true) else none := rfl
theorem bmTy_append : bmTy .append (.lst l) = true := rfl
theorem bmTy_pop0 : bmTy .pop0 (.lst l) = true := rfl
theorem bmTy_pop1 : bmTy .pop1 (.lst l) = true := rfl
theorem bmTy_extend : bmTy .extend (.lst l) = true := rfl
theorem bmTy_index : bmTy .index (.lst l) = true := rfl
theorem bmTy_join : bmTy .join (.str x) = true := rfl
theorem bmTy_get1 : bmTy .get1 (.dic ks vs) = true := rfl
theorem bmTy_get2 : bmTy .get2 (.dic ks vs) = true := rfl
/-- what changes a list -/
def apD (d c : D) : Option (D × D) := match c with
    | .lst l => if l.length < line then some (.non, .lst (l ++ [d])) else none
    | _ => none
def popD (c : D) : Option (D × D) := match c with
    | .lst l => l.getLast?.map fun y => (y, .lst l.dropLast)
    | _ => none
def exD (m : List D) (c : D) : Option (D × D) := match c with
    | .lst l => if l.length + m.length ≤ line then some (.non, .lst (l ++ m)) else none
    | _ => none
theorem ch_append : bmch .append [d] = some (apD d) := rfl
theorem ch_pop0 : bmch .pop0 [] = some popD := rfl
theorem ch_extend : bmch .extend [.lst m] = some (exD m) := rfl
theorem apD_lst : apD d (.lst l) = if l.length < line then some (.non, .lst (l ++ [d])) else none := rfl
theorem popD_lst : popD (.lst l) = l.getLast?.map fun y => (y, .lst l.dropLast) := rfl
theorem exD_lst : exD m (.lst l) = if l.length + m.length ≤ line then some (.non, .lst (l ++ m)) else none := rfl
theorem storeAt_lst : storeAt (.int i) d (.lst l) = (setAt l i d).map fun l' => (.non, .lst l') := rfl
theorem storeAt_dic : storeAt (.str x) d (.dic ks vs) = if ks.length < line then some (.non, .dic (putKey ks vs (.str x) d).1 (putKey ks vs (.str x) d).2) else none := by
  show (if (true && decide (ks.length < line)) = true then _ else _) = _
  simp only [Bool.true_and, decide_eq_true_eq]
theorem walk_lst : walk? (.lst l) = some l := rfl
theorem walk_tup : walk? (.tup l) = some l := rfl
theorem onlyL_lst : onlyL (.lst l) = some l := rfl
theorem zip_lst : zip? (.lst l) (.lst m) = some (l, m) := rfl
theorem zip_tup : zip? (.tup l) (.tup m) = some (l, m) := rfl
theorem tupD_tup : tupD (.tup l) = some l := rfl
theorem tupD_lst : tupD (.lst l) = some l := rfl
theorem map_some' {α β : Type} {f : α → β} {x : α} : Option.map f (some x) = some (f x) := rfl
theorem map_none' {α β : Type} {f : α → β} : Option.map f (none : Option α) = none := rfl
end
theorem atI_nat {α : Type} {l : List α} {n : Nat} : L2.atI l (n : Int) = l[n]? := by
  unfold L2.atI L2.ixN
  by_cases h : n < l.length
  · simp [h]
  · simp [h]
theorem small_of {i : Int} (h : -(2 ^ 64) < i) (k : i < 2 ^ 64) : small i = true := by unfold small; rw [decide_eq_true h, decide_eq_true k]; rfl
section
variable {ks vs l : List D} {k v x d : D} {i : Int} {y : Str} {b : Bool}
theorem outT_ret {L : Nat} {Q : Hd → List D → Prop} {h : Hd} {s : W} (e : s.S.length = L) (k : Q h s.S) : outT L Q (.ret h) s := by rw [qoutQ_ret e]; exact k
theorem outT_next {L : Nat} {Q : Hd → List D → Prop} {s : W} (e : s.S.length = L) (k : Q (.non, false) s.S) : outT L Q .next s := by rw [qoutQ_next e]; exact k
theorem outT_ref {L : Nat} {Q : Hd → List D → Prop} {h : Hd} {s : W} (e : hasRef L h.1 = true) (k : Q h s.S) : outT L Q (.ret h) s := by
  show Q (gc L h s.S).1 (gc L h s.S).2
  unfold gc
  rw [e, Bool.true_or, if_pos rfl]
  exact k
theorem getA_len {S : List D} {x : D} : (S ++ [x])[S.length]? = some x := by simp
theorem setA_len {S : List D} {x y : D} : (S ++ [x]).set S.length y = S ++ [y] := by simp
theorem stF {ok : Str → Str → Bool} {f c : Str} {fs : List Str} {vs : List D} {v : D} (h : ok c f = true) (hl : fs.length < 1000) : storeFld ok f v (.ins c fs vs) = some (.non, .ins c (putFld fs vs f v).1 (putFld fs vs f v).2) := by
  show (if (ok c f && decide (fs.length < 1000)) = true then _ else _) = _
  rw [h, decide_eq_true hl]
  rfl
theorem putFld_cons {g f : Str} {gs : List Str} {v d : D} {vs : List D} : putFld (g :: gs) (v :: vs) f d = if g = f then (g :: gs, d :: vs) else (g :: (putFld gs vs f d).1, v :: (putFld gs vs f d).2) := rfl
theorem putFld_nil {f : Str} {d : D} {vs : List D} : putFld [] vs f d = ([f], [d]) := rfl
theorem eq_of_wq {σ β : Type} {r : Res σ β} {a : β} {s : σ} (h : wq r (fun x t => x = a ∧ t = s) fun _ _ => False) : r = .ok a s := by
  obtain ⟨x, t, e, rfl, rfl⟩ := wq_get h
  exact e
theorem exc_of_wq {σ β : Type} {r : Res σ β} {x : Ex} {s : σ} (h : wq r (fun _ _ => False) (fun y t => y = x ∧ t = s)) : r = .exc x s := by
  cases r with
  | ok a t => exact (show False from h).elim
  | exc y t =>
    obtain ⟨rfl, rfl⟩ := (show y = x ∧ t = s from h)
    rfl
  | stuck => exact (show False from h).elim
theorem wq_ofx {σ β : Type} {Q : β → σ → Prop} {E : Ex → σ → Prop} {r : Res σ β} {x : Ex} {s : σ} (e : r = .exc x s) : wq r Q E = E x s := by subst e; rfl
theorem fldopI_ins {ok : Str → Str → Bool} {c f : Str} {fs : List Str} {vs : List D} : fldopI ok (.ins c fs vs) f = fldop ok (.ins c fs vs) f := rfl
theorem lineN : line = 16777216 := rfl
theorem putKey_eq : putKey ks vs x d = if hasKey ks x = true then (ks, putVals ks vs x d) else (ks ++ [x], vs ++ [d]) := rfl
theorem hasKey_cons : hasKey (k :: ks) x = (D.eqv k x || hasKey ks x) := rfl
theorem hasKey_nil : hasKey [] x = false := rfl
theorem putVals_cons : putVals (k :: ks) (v :: vs) x d = (if D.eqv k x = true then d else v) :: putVals ks vs x d := rfl
theorem putVals_nil : putVals [] vs x d = [] := rfl
theorem putAll_cons {l m : List D} : putAll ks vs (k :: l) (v :: m) = putAll (putKey ks vs k v).1 (putKey ks vs k v).2 l m := rfl
theorem putAll_nil {m : List D} : putAll ks vs [] m = (ks, vs) := rfl
theorem in_tup : inOp x (.tup l) = if ((x.flat && l.all D.flat) || (x.ok && (D.tup l).ok)) = true then some (inD x l) else none := rfl
theorem in_lst : inOp x (.lst l) = if ((x.flat && l.all D.flat) || (x.ok && (D.lst l).ok)) = true then some (inD x l) else none := rfl
theorem in_dic : inOp x (.dic ks vs) = if x.fk = true then some (hasKey ks x) else none := rfl
theorem in_kon : inOp (.str y) (.kon ks vs) = some (hasKey ks (.str y)) := rfl
theorem inD_cons : inD x (d :: l) = (D.eqv d x || inD x l) := rfl
theorem inD_nil : inD x [] = false := rfl
theorem flat_str : D.flat (.str y) = true := id rfl
theorem flat_int : D.flat (.int i) = true := id rfl
theorem flat_bl : D.flat (.bl b) = true := id rfl
theorem flat_non : D.flat .non = true := id rfl
end
end EV

set_option autoImplicit false
set_option linter.all false
set_option maxRecDepth 10000
namespace EV
open PySem

/-! ### loops: common cases -/
theorem lockS_none : lockS none = false := rfl
theorem lockS_sh {d : D} : lockS (some (d, .sh)) = false := rfl
theorem lockS_own {d : D} : lockS (some (d, .own)) = false := rfl
theorem lockS_bor {d : D} : lockS (some (d, .bor)) = false := rfl
theorem lockS_lock {d : D} : lockS (some (d, .lock)) = true := rfl
theorem fresh_nil {s : W} : fresh s [] = [] := rfl
theorem fresh_cons {s : W} {j : Nat} {is : List Nat} : fresh s (j :: is) = if lockS (slotA s.ρ j) = true then fresh s is else j :: fresh s is := by
  have e : isLock s.ρ[j]? = lockS (slotA s.ρ j) := by
    cases h : slotA s.ρ j with
    | none => rcases slot_none h with h | h <;> rw [h] <;> rfl
    | some x => rw [slotA_some h]; obtain ⟨d, o⟩ := x; cases o <;> rfl
  unfold fresh
  rw [List.filter_cons, e]
  cases lockS (slotA s.ρ j) <;> rfl
def ownS : Slot → Slot
  | some (d, _) => some (d, .own)
  | none => none
theorem ownS_some {d : D} {o : Own} : ownS (some (d, o)) = some (d, .own) := rfl
theorem unlockW_nil {s : W} : unlockW [] s = s := rfl
theorem unlockW_cons {ρ : List Slot} {S : List D} {j : Nat} {is : List Nat} : unlockW (j :: is) ⟨ρ, S⟩ = if lockS (slotA ρ j) = true then unlockW is ⟨ρ.set j (ownS (slotA ρ j)), S⟩ else unlockW is ⟨ρ, S⟩ := by
  show (match slotA ρ j with
    | some (d, .lock) => unlockW is ⟨ρ.set j (some (d, .own)), S⟩
    | _ => unlockW is ⟨ρ, S⟩) = _
  cases slotA ρ j with
  | none => rfl
  | some x => obtain ⟨d, o⟩ := x; cases o <;> rfl
def freeS : Slot → Bool
  | none => true
  | some (_, .sh) => true
  | _ => false
theorem freeS_none : freeS none = true := rfl
theorem freeS_sh {d : D} : freeS (some (d, .sh)) = true := rfl
theorem ownFree_nil {ρ : List Slot} : ownFree ρ [] = true := rfl
theorem ownFree_cons {ρ : List Slot} {i : Nat} {l : List Nat} : ownFree ρ (i :: l) = (decide (i < ρ.length) && freeS (slotA ρ i) && ownFree ρ l) := by
  have e : (match ρ[i]? with
    | some none => true
    | some (some (_, .sh)) => true
    | _ => false) = (decide (i < ρ.length) && freeS (slotA ρ i)) := by
    rw [slotA_get]
    by_cases h : i < ρ.length
    · rw [if_pos h, decide_eq_true h]
      cases slotA ρ i with
      | none => rfl
      | some x => obtain ⟨d, o⟩ := x; cases o <;> rfl
    · rw [if_neg h, decide_eq_false h]
      rfl
  exact congrArg (· && ownFree ρ l) e
theorem wipeS_nil {ρ : List Slot} : wipeS ρ [] = ρ := rfl
theorem wipeS_cons {ρ : List Slot} {i : Nat} {l : List Nat} : wipeS ρ (i :: l) = (wipeS ρ l).set i none := rfl
theorem unwipe_nil {ρ ρ' : List Slot} : unwipe ρ ρ' [] = ρ' := rfl
theorem unwipe_cons {ρ ρ' : List Slot} {i : Nat} {l : List Nat} : unwipe ρ ρ' (i :: l) = (unwipe ρ ρ' l).set i (slotA ρ i) := by
  show (unwipe ρ ρ' l).set i (ρ[i]?.getD none) = _
  congr 1
  cases h : slotA ρ i with
  | none => rcases slot_none h with h | h <;> rw [h] <;> rfl
  | some x => rw [slotA_some h]; rfl
section
variable {tg : TG} {own : List Nat} {tests : M Bool} {elt : M Hd} {ρ : List Slot} {S : List D} {Q : List D → W → Prop} {E : Ex → W → Prop}
/-- a comprehension that leaves the cells alone: what is let by, what is made of it -/
theorem comp_fm {ds : List D} (p : D → Bool) (f : D → D) (hl : ds.length ≤ line)
    (hs : ∀ d, d ∈ ds → wq (assignG tg (d, false) ⟨wipeS ρ own, S⟩) (fun _ s => wq (tests s) (fun b s => b = p d ∧ if b = true then wq (elt s) (fun h s => wq (esc h s) (fun h s => h.1 = f d ∧ wipeS s.ρ own = wipeS ρ own ∧ s.S = S) E) E
      else wipeS s.ρ own = wipeS ρ own ∧ s.S = S) E) E) (hd : ∀ s, unwipe ρ s.ρ own = ρ → s.S = S → Q ((ds.filter p).map f) s) : wq (compLoop tg own tests elt ds [] ⟨ρ, S⟩) Q E := by
  refine qcomp_rule (fun i acc S' => acc = ((ds.take i).filter p).map f ∧ S' = S) ⟨rfl, rfl⟩ (fun i d acc S' e h => ?_) fun acc s hu h => ?_
  · obtain ⟨rfl, rfl⟩ := h
    have hi : i < ds.length := (List.getElem?_eq_some_iff.mp e).1
    have et : ds.take (i + 1) = ds.take i ++ [d] := by rw [List.take_add_one, e]; rfl
    refine wp_imp (hs d (List.mem_of_getElem? e)) (fun _ s h => wp_imp h (fun b s h => ?_) fun _ _ h => h) fun _ _ h => h
    obtain ⟨rfl, h⟩ := h
    have e2 : ((ds.take (i + 1)).filter p).map f = ((ds.take i).filter p).map f ++ (if p d = true then [f d] else []) := by
      rw [et, List.filter_append, List.map_append, List.filter_cons, List.filter_nil]
      split <;> rfl
    split
    · rename_i c
      rw [if_pos c] at h
      refine wp_imp h (fun hh s h => wp_imp h (fun hh s h => ?_) fun _ _ h => h) fun _ _ h => h
      obtain ⟨h1, h2, h3⟩ := h
      refine ⟨?_, h2, ?_, h3⟩
      · have a1 : (((ds.take i).filter p).map f).length ≤ (ds.take i).length := by rw [List.length_map]; exact List.length_filter_le _ _
        have a2 : (ds.take i).length = i := by rw [List.length_take]; omega
        omega
      · rw [e2, if_pos c, h1]
    · rename_i c
      rw [if_neg c] at h
      refine ⟨h.1, ?_, h.2⟩
      rw [e2, if_neg c, List.append_nil]
  · obtain ⟨rfl, h⟩ := h
    rw [List.take_length]
    exact hd s hu h
theorem comp_map {ds : List D} (f : D → D) (hl : ds.length ≤ line)
    (hs : ∀ d, d ∈ ds → wq (assignG tg (d, false) ⟨wipeS ρ own, S⟩) (fun _ s => wq (tests s) (fun b s => if b = true then wq (elt s) (fun h s => wq (esc h s) (fun h s => h.1 = f d ∧ wipeS s.ρ own = wipeS ρ own ∧ s.S = S) E) E else False) E) E)
    (hd : ∀ s, unwipe ρ s.ρ own = ρ → s.S = S → Q (ds.map f) s) : wq (compLoop tg own tests elt ds [] ⟨ρ, S⟩) Q E := by
  refine comp_fm (fun _ => true) f hl (fun d h => wp_imp (hs d h) (fun _ s h => wp_imp h (fun b s h => ?_) fun _ _ h => h) fun _ _ h => h) fun s h1 h2 => ?_
  · cases b with
    | true => exact ⟨rfl, h⟩
    | false => exact h.elim
  · rw [List.filter_eq_self.mpr fun _ _ => rfl]
    exact hd s h1 h2
end
/-- the cut of a list at whole numbers -/
theorem cut_nn {α : Type} {l : List α} {a b : Nat} : cut l (some (a : Int)) (some (b : Int)) = (l.drop a).take (b - a) := by
  unfold cut
  rw [HT.sIx_nat, HT.sIx_nat]
  by_cases h : a ≤ l.length
  · rw [Nat.min_eq_left h]
    by_cases k : b ≤ l.length
    · rw [Nat.min_eq_left k]
    · rw [Nat.min_eq_right (by omega), List.take_of_length_le (by rw [List.length_drop]; omega), List.take_of_length_le (by rw [List.length_drop]; omega)]
  · rw [Nat.min_eq_right (show l.length ≤ a by omega), List.drop_length, List.drop_of_length_le (by omega)]
    simp
theorem cut_n0 {α : Type} {l : List α} {a : Nat} : cut l (some (a : Int)) none = l.drop a := by
  unfold cut
  rw [HT.sIx_nat, HT.sIx_none]
  by_cases h : a ≤ l.length
  · rw [Nat.min_eq_left h, List.take_of_length_le (by rw [List.length_drop]; omega)]
  · rw [Nat.min_eq_right (show l.length ≤ a by omega), List.drop_length, List.drop_of_length_le (by omega)]
    simp
theorem cut_0n {α : Type} {l : List α} {b : Nat} : cut l none (some (b : Int)) = l.take b := by
  unfold cut
  rw [HT.sIx_nat, HT.sIx_none]
  rw [List.drop_zero, Nat.sub_zero]
  by_cases k : b ≤ l.length
  · rw [Nat.min_eq_left k]
  · rw [Nat.min_eq_right (by omega), List.take_length, List.take_of_length_le (by omega)]
theorem cut_00 {α : Type} {l : List α} : cut l none none = l := by
  unfold cut
  rw [HT.sIx_none, HT.sIx_none]
  simp
end EV

set_option autoImplicit false
set_option linter.all false
set_option maxRecDepth 100000
namespace EV
open PySem
local macro_rules
  | `(tactic| walk_at $s) => do
    match s.getString.splitOn " " with
    | "ev" :: ns => do
      let ls : Lean.TSyntaxArray `Lean.Parser.Tactic.simpLemma ← ("true_and" :: ns).toArray.mapM fun n => `(Lean.Parser.Tactic.simpLemma| $(Lean.mkIdent n.toName):term)
      `(tactic| simp only [$ls,*, ↓qwp_slot, ↓qwp_con, ↓qwp_glob, ↓qwp_bin, ↓qwp_neg, ↓qwp_not, ↓qwp_notT, ↓qwp_and, ↓qwp_or, ↓qwp_andT, ↓qwp_orT, ↓qwp_cmp, ↓qwp_cmpT, ↓qwp_chain, ↓qwp_chainT, ↓qwp_chain3, ↓qwp_iteE, ↓qwp_iteT, ↓qwp_tup, ↓qwp_lst, ↓qwp_dic, ↓qwp_idx, ↓qwp_sli, ↓qwp_fld, ↓qwp_blt, ↓qwp_isi, ↓qwp_peekL_nil, ↓qwp_peekL_cons, ↓qwp_L_nil, ↓qwp_L_cons, ↓qwp_H_nil, ↓qwp_H_cons, ↓qwp_hand_val, ↓qwp_hand_ref, ↓qwp_hand_lend, ↓qwp_A_nil, ↓qwp_A_cons, ↓qwp_P_nil, ↓qwp_P_cons, ↓qwp_O_none, ↓qwp_O_some,
  ↓qwpT_con, ↓qwpT_slot, ↓qwpT_idx, ↓qwpT_bin, ↓qwpT_fld, ↓qwpT_call, ↓qwpT_meth, ↓qwpT_blt, ↓qwpT_isi, ↓qwp_call, ↓qwp_make, ↓qwp_meth, ↓qwp_append, ↓qwp_pop0, ↓qwp_pop1, ↓qwp_remove, ↓qwp_insert, ↓qwp_clear, ↓qwp_reverse, ↓qwp_extend, ↓qwp_get2, ↓qwp_join, ↓qwp_split, ↓qwp_get1, ↓qwp_index, ↓qwp_count, ↓qwp_find2, ↓qwp_replace2, ↓qwp_strip, ↓qwp_upper,
  ↓qwp_B_nil, ↓qwp_B_cons, qthenB_next, qthenB_ret, qthenB_brk, qthenB_cont, qstepF_next, qstepF_cont, qstepF_brk, qstepF_ret, qthenF_next, qthenF_cont, qthenF_brk, qthenF_ret, ↓reduceIte, ↓qwp_asg, ↓qwp_subS, ↓qwp_attr, ↓qwp_augattr, ↓qwp_expr, ↓qwp_ret, ↓qwp_raise, ↓qwp_raise1, ↓qwp_exc0, ↓qwp_exc1, ↓qwp_try, ↓qwp_retn, ↓qwp_if, ↓qwp_brk, ↓qwp_cont, ↓qwp_pass, ↓qwp_for, ↓qwp_while, ↓qwp_I_val, ↓qwp_I_range, ↓qwp_I_enum, ↓qwp_I_zip, ↓qwp_I_rev, ↓qwp_G_slot, ↓qwp_G_tup, ↓qwp_GL_nil, ↓qwp_GL_cons, ↓qwp_noexc, ↓qwp_comp, ↓qwp_Ts_nil, ↓qwp_Ts_cons,
  ↓qwp_peek_loc, ↓qwp_peek_ref, ↓qwp_peek_v, ↓qwp_esc_loc, ↓qwp_esc_v, ↓qwp_give_loc, ↓qwp_give_v, ↓qwp_cell_loc, ↓qwp_cell_f, ↓qwp_cell_t, ↓qwp_chg_loc, ↓qwp_chg_ref, ↓qwp_set, ↓qwp_lock_loc, ↓qwp_lock_v,
  slotA, qrdS_sh, qrdS_own, qrdS_lock, qrdS_bor, qpkS_own, qpkS_lock, qpkS_bor, qescS_own, qlkS_own, qlkS_lock, qlkS_bor, qctO_sh, qctO_own, qctO_lock, qctO_bor, qwpA_nil, qwpA_loc, qwpA_v, qwpo_some, qwpo_none, vl_non, nl_non, mut_non, vl_bl, nl_bl, mut_bl, vl_int, nl_int, mut_int, vl_str, nl_str, mut_str, vl_tup, nl_tup, mut_tup, vl_lst, nl_lst, mut_lst, vl_dic, nl_dic, mut_dic, vl_kon, nl_kon, mut_kon, vl_ins, nl_ins, mut_ins, vl_exn, nl_exn, mut_exn, vl_ref, nl_ref, mut_ref, vl_loc, nl_loc, mut_loc, intO, blO, List.getElem?_cons_zero, List.getElem?_cons_succ, List.set_cons_zero, List.set_cons_succ, setQ_eq, List.length_cons, List.length_nil, List.cons_append, List.nil_append, Bool.false_and, Bool.and_false, Bool.true_and, Bool.and_true, if_true, if_false, ite_true, ite_false, Bool.false_eq_true, true_and, and_true, Nat.zero_add, ofString_inj, String.reduceEq, eqv_str, eqv_int, eqv_bl, eqv_tup, eqv_lst, eqv_non, eqv_non_str, eqv_str_non, eqv_non_tup, eqv_tup_non, eqv_str_tup, eqv_tup_str, eqvL_nil, eqvL_cons, eqvL_nc, eqvL_cn, fk_str, fk_int, bin_add_int, bin_sub_int, bin_mul_r, bin_mul_l, small, Int.reduceNeg, Int.reducePow, Int.reduceLT, Int.reduceLE, Nat.reduceLT, Nat.reduceLeDiff, Nat.reduceAdd, Int.reduceAdd, Int.reduceSub, Nat.reduceSub, bin_mod_int, bin_fdiv_int, bin_pow_int, bin_add_str, bin_add_lst, bin_add_tup, bin_mul_lst, bin_mul_tup, isNon_non, isNon_str, isNon_tup, isNon_lst, isNon_int, isNon_bl, cmp_eq, cmp_ne, cmp_lt_int, cmp_gt_int, cmp_le_int, cmp_ge_int, cmp_lt_str, cmp_in, cmp_notin, cmp_is_non, cmp_isnot_non, cmp_is_bl, cmp_isnot_bl, eqOk_int, eqOk_str, eqOk_bl, eqOk_non, eqOk_non_str, eqOk_str_non, truth_non, truth_bl, truth_int, truth_str, truth_tup, truth_lst, truth_dic, idx_lst, idx_tup, idx_str, idx_dic_str, idx_kon_str, look_cons, look_nil, sli_lst, sli_tup, sli_str, len_lst, len_tup, len_dic, len_str, list_lst, list_tup, tuple_lst, tuple_tup, int_int, int_bl, sum_lst, all_lst, any_lst, max2_int, min2_int, listrev_lst, sorted_lst, sorted_tup, sortedset_lst, sortedset_tup, bmTy_append, bmTy_pop0, bmTy_pop1, bmTy_extend, bmTy_index, bmTy_join, bmTy_get1, bmTy_get2, ch_append, ch_pop0, ch_extend, apD_lst, popD_lst, exD_lst, storeAt_lst, storeAt_dic, walk_lst, walk_tup, onlyL_lst, zip_lst, zip_tup, tupD_tup, tupD_lst, map_some', map_none', decide_true, decide_false, decide_eq_true_eq, List.length_map, Bool.and_eq_true, and_self, lineN, putKey_eq, hasKey_cons, hasKey_nil, putVals_cons, putVals_nil, putAll_cons, putAll_nil, in_tup, in_lst, in_dic, in_kon, inD_cons, inD_nil, flat_str, flat_int, flat_bl, flat_non, List.all_cons, List.all_nil, Bool.or_true, Bool.true_or, Bool.false_or, Bool.or_false, Bool.not_true, Bool.not_false, Bool.and_self, lockS_none, lockS_sh, lockS_own, lockS_bor, lockS_lock, fresh_nil, fresh_cons, unlockW_nil, unlockW_cons, ownS_some, ownFree_nil, ownFree_cons, freeS_none, freeS_sh, TL.len, wipeS_nil, wipeS_cons, unwipe_nil, unwipe_cons, getA_len, setA_len, fldopI_ins, stF, putFld_cons, putFld_nil])
    | _ => Lean.Macro.throwUnsupported
/-- what is drawn from -/
structure Deal where
  seed : Int
  number : Int
  left : List Int
def Deal.S (d : Deal) : List D := [.lst (d.left.map .int), .dic [.str "seed", .str "number", .str "left"] [.int d.seed, .int d.number, .ref 0]]
def Deal.Ok (d : Deal) : Prop := 0 ≤ d.seed ∧ d.seed < 2147483647 ∧ 0 ≤ d.number ∧ (∀ z ∈ d.left, (0 : Int) < z) ∧ d.left.length ≤ 63
def b_draw2 : TB :=
  .cons (.asg (.slot 2 false) (.idx (.slot 0) (.con (.str "number")))) <|
  .cons (.ite (.cmp .gt (.slot 2) (.con (.int 0)))
    (.cons (.sub (.slot 0) (.con (.str "number")) (.bin .fdiv (.slot 2) (.slot 1))) <|
    .cons (.ret (.bin .mod (.slot 2) (.slot 1))) <|
    .nil) .nil) <|
  .cons (.asg (.slot 3 false) (.bin .mod (.bin .add (.bin .mul (.idx (.slot 0) (.con (.str "seed"))) (.con (.int 48271))) (.con (.int 7919))) (.con (.int 2147483647)))) <|
  .cons (.sub (.slot 0) (.con (.str "seed")) (.bin .mod (.bin .add (.bin .mul (.slot 3) (.con (.int 40692))) (.con (.int 104729))) (.con (.int 2147483399)))) <|
  .cons (.asg (.slot 4 false) (.bin .mod (.bin .mul (.idx (.slot 0) (.con (.str "seed"))) (.idx (.slot 0) (.con (.str "seed")))) (.con (.int 2147483563)))) <|
  .cons (.ret (.bin .mod (.bin .add (.bin .mul (.bin .mod (.bin .mul (.slot 3) (.slot 3)) (.con (.int 2147483629))) (.con (.int 2147483563))) (.slot 4)) (.slot 1))) <|
  .nil
def b_draw : TB :=
  .cons (.while_ (.and (.cmp .eq (.idx (.slot 0) (.con (.str "number"))) (.con (.int 0))) (.cmp .gt (.blt .len (.cons (.idx (.slot 0) (.con (.str "left"))) .nil)) (.con (.int 0))))
    (.cons (.sub (.slot 0) (.con (.str "number")) (.bm .pop0 (.idx (.slot 0) (.con (.str "left"))) .nil)) <|
    .nil)) b_draw2
def d_draw : EV.Def := ⟨2, 5, [], b_draw⟩
theorem draw_tail {P : Prog} {k : Nat} {d' : Deal} (ho' : d'.Ok) {m : Int} (hm : 0 < m) (hm2 : m < 1073741824) {S : List D} : wq (exB (cfg P k) b_draw2 ⟨[some (.ref 1, .sh), some (.int m, .sh), none, none, none], d'.S ++ S⟩)
    (fun f s => outT (S.length + 2) (fun h S' => ∃ (r : Int) (d' : Deal), h = (.int r, false) ∧ S' = d'.S ++ S ∧ 0 ≤ r ∧ r < m ∧ d'.Ok) f s) (fun _ _ => False) := by
  obtain ⟨o1, o2, o3, o4, o5⟩ := ho'
  have hs : small d'.seed = true := small_of (by omega) (by omega)
  unfold b_draw2 Deal.S
  walk_at "ev"
  rw [if_pos (⟨hm, hm2⟩ : 0 < m ∧ m < 1073741824)]
  walk_at "ev"
  split
  · rename_i hn
    try rw [if_pos hm]
    walk_at "ev"
    refine outT_ret (by simp) ?_
    refine ⟨_, ⟨d'.seed, d'.number / m, d'.left⟩, rfl, rfl, Int.emod_nonneg _ (by omega), Int.emod_lt_of_pos _ hm, o1, o2, Int.ediv_nonneg o3 (by omega), o4, o5⟩
  · rename_i hn
    have b1 := Int.emod_nonneg (d'.seed * 48271 + 7919) (show (2147483647 : Int) ≠ 0 by decide)
    have b2 := Int.emod_lt_of_pos (d'.seed * 48271 + 7919) (show (0 : Int) < 2147483647 by decide)
    generalize (d'.seed * 48271 + 7919) % 2147483647 = one at *
    have b3 := Int.emod_nonneg (one * 40692 + 104729) (show (2147483399 : Int) ≠ 0 by decide)
    have b4 := Int.emod_lt_of_pos (one * 40692 + 104729) (show (0 : Int) < 2147483399 by decide)
    generalize (one * 40692 + 104729) % 2147483399 = sd at *
    have h1 : binop .mul (.int sd) (.int sd) = some (.int (sd * sd), false) := bin_mul_l (small_of (by omega) (by omega))
    have h2 : binop .mul (.int one) (.int one) = some (.int (one * one), false) := bin_mul_l (small_of (by omega) (by omega))
    simp only [h1]
    walk_at "ev"
    simp only [h2]
    walk_at "ev"
    try rw [if_pos hm]
    walk_at "ev"
    refine outT_ret (by simp) ?_
    exact ⟨_, ⟨sd, d'.number, d'.left⟩, rfl, rfl, Int.emod_nonneg _ (by omega), Int.emod_lt_of_pos _ hm, b3, by show sd < 2147483647; omega, o3, o4, o5⟩
theorem draw_ok {P : Prog} (hd : P.defs "_law_draw" = some d_draw) (hW : 100 ≤ P.W) (k : Nat) (d : Deal) (ho : d.Ok) (m : Int) (hm : 0 < m) (hm2 : m < 1073741824) (S : List D) :
    ∃ (r : Int) (d' : Deal), callN P (k + 1) "_law_draw" [(.ref 1, .sh), (.int m, .sh)] (d.S ++ S) = .ok (.int r, false) (d'.S ++ S) ∧ 0 ≤ r ∧ r < m ∧ d'.Ok := by
  suffices h : wq (callN P (k + 1) "_law_draw" [(.ref 1, .sh), (.int m, .sh)] (d.S ++ S)) (fun h S' => ∃ (r : Int) (d' : Deal), h = (.int r, false) ∧ S' = d'.S ++ S ∧ 0 ≤ r ∧ r < m ∧ d'.Ok) (fun _ _ => False) by
    obtain ⟨a, s, e, r, d', rfl, rfl, h⟩ := wq_get h
    exact ⟨r, d', e, h⟩
  rw [qwp_def hd rfl]
  show wq (exB (cfg P k) b_draw ⟨[some (.ref 1, .sh), some (.int m, .sh), none, none, none], d.S ++ S⟩) _ _
  unfold b_draw
  rw [qwp_B_cons]
  rw [qwp_while]
  refine qwhile_rule (fun j s => ∃ d' : Deal, j = d'.left.length ∧ d'.Ok ∧ s = ⟨[some (.ref 1, .sh), some (.int m, .sh), none, none, none], d'.S ++ S⟩) _ _ ⟨d.left.length, ?_, d, rfl, ho, rfl⟩ ?_
  · show d.left.length < P.W
    have := ho.2.2.2.2
    omega
  · rintro j s ⟨d', rfl, ho', rfl⟩
    have tail := draw_tail (P := P) (k := k) ho' hm hm2 (S := S)
    obtain ⟨o1, o2, o3, o4, o5⟩ := ho'
    have tl : (d.S ++ S).length = S.length + 2 := by simp [Deal.S]
    rw [tl]
    unfold Deal.S
    walk_at "ev"
    split
    · rename_i hn
      split
      · rename_i hl
        obtain ⟨l0, z, hz⟩ : ∃ l0 z, d'.left = l0 ++ [z] := by
          rcases List.eq_nil_or_concat d'.left with h | ⟨l0, z, h⟩
          · rw [h] at hl; simp at hl
          · exact ⟨l0, z, by simpa using h⟩
        rw [hz]
        simp only [List.map_append, List.map_cons, List.map_nil, List.getLast?_append, List.getLast?_singleton, Option.some_or, List.dropLast_concat, map_some', List.length_append, List.length_cons, List.length_nil]
        walk_at "ev"
        refine ⟨l0.length, by simp, ⟨d'.seed, z, l0⟩, rfl, ⟨o1, o2, ?_, fun y hy => o4 y (by rw [hz]; simp [hy]), ?_⟩, rfl⟩
        · have := o4 z (by rw [hz]; simp)
          show 0 ≤ z
          omega
        · show l0.length ≤ 63
          rw [hz] at o5
          simp at o5
          omega
      · exact tail
    · exact tail
def b_deal : TB :=
  .cons (.asg (.slot 2 false) (.comp (.blt .max2 (.cons (.slot 4) (.cons (.bin .sub (.con (.int 0)) (.slot 4)) .nil))) (.slot 4 false) (.val (.sli (.slot 0) (.some (.slot 1)) (.some (.con (.int 63))))) .nil [4])) <|
  .cons (.asg (.slot 3 false) (.bin .add (.con (.int 7919)) (.slot 1))) <|
  .cons (.for_ (.slot 4 false) (.val (.slot 2))
    (.cons (.asg (.slot 3 false) (.bin .mod (.bin .add (.bin .mul (.slot 3) (.con (.int 69621))) (.bin .mod (.slot 4) (.con (.int 2147483629)))) (.con (.int 2147483647)))) <|
    .nil)) <|
  .cons (.ret (.dic (.cons (.con (.str "seed")) (.cons (.slot 3) (.cons (.con (.str "number")) (.cons (.con (.int 0)) (.cons (.con (.str "left")) (.cons (.blt .listrev (.cons (.comp (.slot 4) (.slot 4 false) (.val (.slot 2)) (.cons (.cmp .ge (.slot 4) (.bin .pow (.con (.int 10)) (.con (.int 18)))) .nil) [4]) .nil)) .nil)))))))) <|
  .nil
def d_deal : EV.Def := ⟨2, 5, [], b_deal⟩
def absI : D → D
  | .int i => .int (if 0 - i > i then 0 - i else i)
  | d => d
def bigI : D → Bool
  | .int i => decide (10 ^ 18 ≤ i)
  | _ => false
theorem deal_okB {P : Prog} (hd : P.defs "_law_deal" = some d_deal) (h1 : P.mode (tagS 35 "left") 0 = .ref) (h2 : P.mode (tagS 35 "seed") 0 = .val) (h3 : P.mode (tagS 35 "number") 0 = .val) (k : Nat) (b : Nat) (hb : b ≤ 63) (ns : List Int) (hn : ns.length ≤ 63) :
    ∃ d : Deal, callN P (k + 1) "_law_deal" [(.lst (ns.map .int), .sh), (.int (b : Int), .sh)] [] = .ok (.dic [.str "seed", .str "number", .str "left"] [.int d.seed, .int d.number, .ref 0], true) [.lst (d.left.map .int)] ∧ d.Ok := by
  suffices h : wq (callN P (k + 1) "_law_deal" [(.lst (ns.map .int), .sh), (.int (b : Int), .sh)] []) (fun h S' => ∃ d : Deal, h = (.dic [.str "seed", .str "number", .str "left"] [.int d.seed, .int d.number, .ref 0], true) ∧ S' = [.lst (d.left.map .int)] ∧ d.Ok) (fun _ _ => False) by
    obtain ⟨a, s, e, d, rfl, rfl, h⟩ := wq_get h
    exact ⟨d, e, h⟩
  rw [qwp_def hd rfl]
  show wq (exB (cfg P k) b_deal ⟨[some (.lst (ns.map .int), .sh), some (.int (b : Int), .sh), none, none, none], []⟩) _ _
  unfold b_deal
  have hc : ∃ ms : List Int, cut (ns.map D.int) (some (b : Int)) (some 63) = ms.map .int ∧ ms.length ≤ 63 := by
    have e : cut (ns.map D.int) (some (b : Int)) (some 63) = ((ns.map D.int).drop b).take (63 - b) := cut_nn (a := b) (b := 63)
    refine ⟨(ns.drop b).take (63 - b), ?_, ?_⟩
    · rw [e, List.map_take, List.map_drop]
    · rw [List.length_take]; omega
  obtain ⟨ms, hc, hms⟩ := hc
  walk_at "ev"
  rw [hc]
  refine comp_map absI ?_ (fun d hd => ?_) fun s hu hS => ?_
  · rw [List.length_map, lineN]
    omega
  · obtain ⟨i, _, rfl⟩ := List.mem_map.mp hd
    walk_at "ev"
    rfl
  · obtain ⟨ρ, S⟩ := s
    subst hS
    dsimp only at hu ⊢
    rw [hu]
    have hm : (ms.map D.int).map absI = (ms.map fun i => if 0 - i > i then 0 - i else i).map .int := by
      rw [List.map_map, List.map_map]
      rfl
    rw [hm]
    generalize hcs : (ms.map fun i => if 0 - i > i then 0 - i else i) = cs
    have hl : cs.length ≤ 63 := by rw [← hcs, List.length_map]; exact hms
    walk_at "ev"
    refine qfor_rule (fun i s => ∃ (n : Int) (x : Slot), 0 ≤ n ∧ n < 2147483647 ∧ lockS x = false ∧ freeS x = true ∧ s = ⟨[some (.lst (ns.map .int), .sh), some (.int (b : Int), .sh), some (.lst (cs.map .int), .lock), some (.int n, .sh), x], []⟩) ⟨7919 + b, none, by omega, by omega, rfl, rfl, rfl⟩ ?_ ?_
    · rintro i d s hd' ⟨n, x, h0, h1', hx, hx', rfl⟩
      have hd' := List.mem_of_getElem? hd'
      obtain ⟨z, _, rfl⟩ := List.mem_map.mp hd'
      walk_at "ev"
      refine ⟨hx, ?_⟩
      have hh : (n * 69621 + z % 2147483629) % 2147483647 = (n * 69621 + z % 2147483629) % 2147483647 := rfl
      have b1 := Int.emod_nonneg (n * 69621 + z % 2147483629) (show (2147483647 : Int) ≠ 0 by decide)
      have b2 := Int.emod_lt_of_pos (n * 69621 + z % 2147483629) (show (0 : Int) < 2147483647 by decide)
      exact ⟨_, _, b1, b2, rfl, rfl, rfl⟩
    · rintro s ⟨n, x, h0, h1', hx, hx', rfl⟩
      have k1 : keyMode (cfg P k) (.str "seed") = .val := if_neg (by show ¬ (P.mode _ 0 = _); rw [h2]; decide)
      have k2 : keyMode (cfg P k) (.str "number") = .val := if_neg (by show ¬ (P.mode _ 0 = _); rw [h3]; decide)
      have k3 : keyMode (cfg P k) (.str "left") = .ref := if_pos h1
      walk_at "ev k1 k2 k3"
      refine ⟨hx', ?_⟩
      refine comp_fm bigI id (by rw [List.length_map, lineN]; omega) (fun d hd => ?_) fun s hu hS => ?_
      · obtain ⟨i, _, rfl⟩ := List.mem_map.mp hd
        walk_at "ev"
        have e18 : (10 : Int) ^ Int.toNat 18 = 10 ^ 18 := rfl
        rw [e18]
        split
        · rename_i c; exact ⟨(decide_eq_true c).symm, rfl⟩
        · rename_i c; exact (decide_eq_false c).symm
      · obtain ⟨ρ, S⟩ := s
        subst hS
        dsimp only at hu ⊢
        rw [hu]
        walk_at "ev k3"
        have hf : (List.map id (List.filter bigI (List.map D.int cs))).reverse = ((cs.filter fun i => decide (10 ^ 18 ≤ i)).reverse).map .int := by
          rw [List.map_id, List.filter_map, List.map_reverse]
          rfl
        rw [hf]
        refine outT_ref rfl ⟨⟨n, 0, (cs.filter fun i => decide (10 ^ 18 ≤ i)).reverse⟩, rfl, rfl, h0, h1', Int.le_refl 0, fun z hz => ?_, ?_⟩
        · have := of_decide_eq_true (List.mem_filter.mp (List.mem_reverse.mp hz)).2
          have e : (0 : Int) < 10 ^ 18 := by decide
          omega
        · show (cs.filter _).reverse.length ≤ 63
          rw [List.length_reverse]
          exact Nat.le_trans (List.length_filter_le _ _) hl
theorem deal_ok {P : Prog} (hd : P.defs "_law_deal" = some d_deal) (h1 : P.mode (tagS 35 "left") 0 = .ref) (h2 : P.mode (tagS 35 "seed") 0 = .val) (h3 : P.mode (tagS 35 "number") 0 = .val) (k : Nat) (ns : List Int) (hn : ns.length ≤ 63) :
    ∃ d : Deal, callN P (k + 1) "_law_deal" [(.lst (ns.map .int), .sh), (.int 0, .sh)] [] = .ok (.dic [.str "seed", .str "number", .str "left"] [.int d.seed, .int d.number, .ref 0], true) [.lst (d.left.map .int)] ∧ d.Ok :=
  deal_okB hd h1 h2 h3 k 0 (by decide) ns hn
theorem nr_ints {L : Nat} : ∀ {l : List Int}, hasRefL L (l.map .int) = false
  | [] => rfl
  | i :: l => by
    show (hasRef L (.int i) || hasRefL L (l.map .int)) = false
    rw [nr_ints]
    rfl
theorem nr_deal {d : Deal} : hasRefL d.S.length d.S = false := by
  show (hasRefL 2 (d.left.map .int) || (hasRefL 2 [.int d.seed, .int d.number, .ref 0] || false)) = false
  rw [nr_ints]
  rfl
theorem draw1 {P : Prog} (hd : P.defs "_law_draw" = some d_draw) (hW : 100 ≤ P.W) (k : Nat) (d : Deal) (ho : d.Ok) (m : Int) (hm : 0 < m) (hm2 : m < 1073741824) :
    ∃ (r : Int) (d' : Deal), callN P (k + 1) "_law_draw" [(.ref 1, .sh), (.int m, .sh)] d.S = .ok (.int r, false) d'.S ∧ 0 ≤ r ∧ r < m ∧ d'.Ok := by
  have := draw_ok hd hW k d ho m hm hm2 []
  simpa only [List.append_nil] using this
end EV

set_option autoImplicit false
set_option linter.all false
set_option maxRecDepth 100000
set_option maxHeartbeats 4000000
namespace K97
open PySem EV
def topS (i : Nat) : PySem.Stmt := PySem.Challenge.pw_talkcourt_k97_refusals_made.main.body.getD i (.Pass ⟨0, 0, 0, 0⟩)
def inClassS (s : PySem.Stmt) (j : Nat) : PySem.Stmt := L2.inClass s j
def fnsT : List Str := (["_law_deal", "_law_draw", "_law_names", "_law_made", "_law_field", "_law_sort", "law"] : List (Str))
def clssT : List Str := []
def methsT : List Str := []
def promT : List Str := ["_law_deal_here"]
def constsT : List (Str × D) := []
def refT : List (Str × Nat) := ([("#left", 0), ("_law_draw", 0), ("_law_names", 0), ("_law_made", 0)] : List (Str × Nat))
def lendT : List (Str × Nat) := ([("_law_deal", 0), ("_law_draw", 1), ("_law_names", 1), ("_law_field", 0), ("_law_field", 1), ("_law_sort", 0), ("law", 0)] : List (Str × Nat))
def fldsT : List (Str × Str) := ([("NoBook", "row"), ("NoMove", "number"), ("NoTalker", "row"), ("NoPaper", "row"), ("NoWeb", "world"), ("NoName", "name")] : List (Str × Str))
def xtyT : List Str := (["TalkError", "NoText", "NoBook", "NotLet", "NoMove", "NoPlan", "NoTalker", "NoPaper", "NoWeb", "NoRow", "NoName", "ValueError"] : List (Str))
def xcsT : List (Str × List Str × Option (Str × Bool)) := ([("NoText", ["NoText", "TalkError", "ValueError"], none), ("NoBook", ["NoBook", "TalkError", "ValueError"], some ("row", true)), ("NotLet", ["NotLet", "TalkError", "ValueError"], none), ("NoMove", ["NoMove", "TalkError", "ValueError"], some ("number", true)), ("NoPlan", ["NoPlan", "TalkError", "ValueError"], none), ("NoTalker", ["NoTalker", "TalkError", "ValueError"], some ("row", true)), ("NoPaper", ["NoPaper", "TalkError", "ValueError"], some ("row", true)), ("NoWeb", ["NoWeb", "TalkError", "ValueError"], some ("world", true)), ("NoRow", ["NoRow", "TalkError", "ValueError"], none), ("NoName", ["NoName", "TalkError", "ValueError"], some ("name", false))] : List (Str × List Str × Option (Str × Bool)))
def s_xi_NoBook : PySem.Stmt := (inClassS (topS 3) 0)
def s_xi_NoMove : PySem.Stmt := (inClassS (topS 5) 0)
def s_xi_NoTalker : PySem.Stmt := (inClassS (topS 7) 0)
def s_xi_NoPaper : PySem.Stmt := (inClassS (topS 8) 0)
def s_xi_NoWeb : PySem.Stmt := (inClassS (topS 9) 0)
def s_xi_NoName : PySem.Stmt := (inClassS (topS 11) 0)
def scT (N : List Str) (s : PySem.Stmt) : SC := { N := N, sc := C8.fnScope s, st := C8.fnScope s, fns := fnsT, clss := clssT, meths := methsT, prom := fun x => promT.contains x, xty := xtyT, xcs := xcsT }
def s__law_deal : PySem.Stmt := (topS 13)
def n__law_deal : List Str := ["_law_script", "_law_base", "_law_cells", "_law_number", "_law_cell"]
def s__law_draw : PySem.Stmt := (topS 14)
def n__law_draw : List Str := ["_law_deal_here", "_law_many", "_law_number", "_law_one", "_law_other"]
def s__law_names : PySem.Stmt := (topS 15)
def n__law_names : List Str := ["_law_deal_here", "_law_many", "_law_letters", "_law_names_here", "_law_core", "_law_at", "_law_turn", "_law_k", "_law_name"]
def s__law_made : PySem.Stmt := (topS 16)
def n__law_made : List Str := ["_law_deal_here", "_law_n", "_law_name", "_law_some"]
def s__law_field : PySem.Stmt := (topS 17)
def n__law_field : List Str := ["_law_k", "_law_one"]
def s__law_sort : PySem.Stmt := (topS 18)
def n__law_sort : List Str := ["_law_one", "_law_found", "_law_k"]
def s_law : PySem.Stmt := (topS 19)
def n_law : List Str := ["_law_script", "_law_deal_here", "_law_both", "_law_some", "_law_k", "_law_one", "_law_field_here"]
def b__law_deal_3 : TB :=
  .cons (.ret (.dic (.cons (.con (.str "seed")) (.cons (.slot 3) (.cons (.con (.str "number")) (.cons (.con (.int 0)) (.cons (.con (.str "left")) (.cons (.blt .listrev (.cons (.comp (.slot 4) (.slot 4 false) (.val (.slot 2)) (.cons (.cmp .ge (.slot 4) (.bin .pow (.con (.int 10)) (.con (.int 18)))) .nil) [4]) .nil)) .nil)))))))) .nil
def b__law_deal_2 : TB :=
  .cons (.for_ (.slot 4 false) (.val (.slot 2))
    (.cons (.asg (.slot 3 false) (.bin .mod (.bin .add (.bin .mul (.slot 3) (.con (.int 69621))) (.bin .mod (.slot 4) (.con (.int 2147483629)))) (.con (.int 2147483647)))) <|
    .nil)) b__law_deal_3
def b__law_deal_1 : TB :=
  .cons (.asg (.slot 3 false) (.bin .add (.con (.int 7919)) (.slot 1))) b__law_deal_2
def b__law_deal : TB :=
  .cons (.asg (.slot 2 false) (.comp (.blt .max2 (.cons (.slot 4) (.cons (.bin .sub (.con (.int 0)) (.slot 4)) .nil))) (.slot 4 false) (.val (.sli (.slot 0) (.some (.slot 1)) (.some (.con (.int 63))))) .nil [4])) b__law_deal_1
def d__law_deal : EV.Def := ⟨2, 5, [], b__law_deal⟩
def b__law_draw_6 : TB :=
  .cons (.ret (.bin .mod (.bin .add (.bin .mul (.bin .mod (.bin .mul (.slot 3) (.slot 3)) (.con (.int 2147483629))) (.con (.int 2147483563))) (.slot 4)) (.slot 1))) .nil
def b__law_draw_5 : TB :=
  .cons (.asg (.slot 4 false) (.bin .mod (.bin .mul (.idx (.slot 0) (.con (.str "seed"))) (.idx (.slot 0) (.con (.str "seed")))) (.con (.int 2147483563)))) b__law_draw_6
def b__law_draw_4 : TB :=
  .cons (.sub (.slot 0) (.con (.str "seed")) (.bin .mod (.bin .add (.bin .mul (.slot 3) (.con (.int 40692))) (.con (.int 104729))) (.con (.int 2147483399)))) b__law_draw_5
def b__law_draw_3 : TB :=
  .cons (.asg (.slot 3 false) (.bin .mod (.bin .add (.bin .mul (.idx (.slot 0) (.con (.str "seed"))) (.con (.int 48271))) (.con (.int 7919))) (.con (.int 2147483647)))) b__law_draw_4
def b__law_draw_2 : TB :=
  .cons (.ite (.cmp .gt (.slot 2) (.con (.int 0)))
    (.cons (.sub (.slot 0) (.con (.str "number")) (.bin .fdiv (.slot 2) (.slot 1))) <|
    .cons (.ret (.bin .mod (.slot 2) (.slot 1))) <|
    .nil) .nil) b__law_draw_3
def b__law_draw_1 : TB :=
  .cons (.asg (.slot 2 false) (.idx (.slot 0) (.con (.str "number")))) b__law_draw_2
def b__law_draw : TB :=
  .cons (.while_ (.and (.cmp .eq (.idx (.slot 0) (.con (.str "number"))) (.con (.int 0))) (.cmp .gt (.blt .len (.cons (.idx (.slot 0) (.con (.str "left"))) .nil)) (.con (.int 0))))
    (.cons (.sub (.slot 0) (.con (.str "number")) (.bm .pop0 (.idx (.slot 0) (.con (.str "left"))) .nil)) <|
    .nil)) b__law_draw_1
def d__law_draw : EV.Def := ⟨2, 5, [], b__law_draw⟩
def b__law_names_7 : TB :=
  .cons (.ret (.slot 3)) .nil
def b__law_names_6 : TB :=
  .cons (.ite (.and (.cmp .gt (.slot 1) (.con (.int 1))) (.cmp .eq (.call "_law_draw" (.cons (.slot 0) (.cons (.con (.int 2)) .nil))) (.con (.int 1))))
    (.cons (.sub (.slot 3) (.con (.int 0)) (.bin .add (.idx (.slot 3) (.con (.int 0))) (.con (.str "z")))) <|
    .nil) .nil) b__law_names_7
def b__law_names_5 : TB :=
  .cons (.for_ (.slot 7 false) (.range (.cons (.slot 1) .nil))
    (.cons (.asg (.slot 8 false) (.bin .add (.bin .add (.sli (.slot 4) .none (.some (.slot 5))) (.idx (.slot 2) (.bin .mod (.bin .add (.slot 6) (.bin .mul (.con (.int 7)) (.slot 7))) (.con (.int 26))))) (.sli (.slot 4) (.some (.slot 5)) .none))) <|
    .cons (.ite (.cmp .isin (.slot 8) (.tup (.cons (.con (.str "and")) (.cons (.con (.str "or")) (.cons (.con (.str "not")) (.cons (.con (.str "then")) .nil))))))
      (.cons (.asg (.slot 8 false) (.bin .add (.slot 8) (.con (.str "q")))) <|
      .nil) .nil) <|
    .cons (.expr (.bm .append (.slot 3) (.cons (.slot 8) .nil))) <|
    .nil)) b__law_names_6
def b__law_names_4 : TB :=
  .cons (.asg (.slot 6 false) (.call "_law_draw" (.cons (.slot 0) (.cons (.con (.int 26)) .nil)))) b__law_names_5
def b__law_names_3 : TB :=
  .cons (.asg (.slot 5 false) (.call "_law_draw" (.cons (.slot 0) (.cons (.bin .add (.blt .len (.cons (.slot 4) .nil)) (.con (.int 1))) .nil)))) b__law_names_4
def b__law_names_2 : TB :=
  .cons (.asg (.slot 4 false) (.bm .join (.con (.str "")) (.cons (.comp (.idx (.slot 2) (.call "_law_draw" (.cons (.slot 0) (.cons (.con (.int 26)) .nil)))) (.slot 7 false) (.range (.cons (.call "_law_draw" (.cons (.slot 0) (.cons (.con (.int 5)) .nil))) .nil)) .nil [7]) .nil))) b__law_names_3
def b__law_names_1 : TB :=
  .cons (.asg (.slot 3 false) (.lst .nil)) b__law_names_2
def b__law_names : TB :=
  .cons (.asg (.slot 2 false) (.con (.str "abcdefghijklmnopqrstuvwxyz"))) b__law_names_1
def d__law_names : EV.Def := ⟨2, 9, [], b__law_names⟩
def b__law_made_3 : TB :=
  .cons (.ret (.bin .add (.slot 3) (.lst (.cons (.tup (.cons (.exc1 ["NoPaper", "TalkError", "ValueError"] "row" true (.slot 1)) (.cons (.slot 1) .nil))) (.cons (.tup (.cons (.exc1 ["NoWeb", "TalkError", "ValueError"] "world" true (.slot 1)) (.cons (.slot 1) .nil))) (.cons (.tup (.cons (.exc0 ["NoRow", "TalkError", "ValueError"]) (.cons (.con (.non)) .nil))) (.cons (.tup (.cons (.exc1 ["NoName", "TalkError", "ValueError"] "name" false (.slot 2)) (.cons (.slot 2) .nil))) .nil))))))) .nil
def b__law_made_2 : TB :=
  .cons (.asg (.slot 3 false) (.lst (.cons (.tup (.cons (.exc0 ["NoText", "TalkError", "ValueError"]) (.cons (.con (.non)) .nil))) (.cons (.tup (.cons (.exc1 ["NoBook", "TalkError", "ValueError"] "row" true (.slot 1)) (.cons (.slot 1) .nil))) (.cons (.tup (.cons (.exc0 ["NotLet", "TalkError", "ValueError"]) (.cons (.con (.non)) .nil))) (.cons (.tup (.cons (.exc1 ["NoMove", "TalkError", "ValueError"] "number" true (.slot 1)) (.cons (.slot 1) .nil))) (.cons (.tup (.cons (.exc0 ["NoPlan", "TalkError", "ValueError"]) (.cons (.con (.non)) .nil))) (.cons (.tup (.cons (.exc1 ["NoTalker", "TalkError", "ValueError"] "row" true (.slot 1)) (.cons (.slot 1) .nil))) .nil)))))))) b__law_made_3
def b__law_made_1 : TB :=
  .cons (.asg (.slot 2 false) (.idx (.call "_law_names" (.cons (.slot 0) (.cons (.con (.int 1)) .nil))) (.con (.int 0)))) b__law_made_2
def b__law_made : TB :=
  .cons (.asg (.slot 1 false) (.call "_law_draw" (.cons (.slot 0) (.cons (.con (.int 1000)) .nil)))) b__law_made_1
def d__law_made : EV.Def := ⟨1, 4, [], b__law_made⟩
def b__law_field_4 : TB :=
  .cons (.ret (.con (.non))) .nil
def b__law_field_3 : TB :=
  .cons (.ite (.cmp .eq (.slot 0) (.con (.int 9)))
    (.cons (.ret (.fld (.slot 1) "name")) <|
    .nil) .nil) b__law_field_4
def b__law_field_2 : TB :=
  .cons (.ite (.cmp .eq (.slot 0) (.con (.int 7)))
    (.cons (.ret (.fld (.slot 1) "world")) <|
    .nil) .nil) b__law_field_3
def b__law_field_1 : TB :=
  .cons (.ite (.cmp .eq (.slot 0) (.con (.int 3)))
    (.cons (.ret (.fld (.slot 1) "number")) <|
    .nil) .nil) b__law_field_2
def b__law_field : TB :=
  .cons (.ite (.cmp .isin (.slot 0) (.tup (.cons (.con (.int 1)) (.cons (.con (.int 5)) (.cons (.con (.int 6)) .nil)))))
    (.cons (.ret (.fld (.slot 1) "row")) <|
    .nil) .nil) b__law_field_1
def d__law_field : EV.Def := ⟨2, 2, [], b__law_field⟩
def b__law_sort_3 : TB :=
  .cons (.ret (.comp (.slot 2) (.slot 2 false) (.range (.cons (.con (.int 10)) .nil)) (.cons (.idx (.slot 1) (.slot 2)) .nil) [2])) .nil
def b__law_sort_2 : TB :=
  .cons (.asg (.slot 1 false) (.bin .add (.slot 1) (.lst (.cons (.isi (.slot 0) [.cls "NoWeb"]) (.cons (.isi (.slot 0) [.cls "NoRow"]) (.cons (.isi (.slot 0) [.cls "NoName"]) .nil)))))) b__law_sort_3
def b__law_sort_1 : TB :=
  .cons (.asg (.slot 1 false) (.bin .add (.slot 1) (.lst (.cons (.isi (.slot 0) [.cls "NoPlan"]) (.cons (.isi (.slot 0) [.cls "NoTalker"]) (.cons (.isi (.slot 0) [.cls "NoPaper"]) .nil)))))) b__law_sort_2
def b__law_sort : TB :=
  .cons (.asg (.slot 1 false) (.lst (.cons (.isi (.slot 0) [.cls "NoText"]) (.cons (.isi (.slot 0) [.cls "NoBook"]) (.cons (.isi (.slot 0) [.cls "NotLet"]) (.cons (.isi (.slot 0) [.cls "NoMove"]) .nil)))))) b__law_sort_1
def d__law_sort : EV.Def := ⟨1, 3, [], b__law_sort⟩
def b_law_3 : TB :=
  .cons (.ret (.con (.bl true))) .nil
def b_law_2 : TB :=
  .cons (.for_ (.slot 3 false) (.val (.bin .add (.slot 2) (.sli (.slot 2) .none (.some (.con (.int 1))))))
    (.cons (.for_ (.slot 4 false) (.range (.cons (.con (.int 10)) .nil))
      (.cons (.asg (.tup [(.slot 5 false), (.slot 6 false)]) (.idx (.slot 3) (.slot 4))) <|
      .cons (.ite (.or (.cmp .ne (.call "_law_sort" (.cons (.slot 5) .nil)) (.lst (.cons (.slot 4) .nil))) (.or (.not (.isi (.slot 5) [.cls "TalkError"])) (.not (.isi (.slot 5) [.cls "ValueError"]))))
        (.cons (.ret (.con (.bl false))) <|
        .nil) .nil) <|
      .cons (.ite (.cmp .ne (.blt .repr (.cons (.call "_law_field" (.cons (.slot 4) (.cons (.slot 5) .nil))) .nil)) (.blt .repr (.cons (.slot 6) .nil)))
        (.cons (.ret (.con (.bl false))) <|
        .nil) .nil) <|
      .nil)) <|
    .nil)) b_law_3
def b_law_1 : TB :=
  .cons (.asg (.slot 2 false) (.lst (.cons (.call "_law_made" (.cons (.slot 1) .nil)) (.cons (.call "_law_made" (.cons (.slot 1) .nil)) .nil)))) b_law_2
def b_law : TB :=
  .cons (.asg (.slot 1 true) (.call "_law_deal" (.cons (.slot 0) (.cons (.con (.int 0)) .nil)))) b_law_1
def d_law : EV.Def := ⟨1, 7, [], b_law⟩
def defT : List (Str × EV.Def) := ([("_law_deal", d__law_deal), ("_law_draw", d__law_draw), ("_law_names", d__law_names), ("_law_made", d__law_made), ("_law_field", d__law_field), ("_law_sort", d__law_sort), ("law", d_law)] : List (Str × EV.Def))
def PT : Prog := { G := fun x => constsT.lookup x, defs := fun f => defT.lookup f, mode := fun f j => if refT.contains (f, j) then .ref else if lendT.contains (f, j) then .lend else .val, flds := fun c f => fldsT.contains (c, f), W := 100000000 }
end K97

set_option autoImplicit false
set_option linter.all false
set_option maxRecDepth 100000
set_option maxHeartbeats 4000000
namespace K97
open PySem EV
theorem df__law_deal : PT.defs "_law_deal" = some d__law_deal := by kernel_rfl
theorem md__law_deal_0 {k : Nat} : (cfg PT k).mode "_law_deal" 0 = .lend := (by decide +kernel : PT.mode "_law_deal" 0 = .lend)
theorem md__law_deal_1 {k : Nat} : (cfg PT k).mode "_law_deal" 1 = .val := (by decide +kernel : PT.mode "_law_deal" 1 = .val)
theorem df__law_draw : PT.defs "_law_draw" = some d__law_draw := by kernel_rfl
theorem md__law_draw_0 {k : Nat} : (cfg PT k).mode "_law_draw" 0 = .ref := (by decide +kernel : PT.mode "_law_draw" 0 = .ref)
theorem md__law_draw_1 {k : Nat} : (cfg PT k).mode "_law_draw" 1 = .lend := (by decide +kernel : PT.mode "_law_draw" 1 = .lend)
theorem df__law_names : PT.defs "_law_names" = some d__law_names := by kernel_rfl
theorem md__law_names_0 {k : Nat} : (cfg PT k).mode "_law_names" 0 = .ref := (by decide +kernel : PT.mode "_law_names" 0 = .ref)
theorem md__law_names_1 {k : Nat} : (cfg PT k).mode "_law_names" 1 = .lend := (by decide +kernel : PT.mode "_law_names" 1 = .lend)
theorem df__law_made : PT.defs "_law_made" = some d__law_made := by kernel_rfl
theorem md__law_made_0 {k : Nat} : (cfg PT k).mode "_law_made" 0 = .ref := (by decide +kernel : PT.mode "_law_made" 0 = .ref)
theorem df__law_field : PT.defs "_law_field" = some d__law_field := by kernel_rfl
theorem md__law_field_0 {k : Nat} : (cfg PT k).mode "_law_field" 0 = .lend := (by decide +kernel : PT.mode "_law_field" 0 = .lend)
theorem md__law_field_1 {k : Nat} : (cfg PT k).mode "_law_field" 1 = .lend := (by decide +kernel : PT.mode "_law_field" 1 = .lend)
theorem df__law_sort : PT.defs "_law_sort" = some d__law_sort := by kernel_rfl
theorem md__law_sort_0 {k : Nat} : (cfg PT k).mode "_law_sort" 0 = .lend := (by decide +kernel : PT.mode "_law_sort" 0 = .lend)
theorem df_law : PT.defs "law" = some d_law := by kernel_rfl
theorem md_law_0 {k : Nat} : (cfg PT k).mode "law" 0 = .lend := (by decide +kernel : PT.mode "law" 0 = .lend)
theorem km_seed {k : Nat} : keyMode (cfg PT k) (.str "seed") = .val := by
  unfold keyMode
  dsimp only
  rw [if_neg]
  exact (by decide +kernel : ¬ (PT.mode (tagS 35 "seed") 0 = .ref))
theorem km_number {k : Nat} : keyMode (cfg PT k) (.str "number") = .val := by
  unfold keyMode
  dsimp only
  rw [if_neg]
  exact (by decide +kernel : ¬ (PT.mode (tagS 35 "number") 0 = .ref))
theorem km_left {k : Nat} : keyMode (cfg PT k) (.str "left") = .ref := by
  unfold keyMode
  dsimp only
  rw [if_pos]
  exact (by decide +kernel : (PT.mode (tagS 35 "left") 0 = .ref))
end K97

set_option autoImplicit false
set_option linter.all false
set_option maxRecDepth 100000
set_option maxHeartbeats 4000000
namespace K97
open PySem EV L2 PyProof.Rows
theorem kb__law_deal : kB 60 (scT n__law_deal s__law_deal) (C8.fnBody s__law_deal) = some b__law_deal := by kernel_rfl
theorem fs__law_deal : L2.FnScope n__law_deal ["_law_script", "_law_base"] (C8.fnScope s__law_deal) := C8.fnScope_by (by decide +kernel)
theorem kb__law_draw : kB 60 (scT n__law_draw s__law_draw) (C8.fnBody s__law_draw) = some b__law_draw := by kernel_rfl
theorem fs__law_draw : L2.FnScope n__law_draw ["_law_deal_here", "_law_many"] (C8.fnScope s__law_draw) := C8.fnScope_by (by decide +kernel)
theorem kb__law_names : kB 60 (scT n__law_names s__law_names) (C8.fnBody s__law_names) = some b__law_names := by kernel_rfl
theorem fs__law_names : L2.FnScope n__law_names ["_law_deal_here", "_law_many"] (C8.fnScope s__law_names) := C8.fnScope_by (by decide +kernel)
theorem kb__law_made : kB 60 (scT n__law_made s__law_made) (C8.fnBody s__law_made) = some b__law_made := by kernel_rfl
theorem fs__law_made : L2.FnScope n__law_made ["_law_deal_here"] (C8.fnScope s__law_made) := C8.fnScope_by (by decide +kernel)
theorem kb__law_field : kB 60 (scT n__law_field s__law_field) (C8.fnBody s__law_field) = some b__law_field := by kernel_rfl
theorem fs__law_field : L2.FnScope n__law_field ["_law_k", "_law_one"] (C8.fnScope s__law_field) := C8.fnScope_by (by decide +kernel)
theorem kb__law_sort : kB 60 (scT n__law_sort s__law_sort) (C8.fnBody s__law_sort) = some b__law_sort := by kernel_rfl
theorem fs__law_sort : L2.FnScope n__law_sort ["_law_one"] (C8.fnScope s__law_sort) := C8.fnScope_by (by decide +kernel)
theorem kb_law : kB 60 (scT n_law s_law) (C8.fnBody s_law) = some b_law := by kernel_rfl
theorem fs_law : L2.FnScope n_law ["_law_script"] (C8.fnScope s_law) := C8.fnScope_by (by decide +kernel)
theorem fx_NoBook : L2.FnScope ["self", "row"] ["self", "row"] (C8.fnScope s_xi_NoBook) := C8.fnScope_by (by decide +kernel)
theorem ix_NoBook : initB (C8.fnBody s_xi_NoBook) = some (("TalkError" : Str), ("row" : Str), ("row" : Str), true) := by kernel_rfl
theorem fx_NoMove : L2.FnScope ["self", "number"] ["self", "number"] (C8.fnScope s_xi_NoMove) := C8.fnScope_by (by decide +kernel)
theorem ix_NoMove : initB (C8.fnBody s_xi_NoMove) = some (("TalkError" : Str), ("number" : Str), ("number" : Str), true) := by kernel_rfl
theorem fx_NoTalker : L2.FnScope ["self", "row"] ["self", "row"] (C8.fnScope s_xi_NoTalker) := C8.fnScope_by (by decide +kernel)
theorem ix_NoTalker : initB (C8.fnBody s_xi_NoTalker) = some (("TalkError" : Str), ("row" : Str), ("row" : Str), true) := by kernel_rfl
theorem fx_NoPaper : L2.FnScope ["self", "row"] ["self", "row"] (C8.fnScope s_xi_NoPaper) := C8.fnScope_by (by decide +kernel)
theorem ix_NoPaper : initB (C8.fnBody s_xi_NoPaper) = some (("TalkError" : Str), ("row" : Str), ("row" : Str), true) := by kernel_rfl
theorem fx_NoWeb : L2.FnScope ["self", "world"] ["self", "world"] (C8.fnScope s_xi_NoWeb) := C8.fnScope_by (by decide +kernel)
theorem ix_NoWeb : initB (C8.fnBody s_xi_NoWeb) = some (("TalkError" : Str), ("world" : Str), ("world" : Str), true) := by kernel_rfl
theorem fx_NoName : L2.FnScope ["self", "name"] ["self", "name"] (C8.fnScope s_xi_NoName) := C8.fnScope_by (by decide +kernel)
theorem ix_NoName : initB (C8.fnBody s_xi_NoName) = some (("TalkError" : Str), ("name" : Str), ("name" : Str), false) := by kernel_rfl
theorem all_mk {w : World} {K : PySem.W.Frag} {mg : Str → Option Value} {fa : Addr} {h : Heap} (X : K.In h) (G : h.Ns mainGlobals mg) (hfa : mg "law" = some (.ref fa)) {X0 : Addr}
    {X1 : Addr}
    {X2 : Addr}
    {X3 : Addr}
    {X4 : Addr}
    {X5 : Addr}
    {X6 : Addr}
    {X7 : Addr}
    {X8 : Addr}
    {X9 : Addr}
    {X10 : Addr}
    {xf2 : Addr} {xoc2 xkV2 xdc2 xpm2 xcv2 xct2 : Value} {xod2 xan2 : Option Addr} {xsl2 : Array (Option Value)}
    {xnm2 xqn2 : Str} {xN2 : Addr} {xbs2 : List Value} {xsn2 : List Str} {xsub2 : List Value} {xab2 : Bool} {xcol2 : Option Bool} {xdd2 : Option Addr} {xm02 xm12 xm22 xm32 xm52 : Option Value}
    {xf4 : Addr} {xoc4 xkV4 xdc4 xpm4 xcv4 xct4 : Value} {xod4 xan4 : Option Addr} {xsl4 : Array (Option Value)}
    {xnm4 xqn4 : Str} {xN4 : Addr} {xbs4 : List Value} {xsn4 : List Str} {xsub4 : List Value} {xab4 : Bool} {xcol4 : Option Bool} {xdd4 : Option Addr} {xm04 xm14 xm24 xm34 xm54 : Option Value}
    {xf6 : Addr} {xoc6 xkV6 xdc6 xpm6 xcv6 xct6 : Value} {xod6 xan6 : Option Addr} {xsl6 : Array (Option Value)}
    {xnm6 xqn6 : Str} {xN6 : Addr} {xbs6 : List Value} {xsn6 : List Str} {xsub6 : List Value} {xab6 : Bool} {xcol6 : Option Bool} {xdd6 : Option Addr} {xm06 xm16 xm26 xm36 xm56 : Option Value}
    {xf7 : Addr} {xoc7 xkV7 xdc7 xpm7 xcv7 xct7 : Value} {xod7 xan7 : Option Addr} {xsl7 : Array (Option Value)}
    {xnm7 xqn7 : Str} {xN7 : Addr} {xbs7 : List Value} {xsn7 : List Str} {xsub7 : List Value} {xab7 : Bool} {xcol7 : Option Bool} {xdd7 : Option Addr} {xm07 xm17 xm27 xm37 xm57 : Option Value}
    {xf8 : Addr} {xoc8 xkV8 xdc8 xpm8 xcv8 xct8 : Value} {xod8 xan8 : Option Addr} {xsl8 : Array (Option Value)}
    {xnm8 xqn8 : Str} {xN8 : Addr} {xbs8 : List Value} {xsn8 : List Str} {xsub8 : List Value} {xab8 : Bool} {xcol8 : Option Bool} {xdd8 : Option Addr} {xm08 xm18 xm28 xm38 xm58 : Option Value}
    {xf10 : Addr} {xoc10 xkV10 xdc10 xpm10 xcv10 xct10 : Value} {xod10 xan10 : Option Addr} {xsl10 : Array (Option Value)}
    {xnm10 xqn10 : Str} {xN10 : Addr} {xbs10 : List Value} {xsn10 : List Str} {xsub10 : List Value} {xab10 : Bool} {xcol10 : Option Bool} {xdd10 : Option Addr} {xm010 xm110 xm210 xm310 xm510 : Option Value}
    {f1 : Addr} {oc1 kV1 dc1 pm1 cv1 ct1 : Value} {od1 an1 : Option Addr} {sl1 : Array (Option Value)}
    {f2 : Addr} {oc2 kV2 dc2 pm2 cv2 ct2 : Value} {od2 an2 : Option Addr} {sl2 : Array (Option Value)}
    {f3 : Addr} {oc3 kV3 dc3 pm3 cv3 ct3 : Value} {od3 an3 : Option Addr} {sl3 : Array (Option Value)}
    {f4 : Addr} {oc4 kV4 dc4 pm4 cv4 ct4 : Value} {od4 an4 : Option Addr} {sl4 : Array (Option Value)}
    {f5 : Addr} {oc5 kV5 dc5 pm5 cv5 ct5 : Value} {od5 an5 : Option Addr} {sl5 : Array (Option Value)}
    {f6 : Addr} {oc6 kV6 dc6 pm6 cv6 ct6 : Value} {od6 an6 : Option Addr} {sl6 : Array (Option Value)}
    {f7 : Addr} {oc7 kV7 dc7 pm7 cv7 ct7 : Value} {od7 an7 : Option Addr} {sl7 : Array (Option Value)}
    (xa0 : PySem.W.nsIn K mainGlobals "TalkError" = some (some (.ref X0)))
    (xv0 : (EV.tyNames.all fun a => decide (PySem.W.kitOne K (.type a) (Value.ref X0) = some false)) = true)
    (xa1 : PySem.W.nsIn K mainGlobals "NoText" = some (some (.ref X1)))
    (xv1 : (EV.tyNames.all fun a => decide (PySem.W.kitOne K (.type a) (Value.ref X1) = some false)) = true)
    (xa2 : PySem.W.nsIn K mainGlobals "NoBook" = some (some (.ref X2)))
    (xv2 : (EV.tyNames.all fun a => decide (PySem.W.kitOne K (.type a) (Value.ref X2) = some false)) = true)
    (xa3 : PySem.W.nsIn K mainGlobals "NotLet" = some (some (.ref X3)))
    (xv3 : (EV.tyNames.all fun a => decide (PySem.W.kitOne K (.type a) (Value.ref X3) = some false)) = true)
    (xa4 : PySem.W.nsIn K mainGlobals "NoMove" = some (some (.ref X4)))
    (xv4 : (EV.tyNames.all fun a => decide (PySem.W.kitOne K (.type a) (Value.ref X4) = some false)) = true)
    (xa5 : PySem.W.nsIn K mainGlobals "NoPlan" = some (some (.ref X5)))
    (xv5 : (EV.tyNames.all fun a => decide (PySem.W.kitOne K (.type a) (Value.ref X5) = some false)) = true)
    (xa6 : PySem.W.nsIn K mainGlobals "NoTalker" = some (some (.ref X6)))
    (xv6 : (EV.tyNames.all fun a => decide (PySem.W.kitOne K (.type a) (Value.ref X6) = some false)) = true)
    (xa7 : PySem.W.nsIn K mainGlobals "NoPaper" = some (some (.ref X7)))
    (xv7 : (EV.tyNames.all fun a => decide (PySem.W.kitOne K (.type a) (Value.ref X7) = some false)) = true)
    (xa8 : PySem.W.nsIn K mainGlobals "NoWeb" = some (some (.ref X8)))
    (xv8 : (EV.tyNames.all fun a => decide (PySem.W.kitOne K (.type a) (Value.ref X8) = some false)) = true)
    (xa9 : PySem.W.nsIn K mainGlobals "NoRow" = some (some (.ref X9)))
    (xv9 : (EV.tyNames.all fun a => decide (PySem.W.kitOne K (.type a) (Value.ref X9) = some false)) = true)
    (xa10 : PySem.W.nsIn K mainGlobals "NoName" = some (some (.ref X10)))
    (xv10 : (EV.tyNames.all fun a => decide (PySem.W.kitOne K (.type a) (Value.ref X10) = some false)) = true)
    (xa11 : PySem.W.nsIn K mainGlobals "ValueError" = some none)
    (xv11 : (EV.tyNames.all fun a => decide (PySem.W.kitOne K (.type a) (Value.type "ValueError") = some false)) = true)
    (xg1 : PySem.W.findIn K (.ref X1) "__getattribute__" = some (some (.builtin "BaseException.__getattribute__")))
    (xh1 : PySem.W.findIn K (.ref X1) "__getattr__" = some none)
    (xs1 : PySem.W.subIn K (.ref X1) (.type "BaseException") = some true)
    (xd1 : PySem.W.hasDictIn K X1 = true)
    (xc1 : PySem.W.findIn K (.ref X1) "__class__" = some (some (.builtin "object.__class__")))
    (xn1 : PySem.W.specialIn K (.builtin "object.__class__") "__get__" = some (some (.builtin "getset_descriptor.__get__")))
    (xt1 : PySem.W.takesIn K (.builtin "object.__class__") = some true)
    (xm1 : PySem.W.mroIn K X1 (.type "object") = some true)
    (xk1 : PySem.W.keepIn K (.ref X1) = true)
    (xi1 : PySem.W.excIn K X1 [.type "ValueError", .type "Exception", .type "BaseException", .type "object"] "ValueError.__new__" = true)
    (xy1 : PySem.W.typeIn K (.ref X1) = some (.type "type"))
    (xo1_0 : PySem.W.kitOne K (.ref X1) (Value.ref X0) = some true)
    (xe1_0 : PySem.W.exmOne K (.ref X1) (Value.ref X0) = some true)
    (xo1_1 : PySem.W.kitOne K (.ref X1) (Value.ref X1) = some true)
    (xe1_1 : PySem.W.exmOne K (.ref X1) (Value.ref X1) = some true)
    (xo1_2 : PySem.W.kitOne K (.ref X1) (Value.ref X2) = some false)
    (xe1_2 : PySem.W.exmOne K (.ref X1) (Value.ref X2) = some false)
    (xo1_3 : PySem.W.kitOne K (.ref X1) (Value.ref X3) = some false)
    (xe1_3 : PySem.W.exmOne K (.ref X1) (Value.ref X3) = some false)
    (xo1_4 : PySem.W.kitOne K (.ref X1) (Value.ref X4) = some false)
    (xe1_4 : PySem.W.exmOne K (.ref X1) (Value.ref X4) = some false)
    (xo1_5 : PySem.W.kitOne K (.ref X1) (Value.ref X5) = some false)
    (xe1_5 : PySem.W.exmOne K (.ref X1) (Value.ref X5) = some false)
    (xo1_6 : PySem.W.kitOne K (.ref X1) (Value.ref X6) = some false)
    (xe1_6 : PySem.W.exmOne K (.ref X1) (Value.ref X6) = some false)
    (xo1_7 : PySem.W.kitOne K (.ref X1) (Value.ref X7) = some false)
    (xe1_7 : PySem.W.exmOne K (.ref X1) (Value.ref X7) = some false)
    (xo1_8 : PySem.W.kitOne K (.ref X1) (Value.ref X8) = some false)
    (xe1_8 : PySem.W.exmOne K (.ref X1) (Value.ref X8) = some false)
    (xo1_9 : PySem.W.kitOne K (.ref X1) (Value.ref X9) = some false)
    (xe1_9 : PySem.W.exmOne K (.ref X1) (Value.ref X9) = some false)
    (xo1_10 : PySem.W.kitOne K (.ref X1) (Value.ref X10) = some false)
    (xe1_10 : PySem.W.exmOne K (.ref X1) (Value.ref X10) = some false)
    (xo1_11 : PySem.W.kitOne K (.ref X1) (Value.type "ValueError") = some true)
    (xe1_11 : PySem.W.exmOne K (.ref X1) (Value.type "ValueError") = some true)
    (xg2 : PySem.W.findIn K (.ref X2) "__getattribute__" = some (some (.builtin "BaseException.__getattribute__")))
    (xh2 : PySem.W.findIn K (.ref X2) "__getattr__" = some none)
    (xs2 : PySem.W.subIn K (.ref X2) (.type "BaseException") = some true)
    (xd2 : PySem.W.hasDictIn K X2 = true)
    (xc2 : PySem.W.findIn K (.ref X2) "__class__" = some (some (.builtin "object.__class__")))
    (xn2 : PySem.W.specialIn K (.builtin "object.__class__") "__get__" = some (some (.builtin "getset_descriptor.__get__")))
    (xt2 : PySem.W.takesIn K (.builtin "object.__class__") = some true)
    (xm2 : PySem.W.mroIn K X2 (.type "object") = some true)
    (xk2 : PySem.W.keepIn K (.ref X2) = true)
    (xq2 : PySem.W.findIn K (.ref X2) "__init__" = some (some (.ref xf2)))
    (xu2 : PySem.W.typeIn K (.ref xf2) = some (.type "function"))
    (xl2 : K.lookup xf2 = some ⟨xoc2, xod2, .func (PySem.W.fnOf "__init__" "NoBook.__init__" (C8.fnArgs s_xi_NoBook) (C8.fnBody s_xi_NoBook) (C8.fnScope s_xi_NoBook) .none xkV2 xdc2 xpm2 xan2 xcv2 xct2), xsl2⟩)
    (xw2 : PySem.W.codeIn K xcv2 "NoBook.__init__" = true)
    (xz2 : K.lookup X2 = some (excClassObj xnm2 xqn2 X2 xN2 xbs2 [.ref X0, .type "ValueError", .type "Exception", .type "BaseException", .type "object"] true xsn2 xsub2 xab2 xcol2 xdd2 xm02 xm12 xm22 xm32 xm52 "ValueError.__new__"))
    (xsa2 : PySem.W.findIn K (.ref X2) "__setattr__" = some (some (.builtin "object.__setattr__")))
    (xff2 : PySem.W.findIn K (.ref X2) "row" = some none)
    (xr10 : PySem.W.readsIn K X0 (.type "type") = true)
    (xr20 : PySem.W.specialIn K (.ref X0) "__getattribute__" = some (some (.builtin "type.__getattribute__")))
    (xr30 : PySem.W.findCls K (.ref X0) (.type "type") "__init__" = some (.val (.builtin "ValueError.__init__")))
    (xy2 : PySem.W.typeIn K (.ref X2) = some (.type "type"))
    (xo2_0 : PySem.W.kitOne K (.ref X2) (Value.ref X0) = some true)
    (xe2_0 : PySem.W.exmOne K (.ref X2) (Value.ref X0) = some true)
    (xo2_1 : PySem.W.kitOne K (.ref X2) (Value.ref X1) = some false)
    (xe2_1 : PySem.W.exmOne K (.ref X2) (Value.ref X1) = some false)
    (xo2_2 : PySem.W.kitOne K (.ref X2) (Value.ref X2) = some true)
    (xe2_2 : PySem.W.exmOne K (.ref X2) (Value.ref X2) = some true)
    (xo2_3 : PySem.W.kitOne K (.ref X2) (Value.ref X3) = some false)
    (xe2_3 : PySem.W.exmOne K (.ref X2) (Value.ref X3) = some false)
    (xo2_4 : PySem.W.kitOne K (.ref X2) (Value.ref X4) = some false)
    (xe2_4 : PySem.W.exmOne K (.ref X2) (Value.ref X4) = some false)
    (xo2_5 : PySem.W.kitOne K (.ref X2) (Value.ref X5) = some false)
    (xe2_5 : PySem.W.exmOne K (.ref X2) (Value.ref X5) = some false)
    (xo2_6 : PySem.W.kitOne K (.ref X2) (Value.ref X6) = some false)
    (xe2_6 : PySem.W.exmOne K (.ref X2) (Value.ref X6) = some false)
    (xo2_7 : PySem.W.kitOne K (.ref X2) (Value.ref X7) = some false)
    (xe2_7 : PySem.W.exmOne K (.ref X2) (Value.ref X7) = some false)
    (xo2_8 : PySem.W.kitOne K (.ref X2) (Value.ref X8) = some false)
    (xe2_8 : PySem.W.exmOne K (.ref X2) (Value.ref X8) = some false)
    (xo2_9 : PySem.W.kitOne K (.ref X2) (Value.ref X9) = some false)
    (xe2_9 : PySem.W.exmOne K (.ref X2) (Value.ref X9) = some false)
    (xo2_10 : PySem.W.kitOne K (.ref X2) (Value.ref X10) = some false)
    (xe2_10 : PySem.W.exmOne K (.ref X2) (Value.ref X10) = some false)
    (xo2_11 : PySem.W.kitOne K (.ref X2) (Value.type "ValueError") = some true)
    (xe2_11 : PySem.W.exmOne K (.ref X2) (Value.type "ValueError") = some true)
    (xg3 : PySem.W.findIn K (.ref X3) "__getattribute__" = some (some (.builtin "BaseException.__getattribute__")))
    (xh3 : PySem.W.findIn K (.ref X3) "__getattr__" = some none)
    (xs3 : PySem.W.subIn K (.ref X3) (.type "BaseException") = some true)
    (xd3 : PySem.W.hasDictIn K X3 = true)
    (xc3 : PySem.W.findIn K (.ref X3) "__class__" = some (some (.builtin "object.__class__")))
    (xn3 : PySem.W.specialIn K (.builtin "object.__class__") "__get__" = some (some (.builtin "getset_descriptor.__get__")))
    (xt3 : PySem.W.takesIn K (.builtin "object.__class__") = some true)
    (xm3 : PySem.W.mroIn K X3 (.type "object") = some true)
    (xk3 : PySem.W.keepIn K (.ref X3) = true)
    (xi3 : PySem.W.excIn K X3 [.type "ValueError", .type "Exception", .type "BaseException", .type "object"] "ValueError.__new__" = true)
    (xy3 : PySem.W.typeIn K (.ref X3) = some (.type "type"))
    (xo3_0 : PySem.W.kitOne K (.ref X3) (Value.ref X0) = some true)
    (xe3_0 : PySem.W.exmOne K (.ref X3) (Value.ref X0) = some true)
    (xo3_1 : PySem.W.kitOne K (.ref X3) (Value.ref X1) = some false)
    (xe3_1 : PySem.W.exmOne K (.ref X3) (Value.ref X1) = some false)
    (xo3_2 : PySem.W.kitOne K (.ref X3) (Value.ref X2) = some false)
    (xe3_2 : PySem.W.exmOne K (.ref X3) (Value.ref X2) = some false)
    (xo3_3 : PySem.W.kitOne K (.ref X3) (Value.ref X3) = some true)
    (xe3_3 : PySem.W.exmOne K (.ref X3) (Value.ref X3) = some true)
    (xo3_4 : PySem.W.kitOne K (.ref X3) (Value.ref X4) = some false)
    (xe3_4 : PySem.W.exmOne K (.ref X3) (Value.ref X4) = some false)
    (xo3_5 : PySem.W.kitOne K (.ref X3) (Value.ref X5) = some false)
    (xe3_5 : PySem.W.exmOne K (.ref X3) (Value.ref X5) = some false)
    (xo3_6 : PySem.W.kitOne K (.ref X3) (Value.ref X6) = some false)
    (xe3_6 : PySem.W.exmOne K (.ref X3) (Value.ref X6) = some false)
    (xo3_7 : PySem.W.kitOne K (.ref X3) (Value.ref X7) = some false)
    (xe3_7 : PySem.W.exmOne K (.ref X3) (Value.ref X7) = some false)
    (xo3_8 : PySem.W.kitOne K (.ref X3) (Value.ref X8) = some false)
    (xe3_8 : PySem.W.exmOne K (.ref X3) (Value.ref X8) = some false)
    (xo3_9 : PySem.W.kitOne K (.ref X3) (Value.ref X9) = some false)
    (xe3_9 : PySem.W.exmOne K (.ref X3) (Value.ref X9) = some false)
    (xo3_10 : PySem.W.kitOne K (.ref X3) (Value.ref X10) = some false)
    (xe3_10 : PySem.W.exmOne K (.ref X3) (Value.ref X10) = some false)
    (xo3_11 : PySem.W.kitOne K (.ref X3) (Value.type "ValueError") = some true)
    (xe3_11 : PySem.W.exmOne K (.ref X3) (Value.type "ValueError") = some true)
    (xg4 : PySem.W.findIn K (.ref X4) "__getattribute__" = some (some (.builtin "BaseException.__getattribute__")))
    (xh4 : PySem.W.findIn K (.ref X4) "__getattr__" = some none)
    (xs4 : PySem.W.subIn K (.ref X4) (.type "BaseException") = some true)
    (xd4 : PySem.W.hasDictIn K X4 = true)
    (xc4 : PySem.W.findIn K (.ref X4) "__class__" = some (some (.builtin "object.__class__")))
    (xn4 : PySem.W.specialIn K (.builtin "object.__class__") "__get__" = some (some (.builtin "getset_descriptor.__get__")))
    (xt4 : PySem.W.takesIn K (.builtin "object.__class__") = some true)
    (xm4 : PySem.W.mroIn K X4 (.type "object") = some true)
    (xk4 : PySem.W.keepIn K (.ref X4) = true)
    (xq4 : PySem.W.findIn K (.ref X4) "__init__" = some (some (.ref xf4)))
    (xu4 : PySem.W.typeIn K (.ref xf4) = some (.type "function"))
    (xl4 : K.lookup xf4 = some ⟨xoc4, xod4, .func (PySem.W.fnOf "__init__" "NoMove.__init__" (C8.fnArgs s_xi_NoMove) (C8.fnBody s_xi_NoMove) (C8.fnScope s_xi_NoMove) .none xkV4 xdc4 xpm4 xan4 xcv4 xct4), xsl4⟩)
    (xw4 : PySem.W.codeIn K xcv4 "NoMove.__init__" = true)
    (xz4 : K.lookup X4 = some (excClassObj xnm4 xqn4 X4 xN4 xbs4 [.ref X0, .type "ValueError", .type "Exception", .type "BaseException", .type "object"] true xsn4 xsub4 xab4 xcol4 xdd4 xm04 xm14 xm24 xm34 xm54 "ValueError.__new__"))
    (xsa4 : PySem.W.findIn K (.ref X4) "__setattr__" = some (some (.builtin "object.__setattr__")))
    (xff4 : PySem.W.findIn K (.ref X4) "number" = some none)
    (xy4 : PySem.W.typeIn K (.ref X4) = some (.type "type"))
    (xo4_0 : PySem.W.kitOne K (.ref X4) (Value.ref X0) = some true)
    (xe4_0 : PySem.W.exmOne K (.ref X4) (Value.ref X0) = some true)
    (xo4_1 : PySem.W.kitOne K (.ref X4) (Value.ref X1) = some false)
    (xe4_1 : PySem.W.exmOne K (.ref X4) (Value.ref X1) = some false)
    (xo4_2 : PySem.W.kitOne K (.ref X4) (Value.ref X2) = some false)
    (xe4_2 : PySem.W.exmOne K (.ref X4) (Value.ref X2) = some false)
    (xo4_3 : PySem.W.kitOne K (.ref X4) (Value.ref X3) = some false)
    (xe4_3 : PySem.W.exmOne K (.ref X4) (Value.ref X3) = some false)
    (xo4_4 : PySem.W.kitOne K (.ref X4) (Value.ref X4) = some true)
    (xe4_4 : PySem.W.exmOne K (.ref X4) (Value.ref X4) = some true)
    (xo4_5 : PySem.W.kitOne K (.ref X4) (Value.ref X5) = some false)
    (xe4_5 : PySem.W.exmOne K (.ref X4) (Value.ref X5) = some false)
    (xo4_6 : PySem.W.kitOne K (.ref X4) (Value.ref X6) = some false)
    (xe4_6 : PySem.W.exmOne K (.ref X4) (Value.ref X6) = some false)
    (xo4_7 : PySem.W.kitOne K (.ref X4) (Value.ref X7) = some false)
    (xe4_7 : PySem.W.exmOne K (.ref X4) (Value.ref X7) = some false)
    (xo4_8 : PySem.W.kitOne K (.ref X4) (Value.ref X8) = some false)
    (xe4_8 : PySem.W.exmOne K (.ref X4) (Value.ref X8) = some false)
    (xo4_9 : PySem.W.kitOne K (.ref X4) (Value.ref X9) = some false)
    (xe4_9 : PySem.W.exmOne K (.ref X4) (Value.ref X9) = some false)
    (xo4_10 : PySem.W.kitOne K (.ref X4) (Value.ref X10) = some false)
    (xe4_10 : PySem.W.exmOne K (.ref X4) (Value.ref X10) = some false)
    (xo4_11 : PySem.W.kitOne K (.ref X4) (Value.type "ValueError") = some true)
    (xe4_11 : PySem.W.exmOne K (.ref X4) (Value.type "ValueError") = some true)
    (xg5 : PySem.W.findIn K (.ref X5) "__getattribute__" = some (some (.builtin "BaseException.__getattribute__")))
    (xh5 : PySem.W.findIn K (.ref X5) "__getattr__" = some none)
    (xs5 : PySem.W.subIn K (.ref X5) (.type "BaseException") = some true)
    (xd5 : PySem.W.hasDictIn K X5 = true)
    (xc5 : PySem.W.findIn K (.ref X5) "__class__" = some (some (.builtin "object.__class__")))
    (xn5 : PySem.W.specialIn K (.builtin "object.__class__") "__get__" = some (some (.builtin "getset_descriptor.__get__")))
    (xt5 : PySem.W.takesIn K (.builtin "object.__class__") = some true)
    (xm5 : PySem.W.mroIn K X5 (.type "object") = some true)
    (xk5 : PySem.W.keepIn K (.ref X5) = true)
    (xi5 : PySem.W.excIn K X5 [.type "ValueError", .type "Exception", .type "BaseException", .type "object"] "ValueError.__new__" = true)
    (xy5 : PySem.W.typeIn K (.ref X5) = some (.type "type"))
    (xo5_0 : PySem.W.kitOne K (.ref X5) (Value.ref X0) = some true)
    (xe5_0 : PySem.W.exmOne K (.ref X5) (Value.ref X0) = some true)
    (xo5_1 : PySem.W.kitOne K (.ref X5) (Value.ref X1) = some false)
    (xe5_1 : PySem.W.exmOne K (.ref X5) (Value.ref X1) = some false)
    (xo5_2 : PySem.W.kitOne K (.ref X5) (Value.ref X2) = some false)
    (xe5_2 : PySem.W.exmOne K (.ref X5) (Value.ref X2) = some false)
    (xo5_3 : PySem.W.kitOne K (.ref X5) (Value.ref X3) = some false)
    (xe5_3 : PySem.W.exmOne K (.ref X5) (Value.ref X3) = some false)
    (xo5_4 : PySem.W.kitOne K (.ref X5) (Value.ref X4) = some false)
    (xe5_4 : PySem.W.exmOne K (.ref X5) (Value.ref X4) = some false)
    (xo5_5 : PySem.W.kitOne K (.ref X5) (Value.ref X5) = some true)
    (xe5_5 : PySem.W.exmOne K (.ref X5) (Value.ref X5) = some true)
    (xo5_6 : PySem.W.kitOne K (.ref X5) (Value.ref X6) = some false)
    (xe5_6 : PySem.W.exmOne K (.ref X5) (Value.ref X6) = some false)
    (xo5_7 : PySem.W.kitOne K (.ref X5) (Value.ref X7) = some false)
    (xe5_7 : PySem.W.exmOne K (.ref X5) (Value.ref X7) = some false)
    (xo5_8 : PySem.W.kitOne K (.ref X5) (Value.ref X8) = some false)
    (xe5_8 : PySem.W.exmOne K (.ref X5) (Value.ref X8) = some false)
    (xo5_9 : PySem.W.kitOne K (.ref X5) (Value.ref X9) = some false)
    (xe5_9 : PySem.W.exmOne K (.ref X5) (Value.ref X9) = some false)
    (xo5_10 : PySem.W.kitOne K (.ref X5) (Value.ref X10) = some false)
    (xe5_10 : PySem.W.exmOne K (.ref X5) (Value.ref X10) = some false)
    (xo5_11 : PySem.W.kitOne K (.ref X5) (Value.type "ValueError") = some true)
    (xe5_11 : PySem.W.exmOne K (.ref X5) (Value.type "ValueError") = some true)
    (xg6 : PySem.W.findIn K (.ref X6) "__getattribute__" = some (some (.builtin "BaseException.__getattribute__")))
    (xh6 : PySem.W.findIn K (.ref X6) "__getattr__" = some none)
    (xs6 : PySem.W.subIn K (.ref X6) (.type "BaseException") = some true)
    (xd6 : PySem.W.hasDictIn K X6 = true)
    (xc6 : PySem.W.findIn K (.ref X6) "__class__" = some (some (.builtin "object.__class__")))
    (xn6 : PySem.W.specialIn K (.builtin "object.__class__") "__get__" = some (some (.builtin "getset_descriptor.__get__")))
    (xt6 : PySem.W.takesIn K (.builtin "object.__class__") = some true)
    (xm6 : PySem.W.mroIn K X6 (.type "object") = some true)
    (xk6 : PySem.W.keepIn K (.ref X6) = true)
    (xq6 : PySem.W.findIn K (.ref X6) "__init__" = some (some (.ref xf6)))
    (xu6 : PySem.W.typeIn K (.ref xf6) = some (.type "function"))
    (xl6 : K.lookup xf6 = some ⟨xoc6, xod6, .func (PySem.W.fnOf "__init__" "NoTalker.__init__" (C8.fnArgs s_xi_NoTalker) (C8.fnBody s_xi_NoTalker) (C8.fnScope s_xi_NoTalker) .none xkV6 xdc6 xpm6 xan6 xcv6 xct6), xsl6⟩)
    (xw6 : PySem.W.codeIn K xcv6 "NoTalker.__init__" = true)
    (xz6 : K.lookup X6 = some (excClassObj xnm6 xqn6 X6 xN6 xbs6 [.ref X0, .type "ValueError", .type "Exception", .type "BaseException", .type "object"] true xsn6 xsub6 xab6 xcol6 xdd6 xm06 xm16 xm26 xm36 xm56 "ValueError.__new__"))
    (xsa6 : PySem.W.findIn K (.ref X6) "__setattr__" = some (some (.builtin "object.__setattr__")))
    (xff6 : PySem.W.findIn K (.ref X6) "row" = some none)
    (xy6 : PySem.W.typeIn K (.ref X6) = some (.type "type"))
    (xo6_0 : PySem.W.kitOne K (.ref X6) (Value.ref X0) = some true)
    (xe6_0 : PySem.W.exmOne K (.ref X6) (Value.ref X0) = some true)
    (xo6_1 : PySem.W.kitOne K (.ref X6) (Value.ref X1) = some false)
    (xe6_1 : PySem.W.exmOne K (.ref X6) (Value.ref X1) = some false)
    (xo6_2 : PySem.W.kitOne K (.ref X6) (Value.ref X2) = some false)
    (xe6_2 : PySem.W.exmOne K (.ref X6) (Value.ref X2) = some false)
    (xo6_3 : PySem.W.kitOne K (.ref X6) (Value.ref X3) = some false)
    (xe6_3 : PySem.W.exmOne K (.ref X6) (Value.ref X3) = some false)
    (xo6_4 : PySem.W.kitOne K (.ref X6) (Value.ref X4) = some false)
    (xe6_4 : PySem.W.exmOne K (.ref X6) (Value.ref X4) = some false)
    (xo6_5 : PySem.W.kitOne K (.ref X6) (Value.ref X5) = some false)
    (xe6_5 : PySem.W.exmOne K (.ref X6) (Value.ref X5) = some false)
    (xo6_6 : PySem.W.kitOne K (.ref X6) (Value.ref X6) = some true)
    (xe6_6 : PySem.W.exmOne K (.ref X6) (Value.ref X6) = some true)
    (xo6_7 : PySem.W.kitOne K (.ref X6) (Value.ref X7) = some false)
    (xe6_7 : PySem.W.exmOne K (.ref X6) (Value.ref X7) = some false)
    (xo6_8 : PySem.W.kitOne K (.ref X6) (Value.ref X8) = some false)
    (xe6_8 : PySem.W.exmOne K (.ref X6) (Value.ref X8) = some false)
    (xo6_9 : PySem.W.kitOne K (.ref X6) (Value.ref X9) = some false)
    (xe6_9 : PySem.W.exmOne K (.ref X6) (Value.ref X9) = some false)
    (xo6_10 : PySem.W.kitOne K (.ref X6) (Value.ref X10) = some false)
    (xe6_10 : PySem.W.exmOne K (.ref X6) (Value.ref X10) = some false)
    (xo6_11 : PySem.W.kitOne K (.ref X6) (Value.type "ValueError") = some true)
    (xe6_11 : PySem.W.exmOne K (.ref X6) (Value.type "ValueError") = some true)
    (xg7 : PySem.W.findIn K (.ref X7) "__getattribute__" = some (some (.builtin "BaseException.__getattribute__")))
    (xh7 : PySem.W.findIn K (.ref X7) "__getattr__" = some none)
    (xs7 : PySem.W.subIn K (.ref X7) (.type "BaseException") = some true)
    (xd7 : PySem.W.hasDictIn K X7 = true)
    (xc7 : PySem.W.findIn K (.ref X7) "__class__" = some (some (.builtin "object.__class__")))
    (xn7 : PySem.W.specialIn K (.builtin "object.__class__") "__get__" = some (some (.builtin "getset_descriptor.__get__")))
    (xt7 : PySem.W.takesIn K (.builtin "object.__class__") = some true)
    (xm7 : PySem.W.mroIn K X7 (.type "object") = some true)
    (xk7 : PySem.W.keepIn K (.ref X7) = true)
    (xq7 : PySem.W.findIn K (.ref X7) "__init__" = some (some (.ref xf7)))
    (xu7 : PySem.W.typeIn K (.ref xf7) = some (.type "function"))
    (xl7 : K.lookup xf7 = some ⟨xoc7, xod7, .func (PySem.W.fnOf "__init__" "NoPaper.__init__" (C8.fnArgs s_xi_NoPaper) (C8.fnBody s_xi_NoPaper) (C8.fnScope s_xi_NoPaper) .none xkV7 xdc7 xpm7 xan7 xcv7 xct7), xsl7⟩)
    (xw7 : PySem.W.codeIn K xcv7 "NoPaper.__init__" = true)
    (xz7 : K.lookup X7 = some (excClassObj xnm7 xqn7 X7 xN7 xbs7 [.ref X0, .type "ValueError", .type "Exception", .type "BaseException", .type "object"] true xsn7 xsub7 xab7 xcol7 xdd7 xm07 xm17 xm27 xm37 xm57 "ValueError.__new__"))
    (xsa7 : PySem.W.findIn K (.ref X7) "__setattr__" = some (some (.builtin "object.__setattr__")))
    (xff7 : PySem.W.findIn K (.ref X7) "row" = some none)
    (xy7 : PySem.W.typeIn K (.ref X7) = some (.type "type"))
    (xo7_0 : PySem.W.kitOne K (.ref X7) (Value.ref X0) = some true)
    (xe7_0 : PySem.W.exmOne K (.ref X7) (Value.ref X0) = some true)
    (xo7_1 : PySem.W.kitOne K (.ref X7) (Value.ref X1) = some false)
    (xe7_1 : PySem.W.exmOne K (.ref X7) (Value.ref X1) = some false)
    (xo7_2 : PySem.W.kitOne K (.ref X7) (Value.ref X2) = some false)
    (xe7_2 : PySem.W.exmOne K (.ref X7) (Value.ref X2) = some false)
    (xo7_3 : PySem.W.kitOne K (.ref X7) (Value.ref X3) = some false)
    (xe7_3 : PySem.W.exmOne K (.ref X7) (Value.ref X3) = some false)
    (xo7_4 : PySem.W.kitOne K (.ref X7) (Value.ref X4) = some false)
    (xe7_4 : PySem.W.exmOne K (.ref X7) (Value.ref X4) = some false)
    (xo7_5 : PySem.W.kitOne K (.ref X7) (Value.ref X5) = some false)
    (xe7_5 : PySem.W.exmOne K (.ref X7) (Value.ref X5) = some false)
    (xo7_6 : PySem.W.kitOne K (.ref X7) (Value.ref X6) = some false)
    (xe7_6 : PySem.W.exmOne K (.ref X7) (Value.ref X6) = some false)
    (xo7_7 : PySem.W.kitOne K (.ref X7) (Value.ref X7) = some true)
    (xe7_7 : PySem.W.exmOne K (.ref X7) (Value.ref X7) = some true)
    (xo7_8 : PySem.W.kitOne K (.ref X7) (Value.ref X8) = some false)
    (xe7_8 : PySem.W.exmOne K (.ref X7) (Value.ref X8) = some false)
    (xo7_9 : PySem.W.kitOne K (.ref X7) (Value.ref X9) = some false)
    (xe7_9 : PySem.W.exmOne K (.ref X7) (Value.ref X9) = some false)
    (xo7_10 : PySem.W.kitOne K (.ref X7) (Value.ref X10) = some false)
    (xe7_10 : PySem.W.exmOne K (.ref X7) (Value.ref X10) = some false)
    (xo7_11 : PySem.W.kitOne K (.ref X7) (Value.type "ValueError") = some true)
    (xe7_11 : PySem.W.exmOne K (.ref X7) (Value.type "ValueError") = some true)
    (xg8 : PySem.W.findIn K (.ref X8) "__getattribute__" = some (some (.builtin "BaseException.__getattribute__")))
    (xh8 : PySem.W.findIn K (.ref X8) "__getattr__" = some none)
    (xs8 : PySem.W.subIn K (.ref X8) (.type "BaseException") = some true)
    (xd8 : PySem.W.hasDictIn K X8 = true)
    (xc8 : PySem.W.findIn K (.ref X8) "__class__" = some (some (.builtin "object.__class__")))
    (xn8 : PySem.W.specialIn K (.builtin "object.__class__") "__get__" = some (some (.builtin "getset_descriptor.__get__")))
    (xt8 : PySem.W.takesIn K (.builtin "object.__class__") = some true)
    (xm8 : PySem.W.mroIn K X8 (.type "object") = some true)
    (xk8 : PySem.W.keepIn K (.ref X8) = true)
    (xq8 : PySem.W.findIn K (.ref X8) "__init__" = some (some (.ref xf8)))
    (xu8 : PySem.W.typeIn K (.ref xf8) = some (.type "function"))
    (xl8 : K.lookup xf8 = some ⟨xoc8, xod8, .func (PySem.W.fnOf "__init__" "NoWeb.__init__" (C8.fnArgs s_xi_NoWeb) (C8.fnBody s_xi_NoWeb) (C8.fnScope s_xi_NoWeb) .none xkV8 xdc8 xpm8 xan8 xcv8 xct8), xsl8⟩)
    (xw8 : PySem.W.codeIn K xcv8 "NoWeb.__init__" = true)
    (xz8 : K.lookup X8 = some (excClassObj xnm8 xqn8 X8 xN8 xbs8 [.ref X0, .type "ValueError", .type "Exception", .type "BaseException", .type "object"] true xsn8 xsub8 xab8 xcol8 xdd8 xm08 xm18 xm28 xm38 xm58 "ValueError.__new__"))
    (xsa8 : PySem.W.findIn K (.ref X8) "__setattr__" = some (some (.builtin "object.__setattr__")))
    (xff8 : PySem.W.findIn K (.ref X8) "world" = some none)
    (xy8 : PySem.W.typeIn K (.ref X8) = some (.type "type"))
    (xo8_0 : PySem.W.kitOne K (.ref X8) (Value.ref X0) = some true)
    (xe8_0 : PySem.W.exmOne K (.ref X8) (Value.ref X0) = some true)
    (xo8_1 : PySem.W.kitOne K (.ref X8) (Value.ref X1) = some false)
    (xe8_1 : PySem.W.exmOne K (.ref X8) (Value.ref X1) = some false)
    (xo8_2 : PySem.W.kitOne K (.ref X8) (Value.ref X2) = some false)
    (xe8_2 : PySem.W.exmOne K (.ref X8) (Value.ref X2) = some false)
    (xo8_3 : PySem.W.kitOne K (.ref X8) (Value.ref X3) = some false)
    (xe8_3 : PySem.W.exmOne K (.ref X8) (Value.ref X3) = some false)
    (xo8_4 : PySem.W.kitOne K (.ref X8) (Value.ref X4) = some false)
    (xe8_4 : PySem.W.exmOne K (.ref X8) (Value.ref X4) = some false)
    (xo8_5 : PySem.W.kitOne K (.ref X8) (Value.ref X5) = some false)
    (xe8_5 : PySem.W.exmOne K (.ref X8) (Value.ref X5) = some false)
    (xo8_6 : PySem.W.kitOne K (.ref X8) (Value.ref X6) = some false)
    (xe8_6 : PySem.W.exmOne K (.ref X8) (Value.ref X6) = some false)
    (xo8_7 : PySem.W.kitOne K (.ref X8) (Value.ref X7) = some false)
    (xe8_7 : PySem.W.exmOne K (.ref X8) (Value.ref X7) = some false)
    (xo8_8 : PySem.W.kitOne K (.ref X8) (Value.ref X8) = some true)
    (xe8_8 : PySem.W.exmOne K (.ref X8) (Value.ref X8) = some true)
    (xo8_9 : PySem.W.kitOne K (.ref X8) (Value.ref X9) = some false)
    (xe8_9 : PySem.W.exmOne K (.ref X8) (Value.ref X9) = some false)
    (xo8_10 : PySem.W.kitOne K (.ref X8) (Value.ref X10) = some false)
    (xe8_10 : PySem.W.exmOne K (.ref X8) (Value.ref X10) = some false)
    (xo8_11 : PySem.W.kitOne K (.ref X8) (Value.type "ValueError") = some true)
    (xe8_11 : PySem.W.exmOne K (.ref X8) (Value.type "ValueError") = some true)
    (xg9 : PySem.W.findIn K (.ref X9) "__getattribute__" = some (some (.builtin "BaseException.__getattribute__")))
    (xh9 : PySem.W.findIn K (.ref X9) "__getattr__" = some none)
    (xs9 : PySem.W.subIn K (.ref X9) (.type "BaseException") = some true)
    (xd9 : PySem.W.hasDictIn K X9 = true)
    (xc9 : PySem.W.findIn K (.ref X9) "__class__" = some (some (.builtin "object.__class__")))
    (xn9 : PySem.W.specialIn K (.builtin "object.__class__") "__get__" = some (some (.builtin "getset_descriptor.__get__")))
    (xt9 : PySem.W.takesIn K (.builtin "object.__class__") = some true)
    (xm9 : PySem.W.mroIn K X9 (.type "object") = some true)
    (xk9 : PySem.W.keepIn K (.ref X9) = true)
    (xi9 : PySem.W.excIn K X9 [.type "ValueError", .type "Exception", .type "BaseException", .type "object"] "ValueError.__new__" = true)
    (xy9 : PySem.W.typeIn K (.ref X9) = some (.type "type"))
    (xo9_0 : PySem.W.kitOne K (.ref X9) (Value.ref X0) = some true)
    (xe9_0 : PySem.W.exmOne K (.ref X9) (Value.ref X0) = some true)
    (xo9_1 : PySem.W.kitOne K (.ref X9) (Value.ref X1) = some false)
    (xe9_1 : PySem.W.exmOne K (.ref X9) (Value.ref X1) = some false)
    (xo9_2 : PySem.W.kitOne K (.ref X9) (Value.ref X2) = some false)
    (xe9_2 : PySem.W.exmOne K (.ref X9) (Value.ref X2) = some false)
    (xo9_3 : PySem.W.kitOne K (.ref X9) (Value.ref X3) = some false)
    (xe9_3 : PySem.W.exmOne K (.ref X9) (Value.ref X3) = some false)
    (xo9_4 : PySem.W.kitOne K (.ref X9) (Value.ref X4) = some false)
    (xe9_4 : PySem.W.exmOne K (.ref X9) (Value.ref X4) = some false)
    (xo9_5 : PySem.W.kitOne K (.ref X9) (Value.ref X5) = some false)
    (xe9_5 : PySem.W.exmOne K (.ref X9) (Value.ref X5) = some false)
    (xo9_6 : PySem.W.kitOne K (.ref X9) (Value.ref X6) = some false)
    (xe9_6 : PySem.W.exmOne K (.ref X9) (Value.ref X6) = some false)
    (xo9_7 : PySem.W.kitOne K (.ref X9) (Value.ref X7) = some false)
    (xe9_7 : PySem.W.exmOne K (.ref X9) (Value.ref X7) = some false)
    (xo9_8 : PySem.W.kitOne K (.ref X9) (Value.ref X8) = some false)
    (xe9_8 : PySem.W.exmOne K (.ref X9) (Value.ref X8) = some false)
    (xo9_9 : PySem.W.kitOne K (.ref X9) (Value.ref X9) = some true)
    (xe9_9 : PySem.W.exmOne K (.ref X9) (Value.ref X9) = some true)
    (xo9_10 : PySem.W.kitOne K (.ref X9) (Value.ref X10) = some false)
    (xe9_10 : PySem.W.exmOne K (.ref X9) (Value.ref X10) = some false)
    (xo9_11 : PySem.W.kitOne K (.ref X9) (Value.type "ValueError") = some true)
    (xe9_11 : PySem.W.exmOne K (.ref X9) (Value.type "ValueError") = some true)
    (xg10 : PySem.W.findIn K (.ref X10) "__getattribute__" = some (some (.builtin "BaseException.__getattribute__")))
    (xh10 : PySem.W.findIn K (.ref X10) "__getattr__" = some none)
    (xs10 : PySem.W.subIn K (.ref X10) (.type "BaseException") = some true)
    (xd10 : PySem.W.hasDictIn K X10 = true)
    (xc10 : PySem.W.findIn K (.ref X10) "__class__" = some (some (.builtin "object.__class__")))
    (xn10 : PySem.W.specialIn K (.builtin "object.__class__") "__get__" = some (some (.builtin "getset_descriptor.__get__")))
    (xt10 : PySem.W.takesIn K (.builtin "object.__class__") = some true)
    (xm10 : PySem.W.mroIn K X10 (.type "object") = some true)
    (xk10 : PySem.W.keepIn K (.ref X10) = true)
    (xq10 : PySem.W.findIn K (.ref X10) "__init__" = some (some (.ref xf10)))
    (xu10 : PySem.W.typeIn K (.ref xf10) = some (.type "function"))
    (xl10 : K.lookup xf10 = some ⟨xoc10, xod10, .func (PySem.W.fnOf "__init__" "NoName.__init__" (C8.fnArgs s_xi_NoName) (C8.fnBody s_xi_NoName) (C8.fnScope s_xi_NoName) .none xkV10 xdc10 xpm10 xan10 xcv10 xct10), xsl10⟩)
    (xw10 : PySem.W.codeIn K xcv10 "NoName.__init__" = true)
    (xz10 : K.lookup X10 = some (excClassObj xnm10 xqn10 X10 xN10 xbs10 [.ref X0, .type "ValueError", .type "Exception", .type "BaseException", .type "object"] true xsn10 xsub10 xab10 xcol10 xdd10 xm010 xm110 xm210 xm310 xm510 "ValueError.__new__"))
    (xsa10 : PySem.W.findIn K (.ref X10) "__setattr__" = some (some (.builtin "object.__setattr__")))
    (xff10 : PySem.W.findIn K (.ref X10) "name" = some none)
    (xy10 : PySem.W.typeIn K (.ref X10) = some (.type "type"))
    (xo10_0 : PySem.W.kitOne K (.ref X10) (Value.ref X0) = some true)
    (xe10_0 : PySem.W.exmOne K (.ref X10) (Value.ref X0) = some true)
    (xo10_1 : PySem.W.kitOne K (.ref X10) (Value.ref X1) = some false)
    (xe10_1 : PySem.W.exmOne K (.ref X10) (Value.ref X1) = some false)
    (xo10_2 : PySem.W.kitOne K (.ref X10) (Value.ref X2) = some false)
    (xe10_2 : PySem.W.exmOne K (.ref X10) (Value.ref X2) = some false)
    (xo10_3 : PySem.W.kitOne K (.ref X10) (Value.ref X3) = some false)
    (xe10_3 : PySem.W.exmOne K (.ref X10) (Value.ref X3) = some false)
    (xo10_4 : PySem.W.kitOne K (.ref X10) (Value.ref X4) = some false)
    (xe10_4 : PySem.W.exmOne K (.ref X10) (Value.ref X4) = some false)
    (xo10_5 : PySem.W.kitOne K (.ref X10) (Value.ref X5) = some false)
    (xe10_5 : PySem.W.exmOne K (.ref X10) (Value.ref X5) = some false)
    (xo10_6 : PySem.W.kitOne K (.ref X10) (Value.ref X6) = some false)
    (xe10_6 : PySem.W.exmOne K (.ref X10) (Value.ref X6) = some false)
    (xo10_7 : PySem.W.kitOne K (.ref X10) (Value.ref X7) = some false)
    (xe10_7 : PySem.W.exmOne K (.ref X10) (Value.ref X7) = some false)
    (xo10_8 : PySem.W.kitOne K (.ref X10) (Value.ref X8) = some false)
    (xe10_8 : PySem.W.exmOne K (.ref X10) (Value.ref X8) = some false)
    (xo10_9 : PySem.W.kitOne K (.ref X10) (Value.ref X9) = some false)
    (xe10_9 : PySem.W.exmOne K (.ref X10) (Value.ref X9) = some false)
    (xo10_10 : PySem.W.kitOne K (.ref X10) (Value.ref X10) = some true)
    (xe10_10 : PySem.W.exmOne K (.ref X10) (Value.ref X10) = some true)
    (xo10_11 : PySem.W.kitOne K (.ref X10) (Value.type "ValueError") = some true)
    (xe10_11 : PySem.W.exmOne K (.ref X10) (Value.type "ValueError") = some true)
    (a1 : PySem.W.nsIn K mainGlobals "_law_deal" = some (some (.ref f1)))
    (l1 : K.lookup f1 = some ⟨oc1, od1, .func (PySem.W.fnOf "_law_deal" "_law_deal" (C8.fnArgs s__law_deal) (C8.fnBody s__law_deal) (C8.fnScope s__law_deal) .none kV1 dc1 pm1 an1 cv1 ct1), sl1⟩)
    (c1 : PySem.W.codeIn K cv1 "_law_deal" = true)
    (k1 : PySem.W.keepIn K (.ref f1) = true)
    (a2 : PySem.W.nsIn K mainGlobals "_law_draw" = some (some (.ref f2)))
    (l2 : K.lookup f2 = some ⟨oc2, od2, .func (PySem.W.fnOf "_law_draw" "_law_draw" (C8.fnArgs s__law_draw) (C8.fnBody s__law_draw) (C8.fnScope s__law_draw) .none kV2 dc2 pm2 an2 cv2 ct2), sl2⟩)
    (c2 : PySem.W.codeIn K cv2 "_law_draw" = true)
    (k2 : PySem.W.keepIn K (.ref f2) = true)
    (a3 : PySem.W.nsIn K mainGlobals "_law_names" = some (some (.ref f3)))
    (l3 : K.lookup f3 = some ⟨oc3, od3, .func (PySem.W.fnOf "_law_names" "_law_names" (C8.fnArgs s__law_names) (C8.fnBody s__law_names) (C8.fnScope s__law_names) .none kV3 dc3 pm3 an3 cv3 ct3), sl3⟩)
    (c3 : PySem.W.codeIn K cv3 "_law_names" = true)
    (k3 : PySem.W.keepIn K (.ref f3) = true)
    (a4 : PySem.W.nsIn K mainGlobals "_law_made" = some (some (.ref f4)))
    (l4 : K.lookup f4 = some ⟨oc4, od4, .func (PySem.W.fnOf "_law_made" "_law_made" (C8.fnArgs s__law_made) (C8.fnBody s__law_made) (C8.fnScope s__law_made) .none kV4 dc4 pm4 an4 cv4 ct4), sl4⟩)
    (c4 : PySem.W.codeIn K cv4 "_law_made" = true)
    (k4 : PySem.W.keepIn K (.ref f4) = true)
    (a5 : PySem.W.nsIn K mainGlobals "_law_field" = some (some (.ref f5)))
    (l5 : K.lookup f5 = some ⟨oc5, od5, .func (PySem.W.fnOf "_law_field" "_law_field" (C8.fnArgs s__law_field) (C8.fnBody s__law_field) (C8.fnScope s__law_field) .none kV5 dc5 pm5 an5 cv5 ct5), sl5⟩)
    (c5 : PySem.W.codeIn K cv5 "_law_field" = true)
    (k5 : PySem.W.keepIn K (.ref f5) = true)
    (a6 : PySem.W.nsIn K mainGlobals "_law_sort" = some (some (.ref f6)))
    (l6 : K.lookup f6 = some ⟨oc6, od6, .func (PySem.W.fnOf "_law_sort" "_law_sort" (C8.fnArgs s__law_sort) (C8.fnBody s__law_sort) (C8.fnScope s__law_sort) .none kV6 dc6 pm6 an6 cv6 ct6), sl6⟩)
    (c6 : PySem.W.codeIn K cv6 "_law_sort" = true)
    (k6 : PySem.W.keepIn K (.ref f6) = true)
    (a7 : PySem.W.nsIn K mainGlobals "law" = some (some (.ref f7)))
    (l7 : K.lookup f7 = some ⟨oc7, od7, .func (PySem.W.fnOf "law" "law" (C8.fnArgs s_law) (C8.fnBody s_law) (C8.fnScope s_law) .none kV7 dc7 pm7 an7 cv7 ct7), sl7⟩)
    (c7 : PySem.W.codeIn K cv7 "law" = true)
    (k7 : PySem.W.keepIn K (.ref f7) = true)
    (b0 : PySem.W.nsIn K mainGlobals "len" = some none)
    (b1 : PySem.W.nsIn K mainGlobals "list" = some none)
    (b2 : PySem.W.nsIn K mainGlobals "tuple" = some none)
    (b3 : PySem.W.nsIn K mainGlobals "int" = some none)
    (b4 : PySem.W.nsIn K mainGlobals "str" = some none)
    (b5 : PySem.W.nsIn K mainGlobals "repr" = some none)
    (b6 : PySem.W.nsIn K mainGlobals "sum" = some none)
    (b7 : PySem.W.nsIn K mainGlobals "all" = some none)
    (b8 : PySem.W.nsIn K mainGlobals "any" = some none)
    (b9 : PySem.W.nsIn K mainGlobals "max" = some none)
    (b10 : PySem.W.nsIn K mainGlobals "min" = some none)
    (b11 : PySem.W.nsIn K mainGlobals "sorted" = some none)
    (b12 : PySem.W.nsIn K mainGlobals "dict" = some none)
    (b13 : PySem.W.nsIn K mainGlobals "isinstance" = some none)
    (b14 : PySem.W.nsIn K mainGlobals "range" = some none)
    (b15 : PySem.W.nsIn K mainGlobals "enumerate" = some none)
    (b16 : PySem.W.nsIn K mainGlobals "zip" = some none)
    (b17 : PySem.W.nsIn K mainGlobals "reversed" = some none)
    (b18 : PySem.W.nsIn K mainGlobals "set" = some none)
    (b19 : PySem.W.nsIn K mainGlobals "bool" = some none)
    (nl : noList K = true) (hl : LawTrue PT 100) :
    ∃ fd : FuncData, (∀ (s : Shared) (v : Value), BindsTo s fd ⟨[v], []⟩ [("_law_script", v)]) ∧ ∀ base : Heap, K.In base → base.Ns mainGlobals mg → L2.FnOk PySem.Challenge.rw_talkcourt_k97_refusals_made.prog w K mg base (L2.CX PySem.Challenge.rw_talkcourt_k97_refusals_made.prog w) (2 * 100 + 2) fa fd ["_law_script"] (spLaw K) := by
  obtain rfl : f7 = fa := by
    have e := hfa.symm.trans (PySem.W.mg_of X G a7)
    cases e
    rfl
  have F1 : C8.Fun K "_law_deal" "_law_deal" s__law_deal f1 (PySem.W.fnOf "_law_deal" "_law_deal" (C8.fnArgs s__law_deal) (C8.fnBody s__law_deal) (C8.fnScope s__law_deal) .none kV1 dc1 pm1 an1 cv1 ct1) := ⟨⟨_, _, _, _, _, _, _, _, _, _, rfl, l1, c1⟩⟩
  have D1 : DefOk K (scT n__law_deal s__law_deal) d__law_deal f1 _ ["_law_script", "_law_base"] := ⟨⟨_, _, _, 60, F1, fs__law_deal, rfl, rfl, kb__law_deal⟩, rfl, rfl, bind0 rfl (F1.binds rfl fun _ _ _ _ _ _ us hl => match us, hl with | [_, _], _ => rfl)⟩
  have F2 : C8.Fun K "_law_draw" "_law_draw" s__law_draw f2 (PySem.W.fnOf "_law_draw" "_law_draw" (C8.fnArgs s__law_draw) (C8.fnBody s__law_draw) (C8.fnScope s__law_draw) .none kV2 dc2 pm2 an2 cv2 ct2) := ⟨⟨_, _, _, _, _, _, _, _, _, _, rfl, l2, c2⟩⟩
  have D2 : DefOk K (scT n__law_draw s__law_draw) d__law_draw f2 _ ["_law_deal_here", "_law_many"] := ⟨⟨_, _, _, 60, F2, fs__law_draw, rfl, rfl, kb__law_draw⟩, rfl, rfl, bind0 rfl (F2.binds rfl fun _ _ _ _ _ _ us hl => match us, hl with | [_, _], _ => rfl)⟩
  have F3 : C8.Fun K "_law_names" "_law_names" s__law_names f3 (PySem.W.fnOf "_law_names" "_law_names" (C8.fnArgs s__law_names) (C8.fnBody s__law_names) (C8.fnScope s__law_names) .none kV3 dc3 pm3 an3 cv3 ct3) := ⟨⟨_, _, _, _, _, _, _, _, _, _, rfl, l3, c3⟩⟩
  have D3 : DefOk K (scT n__law_names s__law_names) d__law_names f3 _ ["_law_deal_here", "_law_many"] := ⟨⟨_, _, _, 60, F3, fs__law_names, rfl, rfl, kb__law_names⟩, rfl, rfl, bind0 rfl (F3.binds rfl fun _ _ _ _ _ _ us hl => match us, hl with | [_, _], _ => rfl)⟩
  have F4 : C8.Fun K "_law_made" "_law_made" s__law_made f4 (PySem.W.fnOf "_law_made" "_law_made" (C8.fnArgs s__law_made) (C8.fnBody s__law_made) (C8.fnScope s__law_made) .none kV4 dc4 pm4 an4 cv4 ct4) := ⟨⟨_, _, _, _, _, _, _, _, _, _, rfl, l4, c4⟩⟩
  have D4 : DefOk K (scT n__law_made s__law_made) d__law_made f4 _ ["_law_deal_here"] := ⟨⟨_, _, _, 60, F4, fs__law_made, rfl, rfl, kb__law_made⟩, rfl, rfl, bind0 rfl (F4.binds rfl fun _ _ _ _ _ _ us hl => match us, hl with | [_], _ => rfl)⟩
  have F5 : C8.Fun K "_law_field" "_law_field" s__law_field f5 (PySem.W.fnOf "_law_field" "_law_field" (C8.fnArgs s__law_field) (C8.fnBody s__law_field) (C8.fnScope s__law_field) .none kV5 dc5 pm5 an5 cv5 ct5) := ⟨⟨_, _, _, _, _, _, _, _, _, _, rfl, l5, c5⟩⟩
  have D5 : DefOk K (scT n__law_field s__law_field) d__law_field f5 _ ["_law_k", "_law_one"] := ⟨⟨_, _, _, 60, F5, fs__law_field, rfl, rfl, kb__law_field⟩, rfl, rfl, bind0 rfl (F5.binds rfl fun _ _ _ _ _ _ us hl => match us, hl with | [_, _], _ => rfl)⟩
  have F6 : C8.Fun K "_law_sort" "_law_sort" s__law_sort f6 (PySem.W.fnOf "_law_sort" "_law_sort" (C8.fnArgs s__law_sort) (C8.fnBody s__law_sort) (C8.fnScope s__law_sort) .none kV6 dc6 pm6 an6 cv6 ct6) := ⟨⟨_, _, _, _, _, _, _, _, _, _, rfl, l6, c6⟩⟩
  have D6 : DefOk K (scT n__law_sort s__law_sort) d__law_sort f6 _ ["_law_one"] := ⟨⟨_, _, _, 60, F6, fs__law_sort, rfl, rfl, kb__law_sort⟩, rfl, rfl, bind0 rfl (F6.binds rfl fun _ _ _ _ _ _ us hl => match us, hl with | [_], _ => rfl)⟩
  have F7 : C8.Fun K "law" "law" s_law f7 (PySem.W.fnOf "law" "law" (C8.fnArgs s_law) (C8.fnBody s_law) (C8.fnScope s_law) .none kV7 dc7 pm7 an7 cv7 ct7) := ⟨⟨_, _, _, _, _, _, _, _, _, _, rfl, l7, c7⟩⟩
  have D7 : DefOk K (scT n_law s_law) d_law f7 _ ["_law_script"] := ⟨⟨_, _, _, 60, F7, fs_law, rfl, rfl, kb_law⟩, rfl, rfl, bind0 rfl (F7.binds rfl fun _ _ _ _ _ _ us hl => match us, hl with | [_], _ => rfl)⟩
  have T : Txt w K mg (⟨K, fun c => [].lookup c, KdIs K w, fun cs => ([((["NoText", "TalkError", "ValueError"] : List Str), X1), ((["NoBook", "TalkError", "ValueError"] : List Str), X2), ((["NotLet", "TalkError", "ValueError"] : List Str), X3), ((["NoMove", "TalkError", "ValueError"] : List Str), X4), ((["NoPlan", "TalkError", "ValueError"] : List Str), X5), ((["NoTalker", "TalkError", "ValueError"] : List Str), X6), ((["NoPaper", "TalkError", "ValueError"] : List Str), X7), ((["NoWeb", "TalkError", "ValueError"] : List Str), X8), ((["NoRow", "TalkError", "ValueError"] : List Str), X9), ((["NoName", "TalkError", "ValueError"] : List Str), X10)] : List (List Str × Addr)).lookup cs, fun x => ([(("TalkError" : Str), (Value.ref X0)), (("NoText" : Str), (Value.ref X1)), (("NoBook" : Str), (Value.ref X2)), (("NotLet" : Str), (Value.ref X3)), (("NoMove" : Str), (Value.ref X4)), (("NoPlan" : Str), (Value.ref X5)), (("NoTalker" : Str), (Value.ref X6)), (("NoPaper" : Str), (Value.ref X7)), (("NoWeb" : Str), (Value.ref X8)), (("NoRow" : Str), (Value.ref X9)), (("NoName" : Str), (Value.ref X10)), (("ValueError" : Str), (Value.type "ValueError"))] : List (Str × Value)).lookup x, xtyT, xcsT⟩ : EV.Env) PT fnsT clssT methsT := {
    hfns := fun f hf => fnsOk_mem (l := fnsT) ⟨⟨_, _, _, _, _, rfl, ⟨rfl, rfl, rfl, rfl, rfl⟩, D1, PySem.W.mg_of X G a1, k1⟩, ⟨_, _, _, _, _, rfl, ⟨rfl, rfl, rfl, rfl, rfl⟩, D2, PySem.W.mg_of X G a2, k2⟩, ⟨_, _, _, _, _, rfl, ⟨rfl, rfl, rfl, rfl, rfl⟩, D3, PySem.W.mg_of X G a3, k3⟩, ⟨_, _, _, _, _, rfl, ⟨rfl, rfl, rfl, rfl, rfl⟩, D4, PySem.W.mg_of X G a4, k4⟩, ⟨_, _, _, _, _, rfl, ⟨rfl, rfl, rfl, rfl, rfl⟩, D5, PySem.W.mg_of X G a5, k5⟩, ⟨_, _, _, _, _, rfl, ⟨rfl, rfl, rfl, rfl, rfl⟩, D6, PySem.W.mg_of X G a6, k6⟩, ⟨_, _, _, _, _, rfl, ⟨rfl, rfl, rfl, rfl, rfl⟩, D7, PySem.W.mg_of X G a7, k7⟩, trivial⟩ hf
    hclss := fun f hf => clsOk_mem (l := clssT) trivial hf
    hmths := fun m hm => mthsOk_mem (l := methsT) trivial hm
    glob := fun x d hx => by
      obtain ⟨v, u, k1, k2, k3⟩ := globsOk_mem (K := K) (w := w) (l := constsT) trivial hx
      exact ⟨v, u, k1, k2, fun H F ι => k3 _ H F ι rfl rfl⟩
    blt := fun x hx h1 h2 => bltsOk_mem (l := bltNames) ⟨.inr (.inr (PySem.W.mg_none_of X G b0)), .inr (.inr (PySem.W.mg_none_of X G b1)), .inr (.inr (PySem.W.mg_none_of X G b2)), .inr (.inr (PySem.W.mg_none_of X G b3)), .inr (.inr (PySem.W.mg_none_of X G b4)), .inr (.inr (PySem.W.mg_none_of X G b5)), .inr (.inr (PySem.W.mg_none_of X G b6)), .inr (.inr (PySem.W.mg_none_of X G b7)), .inr (.inr (PySem.W.mg_none_of X G b8)), .inr (.inr (PySem.W.mg_none_of X G b9)), .inr (.inr (PySem.W.mg_none_of X G b10)), .inr (.inr (PySem.W.mg_none_of X G b11)), .inr (.inr (PySem.W.mg_none_of X G b12)), .inr (.inr (PySem.W.mg_none_of X G b13)), .inr (.inr (PySem.W.mg_none_of X G b14)), .inr (.inr (PySem.W.mg_none_of X G b15)), .inr (.inr (PySem.W.mg_none_of X G b16)), .inr (.inr (PySem.W.mg_none_of X G b17)), .inr (.inr (PySem.W.mg_none_of X G b18)), .inr (.inr (PySem.W.mg_none_of X G b19)), trivial⟩ hx h1 h2
    fld := fun c C f hc hf => by cases hc
    xc := fun cs C h => xls_mem (p := fun _ C => ExcC K C) (l := [((["NoText", "TalkError", "ValueError"] : List Str), X1), ((["NoBook", "TalkError", "ValueError"] : List Str), X2), ((["NotLet", "TalkError", "ValueError"] : List Str), X3), ((["NoMove", "TalkError", "ValueError"] : List Str), X4), ((["NoPlan", "TalkError", "ValueError"] : List Str), X5), ((["NoTalker", "TalkError", "ValueError"] : List Str), X6), ((["NoPaper", "TalkError", "ValueError"] : List Str), X7), ((["NoWeb", "TalkError", "ValueError"] : List Str), X8), ((["NoRow", "TalkError", "ValueError"] : List Str), X9), ((["NoName", "TalkError", "ValueError"] : List Str), X10)]) ⟨⟨xg1, xh1, xs1, xd1, xc1, xn1, xt1, xm1⟩, ⟨xg2, xh2, xs2, xd2, xc2, xn2, xt2, xm2⟩, ⟨xg3, xh3, xs3, xd3, xc3, xn3, xt3, xm3⟩, ⟨xg4, xh4, xs4, xd4, xc4, xn4, xt4, xm4⟩, ⟨xg5, xh5, xs5, xd5, xc5, xn5, xt5, xm5⟩, ⟨xg6, xh6, xs6, xd6, xc6, xn6, xt6, xm6⟩, ⟨xg7, xh7, xs7, xd7, xc7, xn7, xt7, xm7⟩, ⟨xg8, xh8, xs8, xd8, xc8, xn8, xt8, xm8⟩, ⟨xg9, xh9, xs9, xd9, xc9, xn9, xt9, xm9⟩, ⟨xg10, xh10, xs10, xd10, xc10, xn10, xt10, xm10⟩, trivial⟩ h
    xf := fun cs C f h hf => xls_mem (p := fun cs C => ∀ f, fldsT.contains (cs.headD Str.empty, f) = true → XfC K C ∧ PySem.W.findIn K (.ref C) f = some none) (l := [((["NoText", "TalkError", "ValueError"] : List Str), X1), ((["NoBook", "TalkError", "ValueError"] : List Str), X2), ((["NotLet", "TalkError", "ValueError"] : List Str), X3), ((["NoMove", "TalkError", "ValueError"] : List Str), X4), ((["NoPlan", "TalkError", "ValueError"] : List Str), X5), ((["NoTalker", "TalkError", "ValueError"] : List Str), X6), ((["NoPaper", "TalkError", "ValueError"] : List Str), X7), ((["NoWeb", "TalkError", "ValueError"] : List Str), X8), ((["NoRow", "TalkError", "ValueError"] : List Str), X9), ((["NoName", "TalkError", "ValueError"] : List Str), X10)]) ⟨(fun f hf => xf_no (by decide +kernel) hf), (fun f hf => xf_one (by decide +kernel) ⟨xg2, xh2, xs2, xd2⟩ xff2 hf), (fun f hf => xf_no (by decide +kernel) hf), (fun f hf => xf_one (by decide +kernel) ⟨xg4, xh4, xs4, xd4⟩ xff4 hf), (fun f hf => xf_no (by decide +kernel) hf), (fun f hf => xf_one (by decide +kernel) ⟨xg6, xh6, xs6, xd6⟩ xff6 hf), (fun f hf => xf_one (by decide +kernel) ⟨xg7, xh7, xs7, xd7⟩ xff7 hf), (fun f hf => xf_one (by decide +kernel) ⟨xg8, xh8, xs8, xd8⟩ xff8 hf), (fun f hf => xf_no (by decide +kernel) hf), (fun f hf => xf_one (by decide +kernel) ⟨xg10, xh10, xs10, xd10⟩ xff10 hf), trivial⟩ h f (show fldsT.contains (cs.headD Str.empty, f) = true from hf)
    xt := fun x u h => xls_mem (p := fun x u => XtOk _ K mg x u) (l := [(("TalkError" : Str), (Value.ref X0)), (("NoText" : Str), (Value.ref X1)), (("NoBook" : Str), (Value.ref X2)), (("NotLet" : Str), (Value.ref X3)), (("NoMove" : Str), (Value.ref X4)), (("NoPlan" : Str), (Value.ref X5)), (("NoTalker" : Str), (Value.ref X6)), (("NoPaper" : Str), (Value.ref X7)), (("NoWeb" : Str), (Value.ref X8)), (("NoRow" : Str), (Value.ref X9)), (("NoName" : Str), (Value.ref X10)), (("ValueError" : Str), (Value.type "ValueError"))]) ⟨⟨⟨.ref _, .own _, rfl⟩, .inl (PySem.W.mg_of X G xa0), by decide, fun cs D h => xls_mem (p := fun cs D => PySem.W.kitOne K (.ref D) (Value.ref X0) = some (cs.contains "TalkError") ∧ PySem.W.exmOne K (.ref D) (Value.ref X0) = some (cs.contains "TalkError")) (l := [((["NoText", "TalkError", "ValueError"] : List Str), X1), ((["NoBook", "TalkError", "ValueError"] : List Str), X2), ((["NotLet", "TalkError", "ValueError"] : List Str), X3), ((["NoMove", "TalkError", "ValueError"] : List Str), X4), ((["NoPlan", "TalkError", "ValueError"] : List Str), X5), ((["NoTalker", "TalkError", "ValueError"] : List Str), X6), ((["NoPaper", "TalkError", "ValueError"] : List Str), X7), ((["NoWeb", "TalkError", "ValueError"] : List Str), X8), ((["NoRow", "TalkError", "ValueError"] : List Str), X9), ((["NoName", "TalkError", "ValueError"] : List Str), X10)]) ⟨⟨xo1_0, xe1_0⟩, ⟨xo2_0, xe2_0⟩, ⟨xo3_0, xe3_0⟩, ⟨xo4_0, xe4_0⟩, ⟨xo5_0, xe5_0⟩, ⟨xo6_0, xe6_0⟩, ⟨xo7_0, xe7_0⟩, ⟨xo8_0, xe8_0⟩, ⟨xo9_0, xe9_0⟩, ⟨xo10_0, xe10_0⟩, trivial⟩ h, fun a ha => of_decide_eq_true (List.all_eq_true.mp xv0 a ha)⟩,
      ⟨⟨.ref _, .own _, rfl⟩, .inl (PySem.W.mg_of X G xa1), by decide, fun cs D h => xls_mem (p := fun cs D => PySem.W.kitOne K (.ref D) (Value.ref X1) = some (cs.contains "NoText") ∧ PySem.W.exmOne K (.ref D) (Value.ref X1) = some (cs.contains "NoText")) (l := [((["NoText", "TalkError", "ValueError"] : List Str), X1), ((["NoBook", "TalkError", "ValueError"] : List Str), X2), ((["NotLet", "TalkError", "ValueError"] : List Str), X3), ((["NoMove", "TalkError", "ValueError"] : List Str), X4), ((["NoPlan", "TalkError", "ValueError"] : List Str), X5), ((["NoTalker", "TalkError", "ValueError"] : List Str), X6), ((["NoPaper", "TalkError", "ValueError"] : List Str), X7), ((["NoWeb", "TalkError", "ValueError"] : List Str), X8), ((["NoRow", "TalkError", "ValueError"] : List Str), X9), ((["NoName", "TalkError", "ValueError"] : List Str), X10)]) ⟨⟨xo1_1, xe1_1⟩, ⟨xo2_1, xe2_1⟩, ⟨xo3_1, xe3_1⟩, ⟨xo4_1, xe4_1⟩, ⟨xo5_1, xe5_1⟩, ⟨xo6_1, xe6_1⟩, ⟨xo7_1, xe7_1⟩, ⟨xo8_1, xe8_1⟩, ⟨xo9_1, xe9_1⟩, ⟨xo10_1, xe10_1⟩, trivial⟩ h, fun a ha => of_decide_eq_true (List.all_eq_true.mp xv1 a ha)⟩,
      ⟨⟨.ref _, .own _, rfl⟩, .inl (PySem.W.mg_of X G xa2), by decide, fun cs D h => xls_mem (p := fun cs D => PySem.W.kitOne K (.ref D) (Value.ref X2) = some (cs.contains "NoBook") ∧ PySem.W.exmOne K (.ref D) (Value.ref X2) = some (cs.contains "NoBook")) (l := [((["NoText", "TalkError", "ValueError"] : List Str), X1), ((["NoBook", "TalkError", "ValueError"] : List Str), X2), ((["NotLet", "TalkError", "ValueError"] : List Str), X3), ((["NoMove", "TalkError", "ValueError"] : List Str), X4), ((["NoPlan", "TalkError", "ValueError"] : List Str), X5), ((["NoTalker", "TalkError", "ValueError"] : List Str), X6), ((["NoPaper", "TalkError", "ValueError"] : List Str), X7), ((["NoWeb", "TalkError", "ValueError"] : List Str), X8), ((["NoRow", "TalkError", "ValueError"] : List Str), X9), ((["NoName", "TalkError", "ValueError"] : List Str), X10)]) ⟨⟨xo1_2, xe1_2⟩, ⟨xo2_2, xe2_2⟩, ⟨xo3_2, xe3_2⟩, ⟨xo4_2, xe4_2⟩, ⟨xo5_2, xe5_2⟩, ⟨xo6_2, xe6_2⟩, ⟨xo7_2, xe7_2⟩, ⟨xo8_2, xe8_2⟩, ⟨xo9_2, xe9_2⟩, ⟨xo10_2, xe10_2⟩, trivial⟩ h, fun a ha => of_decide_eq_true (List.all_eq_true.mp xv2 a ha)⟩,
      ⟨⟨.ref _, .own _, rfl⟩, .inl (PySem.W.mg_of X G xa3), by decide, fun cs D h => xls_mem (p := fun cs D => PySem.W.kitOne K (.ref D) (Value.ref X3) = some (cs.contains "NotLet") ∧ PySem.W.exmOne K (.ref D) (Value.ref X3) = some (cs.contains "NotLet")) (l := [((["NoText", "TalkError", "ValueError"] : List Str), X1), ((["NoBook", "TalkError", "ValueError"] : List Str), X2), ((["NotLet", "TalkError", "ValueError"] : List Str), X3), ((["NoMove", "TalkError", "ValueError"] : List Str), X4), ((["NoPlan", "TalkError", "ValueError"] : List Str), X5), ((["NoTalker", "TalkError", "ValueError"] : List Str), X6), ((["NoPaper", "TalkError", "ValueError"] : List Str), X7), ((["NoWeb", "TalkError", "ValueError"] : List Str), X8), ((["NoRow", "TalkError", "ValueError"] : List Str), X9), ((["NoName", "TalkError", "ValueError"] : List Str), X10)]) ⟨⟨xo1_3, xe1_3⟩, ⟨xo2_3, xe2_3⟩, ⟨xo3_3, xe3_3⟩, ⟨xo4_3, xe4_3⟩, ⟨xo5_3, xe5_3⟩, ⟨xo6_3, xe6_3⟩, ⟨xo7_3, xe7_3⟩, ⟨xo8_3, xe8_3⟩, ⟨xo9_3, xe9_3⟩, ⟨xo10_3, xe10_3⟩, trivial⟩ h, fun a ha => of_decide_eq_true (List.all_eq_true.mp xv3 a ha)⟩,
      ⟨⟨.ref _, .own _, rfl⟩, .inl (PySem.W.mg_of X G xa4), by decide, fun cs D h => xls_mem (p := fun cs D => PySem.W.kitOne K (.ref D) (Value.ref X4) = some (cs.contains "NoMove") ∧ PySem.W.exmOne K (.ref D) (Value.ref X4) = some (cs.contains "NoMove")) (l := [((["NoText", "TalkError", "ValueError"] : List Str), X1), ((["NoBook", "TalkError", "ValueError"] : List Str), X2), ((["NotLet", "TalkError", "ValueError"] : List Str), X3), ((["NoMove", "TalkError", "ValueError"] : List Str), X4), ((["NoPlan", "TalkError", "ValueError"] : List Str), X5), ((["NoTalker", "TalkError", "ValueError"] : List Str), X6), ((["NoPaper", "TalkError", "ValueError"] : List Str), X7), ((["NoWeb", "TalkError", "ValueError"] : List Str), X8), ((["NoRow", "TalkError", "ValueError"] : List Str), X9), ((["NoName", "TalkError", "ValueError"] : List Str), X10)]) ⟨⟨xo1_4, xe1_4⟩, ⟨xo2_4, xe2_4⟩, ⟨xo3_4, xe3_4⟩, ⟨xo4_4, xe4_4⟩, ⟨xo5_4, xe5_4⟩, ⟨xo6_4, xe6_4⟩, ⟨xo7_4, xe7_4⟩, ⟨xo8_4, xe8_4⟩, ⟨xo9_4, xe9_4⟩, ⟨xo10_4, xe10_4⟩, trivial⟩ h, fun a ha => of_decide_eq_true (List.all_eq_true.mp xv4 a ha)⟩,
      ⟨⟨.ref _, .own _, rfl⟩, .inl (PySem.W.mg_of X G xa5), by decide, fun cs D h => xls_mem (p := fun cs D => PySem.W.kitOne K (.ref D) (Value.ref X5) = some (cs.contains "NoPlan") ∧ PySem.W.exmOne K (.ref D) (Value.ref X5) = some (cs.contains "NoPlan")) (l := [((["NoText", "TalkError", "ValueError"] : List Str), X1), ((["NoBook", "TalkError", "ValueError"] : List Str), X2), ((["NotLet", "TalkError", "ValueError"] : List Str), X3), ((["NoMove", "TalkError", "ValueError"] : List Str), X4), ((["NoPlan", "TalkError", "ValueError"] : List Str), X5), ((["NoTalker", "TalkError", "ValueError"] : List Str), X6), ((["NoPaper", "TalkError", "ValueError"] : List Str), X7), ((["NoWeb", "TalkError", "ValueError"] : List Str), X8), ((["NoRow", "TalkError", "ValueError"] : List Str), X9), ((["NoName", "TalkError", "ValueError"] : List Str), X10)]) ⟨⟨xo1_5, xe1_5⟩, ⟨xo2_5, xe2_5⟩, ⟨xo3_5, xe3_5⟩, ⟨xo4_5, xe4_5⟩, ⟨xo5_5, xe5_5⟩, ⟨xo6_5, xe6_5⟩, ⟨xo7_5, xe7_5⟩, ⟨xo8_5, xe8_5⟩, ⟨xo9_5, xe9_5⟩, ⟨xo10_5, xe10_5⟩, trivial⟩ h, fun a ha => of_decide_eq_true (List.all_eq_true.mp xv5 a ha)⟩,
      ⟨⟨.ref _, .own _, rfl⟩, .inl (PySem.W.mg_of X G xa6), by decide, fun cs D h => xls_mem (p := fun cs D => PySem.W.kitOne K (.ref D) (Value.ref X6) = some (cs.contains "NoTalker") ∧ PySem.W.exmOne K (.ref D) (Value.ref X6) = some (cs.contains "NoTalker")) (l := [((["NoText", "TalkError", "ValueError"] : List Str), X1), ((["NoBook", "TalkError", "ValueError"] : List Str), X2), ((["NotLet", "TalkError", "ValueError"] : List Str), X3), ((["NoMove", "TalkError", "ValueError"] : List Str), X4), ((["NoPlan", "TalkError", "ValueError"] : List Str), X5), ((["NoTalker", "TalkError", "ValueError"] : List Str), X6), ((["NoPaper", "TalkError", "ValueError"] : List Str), X7), ((["NoWeb", "TalkError", "ValueError"] : List Str), X8), ((["NoRow", "TalkError", "ValueError"] : List Str), X9), ((["NoName", "TalkError", "ValueError"] : List Str), X10)]) ⟨⟨xo1_6, xe1_6⟩, ⟨xo2_6, xe2_6⟩, ⟨xo3_6, xe3_6⟩, ⟨xo4_6, xe4_6⟩, ⟨xo5_6, xe5_6⟩, ⟨xo6_6, xe6_6⟩, ⟨xo7_6, xe7_6⟩, ⟨xo8_6, xe8_6⟩, ⟨xo9_6, xe9_6⟩, ⟨xo10_6, xe10_6⟩, trivial⟩ h, fun a ha => of_decide_eq_true (List.all_eq_true.mp xv6 a ha)⟩,
      ⟨⟨.ref _, .own _, rfl⟩, .inl (PySem.W.mg_of X G xa7), by decide, fun cs D h => xls_mem (p := fun cs D => PySem.W.kitOne K (.ref D) (Value.ref X7) = some (cs.contains "NoPaper") ∧ PySem.W.exmOne K (.ref D) (Value.ref X7) = some (cs.contains "NoPaper")) (l := [((["NoText", "TalkError", "ValueError"] : List Str), X1), ((["NoBook", "TalkError", "ValueError"] : List Str), X2), ((["NotLet", "TalkError", "ValueError"] : List Str), X3), ((["NoMove", "TalkError", "ValueError"] : List Str), X4), ((["NoPlan", "TalkError", "ValueError"] : List Str), X5), ((["NoTalker", "TalkError", "ValueError"] : List Str), X6), ((["NoPaper", "TalkError", "ValueError"] : List Str), X7), ((["NoWeb", "TalkError", "ValueError"] : List Str), X8), ((["NoRow", "TalkError", "ValueError"] : List Str), X9), ((["NoName", "TalkError", "ValueError"] : List Str), X10)]) ⟨⟨xo1_7, xe1_7⟩, ⟨xo2_7, xe2_7⟩, ⟨xo3_7, xe3_7⟩, ⟨xo4_7, xe4_7⟩, ⟨xo5_7, xe5_7⟩, ⟨xo6_7, xe6_7⟩, ⟨xo7_7, xe7_7⟩, ⟨xo8_7, xe8_7⟩, ⟨xo9_7, xe9_7⟩, ⟨xo10_7, xe10_7⟩, trivial⟩ h, fun a ha => of_decide_eq_true (List.all_eq_true.mp xv7 a ha)⟩,
      ⟨⟨.ref _, .own _, rfl⟩, .inl (PySem.W.mg_of X G xa8), by decide, fun cs D h => xls_mem (p := fun cs D => PySem.W.kitOne K (.ref D) (Value.ref X8) = some (cs.contains "NoWeb") ∧ PySem.W.exmOne K (.ref D) (Value.ref X8) = some (cs.contains "NoWeb")) (l := [((["NoText", "TalkError", "ValueError"] : List Str), X1), ((["NoBook", "TalkError", "ValueError"] : List Str), X2), ((["NotLet", "TalkError", "ValueError"] : List Str), X3), ((["NoMove", "TalkError", "ValueError"] : List Str), X4), ((["NoPlan", "TalkError", "ValueError"] : List Str), X5), ((["NoTalker", "TalkError", "ValueError"] : List Str), X6), ((["NoPaper", "TalkError", "ValueError"] : List Str), X7), ((["NoWeb", "TalkError", "ValueError"] : List Str), X8), ((["NoRow", "TalkError", "ValueError"] : List Str), X9), ((["NoName", "TalkError", "ValueError"] : List Str), X10)]) ⟨⟨xo1_8, xe1_8⟩, ⟨xo2_8, xe2_8⟩, ⟨xo3_8, xe3_8⟩, ⟨xo4_8, xe4_8⟩, ⟨xo5_8, xe5_8⟩, ⟨xo6_8, xe6_8⟩, ⟨xo7_8, xe7_8⟩, ⟨xo8_8, xe8_8⟩, ⟨xo9_8, xe9_8⟩, ⟨xo10_8, xe10_8⟩, trivial⟩ h, fun a ha => of_decide_eq_true (List.all_eq_true.mp xv8 a ha)⟩,
      ⟨⟨.ref _, .own _, rfl⟩, .inl (PySem.W.mg_of X G xa9), by decide, fun cs D h => xls_mem (p := fun cs D => PySem.W.kitOne K (.ref D) (Value.ref X9) = some (cs.contains "NoRow") ∧ PySem.W.exmOne K (.ref D) (Value.ref X9) = some (cs.contains "NoRow")) (l := [((["NoText", "TalkError", "ValueError"] : List Str), X1), ((["NoBook", "TalkError", "ValueError"] : List Str), X2), ((["NotLet", "TalkError", "ValueError"] : List Str), X3), ((["NoMove", "TalkError", "ValueError"] : List Str), X4), ((["NoPlan", "TalkError", "ValueError"] : List Str), X5), ((["NoTalker", "TalkError", "ValueError"] : List Str), X6), ((["NoPaper", "TalkError", "ValueError"] : List Str), X7), ((["NoWeb", "TalkError", "ValueError"] : List Str), X8), ((["NoRow", "TalkError", "ValueError"] : List Str), X9), ((["NoName", "TalkError", "ValueError"] : List Str), X10)]) ⟨⟨xo1_9, xe1_9⟩, ⟨xo2_9, xe2_9⟩, ⟨xo3_9, xe3_9⟩, ⟨xo4_9, xe4_9⟩, ⟨xo5_9, xe5_9⟩, ⟨xo6_9, xe6_9⟩, ⟨xo7_9, xe7_9⟩, ⟨xo8_9, xe8_9⟩, ⟨xo9_9, xe9_9⟩, ⟨xo10_9, xe10_9⟩, trivial⟩ h, fun a ha => of_decide_eq_true (List.all_eq_true.mp xv9 a ha)⟩,
      ⟨⟨.ref _, .own _, rfl⟩, .inl (PySem.W.mg_of X G xa10), by decide, fun cs D h => xls_mem (p := fun cs D => PySem.W.kitOne K (.ref D) (Value.ref X10) = some (cs.contains "NoName") ∧ PySem.W.exmOne K (.ref D) (Value.ref X10) = some (cs.contains "NoName")) (l := [((["NoText", "TalkError", "ValueError"] : List Str), X1), ((["NoBook", "TalkError", "ValueError"] : List Str), X2), ((["NotLet", "TalkError", "ValueError"] : List Str), X3), ((["NoMove", "TalkError", "ValueError"] : List Str), X4), ((["NoPlan", "TalkError", "ValueError"] : List Str), X5), ((["NoTalker", "TalkError", "ValueError"] : List Str), X6), ((["NoPaper", "TalkError", "ValueError"] : List Str), X7), ((["NoWeb", "TalkError", "ValueError"] : List Str), X8), ((["NoRow", "TalkError", "ValueError"] : List Str), X9), ((["NoName", "TalkError", "ValueError"] : List Str), X10)]) ⟨⟨xo1_10, xe1_10⟩, ⟨xo2_10, xe2_10⟩, ⟨xo3_10, xe3_10⟩, ⟨xo4_10, xe4_10⟩, ⟨xo5_10, xe5_10⟩, ⟨xo6_10, xe6_10⟩, ⟨xo7_10, xe7_10⟩, ⟨xo8_10, xe8_10⟩, ⟨xo9_10, xe9_10⟩, ⟨xo10_10, xe10_10⟩, trivial⟩ h, fun a ha => of_decide_eq_true (List.all_eq_true.mp xv10 a ha)⟩,
      ⟨⟨.ty _, .ty _, rfl⟩, .inr ⟨PySem.W.mg_none_of X G xa11, by decide +kernel, by decide⟩, by decide, fun cs D h => xls_mem (p := fun cs D => PySem.W.kitOne K (.ref D) (Value.type "ValueError") = some (cs.contains "ValueError") ∧ PySem.W.exmOne K (.ref D) (Value.type "ValueError") = some (cs.contains "ValueError")) (l := [((["NoText", "TalkError", "ValueError"] : List Str), X1), ((["NoBook", "TalkError", "ValueError"] : List Str), X2), ((["NotLet", "TalkError", "ValueError"] : List Str), X3), ((["NoMove", "TalkError", "ValueError"] : List Str), X4), ((["NoPlan", "TalkError", "ValueError"] : List Str), X5), ((["NoTalker", "TalkError", "ValueError"] : List Str), X6), ((["NoPaper", "TalkError", "ValueError"] : List Str), X7), ((["NoWeb", "TalkError", "ValueError"] : List Str), X8), ((["NoRow", "TalkError", "ValueError"] : List Str), X9), ((["NoName", "TalkError", "ValueError"] : List Str), X10)]) ⟨⟨xo1_11, xe1_11⟩, ⟨xo2_11, xe2_11⟩, ⟨xo3_11, xe3_11⟩, ⟨xo4_11, xe4_11⟩, ⟨xo5_11, xe5_11⟩, ⟨xo6_11, xe6_11⟩, ⟨xo7_11, xe7_11⟩, ⟨xo8_11, xe8_11⟩, ⟨xo9_11, xe9_11⟩, ⟨xo10_11, xe10_11⟩, trivial⟩ h, fun a ha => of_decide_eq_true (List.all_eq_true.mp xv11 a ha)⟩,
      trivial⟩ h
    xtl := fun x h => xls_has (l := [(("TalkError" : Str), (Value.ref X0)), (("NoText" : Str), (Value.ref X1)), (("NoBook" : Str), (Value.ref X2)), (("NotLet" : Str), (Value.ref X3)), (("NoMove" : Str), (Value.ref X4)), (("NoPlan" : Str), (Value.ref X5)), (("NoTalker" : Str), (Value.ref X6)), (("NoPaper" : Str), (Value.ref X7)), (("NoWeb" : Str), (Value.ref X8)), (("NoRow" : Str), (Value.ref X9)), (("NoName" : Str), (Value.ref X10)), (("ValueError" : Str), (Value.type "ValueError"))]) (ks := xtyT) rfl h
    xcl := fun x cs h => xls_mem (p := fun x cs => XcOk _ K mg x cs) (l := xcsT) ⟨⟨⟨X1, _, "ValueError", "ValueError.__new__", "ValueError.__init__", PySem.F.excBase_ValueError, xi1, PySem.W.mg_of X G xa1, xk1, xs1, xy1, rfl⟩, by decide⟩, 
      ⟨⟨X2, xf2, X0, .type "type", _, s_xi_NoBook, _, _, _, ⟨⟨_, _, _, _, _, _, _, _, _, _, _, _, _, _, _, xz2, refs_ve1 _⟩, xsa2, xs2, xy2, xk2⟩, xq2, xu2, ⟨⟨_, _, _, _, _, _, _, _, _, _, rfl, xl2, xw2⟩⟩, C8.Fun.binds (st := s_xi_NoBook) ⟨⟨_, _, _, _, _, _, _, _, _, _, rfl, xl2, xw2⟩⟩ rfl (fun _ _ _ _ _ _ us hl => match us, hl with | [_, _], _ => rfl), fx_NoBook, ix_NoBook, PySem.W.mg_of X G xa2, PySem.W.mg_of X G xa0, ⟨xr10, xr20⟩, xr30, xff2, rfl, by decide +kernel, (fun _ => by decide +kernel), PySem.W.mg_none_of X G b4, by decide +kernel, by decide +kernel⟩, by decide⟩, 
      ⟨⟨X3, _, "ValueError", "ValueError.__new__", "ValueError.__init__", PySem.F.excBase_ValueError, xi3, PySem.W.mg_of X G xa3, xk3, xs3, xy3, rfl⟩, by decide⟩, 
      ⟨⟨X4, xf4, X0, .type "type", _, s_xi_NoMove, _, _, _, ⟨⟨_, _, _, _, _, _, _, _, _, _, _, _, _, _, _, xz4, refs_ve1 _⟩, xsa4, xs4, xy4, xk4⟩, xq4, xu4, ⟨⟨_, _, _, _, _, _, _, _, _, _, rfl, xl4, xw4⟩⟩, C8.Fun.binds (st := s_xi_NoMove) ⟨⟨_, _, _, _, _, _, _, _, _, _, rfl, xl4, xw4⟩⟩ rfl (fun _ _ _ _ _ _ us hl => match us, hl with | [_, _], _ => rfl), fx_NoMove, ix_NoMove, PySem.W.mg_of X G xa4, PySem.W.mg_of X G xa0, ⟨xr10, xr20⟩, xr30, xff4, rfl, by decide +kernel, (fun _ => by decide +kernel), PySem.W.mg_none_of X G b4, by decide +kernel, by decide +kernel⟩, by decide⟩, 
      ⟨⟨X5, _, "ValueError", "ValueError.__new__", "ValueError.__init__", PySem.F.excBase_ValueError, xi5, PySem.W.mg_of X G xa5, xk5, xs5, xy5, rfl⟩, by decide⟩, 
      ⟨⟨X6, xf6, X0, .type "type", _, s_xi_NoTalker, _, _, _, ⟨⟨_, _, _, _, _, _, _, _, _, _, _, _, _, _, _, xz6, refs_ve1 _⟩, xsa6, xs6, xy6, xk6⟩, xq6, xu6, ⟨⟨_, _, _, _, _, _, _, _, _, _, rfl, xl6, xw6⟩⟩, C8.Fun.binds (st := s_xi_NoTalker) ⟨⟨_, _, _, _, _, _, _, _, _, _, rfl, xl6, xw6⟩⟩ rfl (fun _ _ _ _ _ _ us hl => match us, hl with | [_, _], _ => rfl), fx_NoTalker, ix_NoTalker, PySem.W.mg_of X G xa6, PySem.W.mg_of X G xa0, ⟨xr10, xr20⟩, xr30, xff6, rfl, by decide +kernel, (fun _ => by decide +kernel), PySem.W.mg_none_of X G b4, by decide +kernel, by decide +kernel⟩, by decide⟩, 
      ⟨⟨X7, xf7, X0, .type "type", _, s_xi_NoPaper, _, _, _, ⟨⟨_, _, _, _, _, _, _, _, _, _, _, _, _, _, _, xz7, refs_ve1 _⟩, xsa7, xs7, xy7, xk7⟩, xq7, xu7, ⟨⟨_, _, _, _, _, _, _, _, _, _, rfl, xl7, xw7⟩⟩, C8.Fun.binds (st := s_xi_NoPaper) ⟨⟨_, _, _, _, _, _, _, _, _, _, rfl, xl7, xw7⟩⟩ rfl (fun _ _ _ _ _ _ us hl => match us, hl with | [_, _], _ => rfl), fx_NoPaper, ix_NoPaper, PySem.W.mg_of X G xa7, PySem.W.mg_of X G xa0, ⟨xr10, xr20⟩, xr30, xff7, rfl, by decide +kernel, (fun _ => by decide +kernel), PySem.W.mg_none_of X G b4, by decide +kernel, by decide +kernel⟩, by decide⟩, 
      ⟨⟨X8, xf8, X0, .type "type", _, s_xi_NoWeb, _, _, _, ⟨⟨_, _, _, _, _, _, _, _, _, _, _, _, _, _, _, xz8, refs_ve1 _⟩, xsa8, xs8, xy8, xk8⟩, xq8, xu8, ⟨⟨_, _, _, _, _, _, _, _, _, _, rfl, xl8, xw8⟩⟩, C8.Fun.binds (st := s_xi_NoWeb) ⟨⟨_, _, _, _, _, _, _, _, _, _, rfl, xl8, xw8⟩⟩ rfl (fun _ _ _ _ _ _ us hl => match us, hl with | [_, _], _ => rfl), fx_NoWeb, ix_NoWeb, PySem.W.mg_of X G xa8, PySem.W.mg_of X G xa0, ⟨xr10, xr20⟩, xr30, xff8, rfl, by decide +kernel, (fun _ => by decide +kernel), PySem.W.mg_none_of X G b4, by decide +kernel, by decide +kernel⟩, by decide⟩, 
      ⟨⟨X9, _, "ValueError", "ValueError.__new__", "ValueError.__init__", PySem.F.excBase_ValueError, xi9, PySem.W.mg_of X G xa9, xk9, xs9, xy9, rfl⟩, by decide⟩, 
      ⟨⟨X10, xf10, X0, .type "type", _, s_xi_NoName, _, _, _, ⟨⟨_, _, _, _, _, _, _, _, _, _, _, _, _, _, _, xz10, refs_ve1 _⟩, xsa10, xs10, xy10, xk10⟩, xq10, xu10, ⟨⟨_, _, _, _, _, _, _, _, _, _, rfl, xl10, xw10⟩⟩, C8.Fun.binds (st := s_xi_NoName) ⟨⟨_, _, _, _, _, _, _, _, _, _, rfl, xl10, xw10⟩⟩ rfl (fun _ _ _ _ _ _ us hl => match us, hl with | [_, _], _ => rfl), fx_NoName, ix_NoName, PySem.W.mg_of X G xa10, PySem.W.mg_of X G xa0, ⟨xr10, xr20⟩, xr30, xff10, rfl, by decide +kernel, (fun h => (nomatch h)), PySem.W.mg_none_of X G b4, by decide +kernel, by decide +kernel⟩, by decide⟩, 
      trivial⟩ h
    EK := rfl
    kd := fun a kvs h => h }
  exact ⟨_, fun s v => .of_eq rfl, fun base _ _ => law_fn T nl ⟨rfl, rfl, rfl, rfl, rfl⟩ D7 rfl rfl (by decide) hl base⟩
end K97

set_option autoImplicit false
set_option linter.all false
set_option maxRecDepth 100000
set_option maxHeartbeats 4000000
namespace K97
open PySem EV
local macro_rules
  | `(tactic| walk_at $s) => do
    match s.getString.splitOn " " with
    | "ev" :: ns => do
      let ls : Lean.TSyntaxArray `Lean.Parser.Tactic.simpLemma ← ("true_and" :: ns).toArray.mapM fun n => `(Lean.Parser.Tactic.simpLemma| $(Lean.mkIdent n.toName):term)
      `(tactic| simp only [$ls,*, ↓qwp_slot, ↓qwp_con, ↓qwp_glob, ↓qwp_bin, ↓qwp_neg, ↓qwp_not, ↓qwp_notT, ↓qwp_and, ↓qwp_or, ↓qwp_andT, ↓qwp_orT, ↓qwp_cmp, ↓qwp_cmpT, ↓qwp_chain, ↓qwp_chainT, ↓qwp_chain3, ↓qwp_iteE, ↓qwp_iteT, ↓qwp_tup, ↓qwp_lst, ↓qwp_dic, ↓qwp_idx, ↓qwp_sli, ↓qwp_fld, ↓qwp_blt, ↓qwp_isi, ↓qwp_peekL_nil, ↓qwp_peekL_cons, ↓qwp_L_nil, ↓qwp_L_cons, ↓qwp_H_nil, ↓qwp_H_cons, ↓qwp_hand_val, ↓qwp_hand_ref, ↓qwp_hand_lend, ↓qwp_A_nil, ↓qwp_A_cons, ↓qwp_P_nil, ↓qwp_P_cons, ↓qwp_O_none, ↓qwp_O_some,
  ↓qwpT_con, ↓qwpT_slot, ↓qwpT_idx, ↓qwpT_bin, ↓qwpT_fld, ↓qwpT_call, ↓qwpT_meth, ↓qwpT_blt, ↓qwpT_isi, ↓qwp_call, ↓qwp_make, ↓qwp_meth, ↓qwp_append, ↓qwp_pop0, ↓qwp_pop1, ↓qwp_remove, ↓qwp_insert, ↓qwp_clear, ↓qwp_reverse, ↓qwp_extend, ↓qwp_get2, ↓qwp_join, ↓qwp_split, ↓qwp_get1, ↓qwp_index, ↓qwp_count, ↓qwp_find2, ↓qwp_replace2, ↓qwp_strip, ↓qwp_upper,
  ↓qwp_B_nil, ↓qwp_B_cons, qthenB_next, qthenB_ret, qthenB_brk, qthenB_cont, qstepF_next, qstepF_cont, qstepF_brk, qstepF_ret, qthenF_next, qthenF_cont, qthenF_brk, qthenF_ret, ↓reduceIte, ↓qwp_asg, ↓qwp_subS, ↓qwp_attr, ↓qwp_augattr, ↓qwp_expr, ↓qwp_ret, ↓qwp_raise, ↓qwp_raise1, ↓qwp_exc0, ↓qwp_exc1, ↓qwp_try, ↓qwp_retn, ↓qwp_if, ↓qwp_brk, ↓qwp_cont, ↓qwp_pass, ↓qwp_for, ↓qwp_while, ↓qwp_I_val, ↓qwp_I_range, ↓qwp_I_enum, ↓qwp_I_zip, ↓qwp_I_rev, ↓qwp_G_slot, ↓qwp_G_tup, ↓qwp_GL_nil, ↓qwp_GL_cons, ↓qwp_noexc, ↓qwp_comp, ↓qwp_Ts_nil, ↓qwp_Ts_cons,
  ↓qwp_peek_loc, ↓qwp_peek_ref, ↓qwp_peek_v, ↓qwp_esc_loc, ↓qwp_esc_v, ↓qwp_give_loc, ↓qwp_give_v, ↓qwp_cell_loc, ↓qwp_cell_f, ↓qwp_cell_t, ↓qwp_chg_loc, ↓qwp_chg_ref, ↓qwp_set, ↓qwp_lock_loc, ↓qwp_lock_v,
  slotA, qrdS_sh, qrdS_own, qrdS_lock, qrdS_bor, qpkS_own, qpkS_lock, qpkS_bor, qescS_own, qlkS_own, qlkS_lock, qlkS_bor, qctO_sh, qctO_own, qctO_lock, qctO_bor, qwpA_nil, qwpA_loc, qwpA_v, qwpo_some, qwpo_none, vl_non, nl_non, mut_non, vl_bl, nl_bl, mut_bl, vl_int, nl_int, mut_int, vl_str, nl_str, mut_str, vl_tup, nl_tup, mut_tup, vl_lst, nl_lst, mut_lst, vl_dic, nl_dic, mut_dic, vl_kon, nl_kon, mut_kon, vl_ins, nl_ins, mut_ins, vl_exn, nl_exn, mut_exn, vl_ref, nl_ref, mut_ref, vl_loc, nl_loc, mut_loc, intO, blO, List.getElem?_cons_zero, List.getElem?_cons_succ, List.set_cons_zero, List.set_cons_succ, setQ_eq, List.length_cons, List.length_nil, List.cons_append, List.nil_append, Bool.false_and, Bool.and_false, Bool.true_and, Bool.and_true, if_true, if_false, ite_true, ite_false, Bool.false_eq_true, true_and, and_true, Nat.zero_add, ofString_inj, String.reduceEq, eqv_str, eqv_int, eqv_bl, eqv_tup, eqv_lst, eqv_non, eqv_non_str, eqv_str_non, eqv_non_tup, eqv_tup_non, eqv_str_tup, eqv_tup_str, eqvL_nil, eqvL_cons, eqvL_nc, eqvL_cn, fk_str, fk_int, bin_add_int, bin_sub_int, bin_mul_r, bin_mul_l, small, Int.reduceNeg, Int.reducePow, Int.reduceLT, Int.reduceLE, Nat.reduceLT, Nat.reduceLeDiff, Nat.reduceAdd, Int.reduceAdd, Int.reduceSub, Nat.reduceSub, bin_mod_int, bin_fdiv_int, bin_pow_int, bin_add_str, bin_add_lst, bin_add_tup, bin_mul_lst, bin_mul_tup, isNon_non, isNon_str, isNon_tup, isNon_lst, isNon_int, isNon_bl, cmp_eq, cmp_ne, cmp_lt_int, cmp_gt_int, cmp_le_int, cmp_ge_int, cmp_lt_str, cmp_in, cmp_notin, cmp_is_non, cmp_isnot_non, cmp_is_bl, cmp_isnot_bl, eqOk_int, eqOk_str, eqOk_bl, eqOk_non, eqOk_non_str, eqOk_str_non, truth_non, truth_bl, truth_int, truth_str, truth_tup, truth_lst, truth_dic, idx_lst, idx_tup, idx_str, idx_dic_str, idx_kon_str, look_cons, look_nil, sli_lst, sli_tup, sli_str, len_lst, len_tup, len_dic, len_str, list_lst, list_tup, tuple_lst, tuple_tup, int_int, int_bl, sum_lst, all_lst, any_lst, max2_int, min2_int, listrev_lst, sorted_lst, sorted_tup, sortedset_lst, sortedset_tup, bmTy_append, bmTy_pop0, bmTy_pop1, bmTy_extend, bmTy_index, bmTy_join, bmTy_get1, bmTy_get2, ch_append, ch_pop0, ch_extend, apD_lst, popD_lst, exD_lst, storeAt_lst, storeAt_dic, walk_lst, walk_tup, onlyL_lst, zip_lst, zip_tup, tupD_tup, tupD_lst, map_some', map_none', decide_true, decide_false, decide_eq_true_eq, List.length_map, Bool.and_eq_true, and_self, lineN, putKey_eq, hasKey_cons, hasKey_nil, putVals_cons, putVals_nil, putAll_cons, putAll_nil, in_tup, in_lst, in_dic, in_kon, inD_cons, inD_nil, flat_str, flat_int, flat_bl, flat_non, List.all_cons, List.all_nil, Bool.or_true, Bool.true_or, Bool.false_or, Bool.or_false, Bool.not_true, Bool.not_false, Bool.and_self, lockS_none, lockS_sh, lockS_own, lockS_bor, lockS_lock, fresh_nil, fresh_cons, unlockW_nil, unlockW_cons, ownS_some, ownFree_nil, ownFree_cons, freeS_none, freeS_sh, TL.len, wipeS_nil, wipeS_cons, unwipe_nil, unwipe_cons, getA_len, setA_len, fldopI_ins, stF, md__law_deal_0, md__law_deal_1, md__law_draw_0, md__law_draw_1, md__law_names_0, md__law_names_1, md__law_made_0, md__law_field_0, md__law_field_1, md__law_sort_0, md_law_0, km_seed, km_number, km_left, putFld_cons, putFld_nil])
    | _ => Lean.Macro.throwUnsupported
def wordsL : List D := [.str "and", .str "or", .str "not", .str "then"]
def letters : Str := "abcdefghijklmnopqrstuvwxyz"
def letS (c : Nat) : Bool := !(Builtin.Str.occurrences letters ⟨#[c]⟩ 0 letters.length 1).isEmpty
theorem in_str {s t : Str} : inOp (.str s) (.str t) = some (!(Builtin.Str.occurrences t s 0 t.length 1).isEmpty) := rfl
theorem at_0 {d : D} {l : List D} : L2.atI (d :: l) 0 = some d := by
  have := atI_nat (l := d :: l) (n := 0)
  simpa using this

end K97

set_option autoImplicit false
set_option linter.all false
set_option maxRecDepth 100000
set_option maxHeartbeats 4000000
namespace K97
open PySem EV
local macro_rules
  | `(tactic| walk_at $s) => do
    match s.getString.splitOn " " with
    | "ev" :: ns => do
      let ls : Lean.TSyntaxArray `Lean.Parser.Tactic.simpLemma ← ("true_and" :: ns).toArray.mapM fun n => `(Lean.Parser.Tactic.simpLemma| $(Lean.mkIdent n.toName):term)
      `(tactic| simp only [$ls,*, ↓qwp_slot, ↓qwp_con, ↓qwp_glob, ↓qwp_bin, ↓qwp_neg, ↓qwp_not, ↓qwp_notT, ↓qwp_and, ↓qwp_or, ↓qwp_andT, ↓qwp_orT, ↓qwp_cmp, ↓qwp_cmpT, ↓qwp_chain, ↓qwp_chainT, ↓qwp_chain3, ↓qwp_iteE, ↓qwp_iteT, ↓qwp_tup, ↓qwp_lst, ↓qwp_dic, ↓qwp_idx, ↓qwp_sli, ↓qwp_fld, ↓qwp_blt, ↓qwp_isi, ↓qwp_peekL_nil, ↓qwp_peekL_cons, ↓qwp_L_nil, ↓qwp_L_cons, ↓qwp_H_nil, ↓qwp_H_cons, ↓qwp_hand_val, ↓qwp_hand_ref, ↓qwp_hand_lend, ↓qwp_A_nil, ↓qwp_A_cons, ↓qwp_P_nil, ↓qwp_P_cons, ↓qwp_O_none, ↓qwp_O_some,
  ↓qwpT_con, ↓qwpT_slot, ↓qwpT_idx, ↓qwpT_bin, ↓qwpT_fld, ↓qwpT_call, ↓qwpT_meth, ↓qwpT_blt, ↓qwpT_isi, ↓qwp_call, ↓qwp_make, ↓qwp_meth, ↓qwp_append, ↓qwp_pop0, ↓qwp_pop1, ↓qwp_remove, ↓qwp_insert, ↓qwp_clear, ↓qwp_reverse, ↓qwp_extend, ↓qwp_get2, ↓qwp_join, ↓qwp_split, ↓qwp_get1, ↓qwp_index, ↓qwp_count, ↓qwp_find2, ↓qwp_replace2, ↓qwp_strip, ↓qwp_upper,
  ↓qwp_B_nil, ↓qwp_B_cons, qthenB_next, qthenB_ret, qthenB_brk, qthenB_cont, qstepF_next, qstepF_cont, qstepF_brk, qstepF_ret, qthenF_next, qthenF_cont, qthenF_brk, qthenF_ret, ↓reduceIte, ↓qwp_asg, ↓qwp_subS, ↓qwp_attr, ↓qwp_augattr, ↓qwp_expr, ↓qwp_ret, ↓qwp_raise, ↓qwp_raise1, ↓qwp_exc0, ↓qwp_exc1, ↓qwp_try, ↓qwp_retn, ↓qwp_if, ↓qwp_brk, ↓qwp_cont, ↓qwp_pass, ↓qwp_for, ↓qwp_while, ↓qwp_I_val, ↓qwp_I_range, ↓qwp_I_enum, ↓qwp_I_zip, ↓qwp_I_rev, ↓qwp_G_slot, ↓qwp_G_tup, ↓qwp_GL_nil, ↓qwp_GL_cons, ↓qwp_noexc, ↓qwp_comp, ↓qwp_Ts_nil, ↓qwp_Ts_cons,
  ↓qwp_peek_loc, ↓qwp_peek_ref, ↓qwp_peek_v, ↓qwp_esc_loc, ↓qwp_esc_v, ↓qwp_give_loc, ↓qwp_give_v, ↓qwp_cell_loc, ↓qwp_cell_f, ↓qwp_cell_t, ↓qwp_chg_loc, ↓qwp_chg_ref, ↓qwp_set, ↓qwp_lock_loc, ↓qwp_lock_v,
  slotA, qrdS_sh, qrdS_own, qrdS_lock, qrdS_bor, qpkS_own, qpkS_lock, qpkS_bor, qescS_own, qlkS_own, qlkS_lock, qlkS_bor, qctO_sh, qctO_own, qctO_lock, qctO_bor, qwpA_nil, qwpA_loc, qwpA_v, qwpo_some, qwpo_none, vl_non, nl_non, mut_non, vl_bl, nl_bl, mut_bl, vl_int, nl_int, mut_int, vl_str, nl_str, mut_str, vl_tup, nl_tup, mut_tup, vl_lst, nl_lst, mut_lst, vl_dic, nl_dic, mut_dic, vl_kon, nl_kon, mut_kon, vl_ins, nl_ins, mut_ins, vl_exn, nl_exn, mut_exn, vl_ref, nl_ref, mut_ref, vl_loc, nl_loc, mut_loc, intO, blO, List.getElem?_cons_zero, List.getElem?_cons_succ, List.set_cons_zero, List.set_cons_succ, setQ_eq, List.length_cons, List.length_nil, List.cons_append, List.nil_append, Bool.false_and, Bool.and_false, Bool.true_and, Bool.and_true, if_true, if_false, ite_true, ite_false, Bool.false_eq_true, true_and, and_true, Nat.zero_add, ofString_inj, String.reduceEq, eqv_str, eqv_int, eqv_bl, eqv_tup, eqv_lst, eqv_non, eqv_non_str, eqv_str_non, eqv_non_tup, eqv_tup_non, eqv_str_tup, eqv_tup_str, eqvL_nil, eqvL_cons, eqvL_nc, eqvL_cn, fk_str, fk_int, bin_add_int, bin_sub_int, bin_mul_r, bin_mul_l, small, Int.reduceNeg, Int.reducePow, Int.reduceLT, Int.reduceLE, Nat.reduceLT, Nat.reduceLeDiff, Nat.reduceAdd, Int.reduceAdd, Int.reduceSub, Nat.reduceSub, bin_mod_int, bin_fdiv_int, bin_pow_int, bin_add_str, bin_add_lst, bin_add_tup, bin_mul_lst, bin_mul_tup, isNon_non, isNon_str, isNon_tup, isNon_lst, isNon_int, isNon_bl, cmp_eq, cmp_ne, cmp_lt_int, cmp_gt_int, cmp_le_int, cmp_ge_int, cmp_lt_str, cmp_in, cmp_notin, cmp_is_non, cmp_isnot_non, cmp_is_bl, cmp_isnot_bl, eqOk_int, eqOk_str, eqOk_bl, eqOk_non, eqOk_non_str, eqOk_str_non, truth_non, truth_bl, truth_int, truth_str, truth_tup, truth_lst, truth_dic, idx_lst, idx_tup, idx_str, idx_dic_str, idx_kon_str, look_cons, look_nil, sli_lst, sli_tup, sli_str, len_lst, len_tup, len_dic, len_str, list_lst, list_tup, tuple_lst, tuple_tup, int_int, int_bl, sum_lst, all_lst, any_lst, max2_int, min2_int, listrev_lst, sorted_lst, sorted_tup, sortedset_lst, sortedset_tup, bmTy_append, bmTy_pop0, bmTy_pop1, bmTy_extend, bmTy_index, bmTy_join, bmTy_get1, bmTy_get2, ch_append, ch_pop0, ch_extend, apD_lst, popD_lst, exD_lst, storeAt_lst, storeAt_dic, walk_lst, walk_tup, onlyL_lst, zip_lst, zip_tup, tupD_tup, tupD_lst, map_some', map_none', decide_true, decide_false, decide_eq_true_eq, List.length_map, Bool.and_eq_true, and_self, lineN, putKey_eq, hasKey_cons, hasKey_nil, putVals_cons, putVals_nil, putAll_cons, putAll_nil, in_tup, in_lst, in_dic, in_kon, inD_cons, inD_nil, flat_str, flat_int, flat_bl, flat_non, List.all_cons, List.all_nil, Bool.or_true, Bool.true_or, Bool.false_or, Bool.or_false, Bool.not_true, Bool.not_false, Bool.and_self, lockS_none, lockS_sh, lockS_own, lockS_bor, lockS_lock, fresh_nil, fresh_cons, unlockW_nil, unlockW_cons, ownS_some, ownFree_nil, ownFree_cons, freeS_none, freeS_sh, TL.len, wipeS_nil, wipeS_cons, unwipe_nil, unwipe_cons, getA_len, setA_len, fldopI_ins, stF, md__law_deal_0, md__law_deal_1, md__law_draw_0, md__law_draw_1, md__law_names_0, md__law_names_1, md__law_made_0, md__law_field_0, md__law_field_1, md__law_sort_0, md_law_0, km_seed, km_number, km_left, putFld_cons, putFld_nil])
    | _ => Lean.Macro.throwUnsupported
/-! ### names -/
def LtC (c : Nat) : Prop := 97 ≤ c ∧ c ≤ 122
theorem ltC_in {c : Nat} (h : LtC c) : letS c = true := by
  have : ∀ i, i < 26 → letS (97 + i) = true := by decide +kernel
  obtain ⟨h1, h2⟩ := h
  have := this (c - 97) (by omega)
  rwa [show 97 + (c - 97) = c by omega] at this
def Ls (s : Str) (n : Nat) : Prop := (∀ c ∈ s.cps.toList, LtC c) ∧ s.length ≤ n
theorem Ls.app {s t : Str} {n m : Nat} (h : Ls s n) (k : Ls t m) : Ls (s ++ t) (n + m) := by
  refine ⟨fun c hc => ?_, ?_⟩
  · have e : (s ++ t).cps.toList = s.cps.toList ++ t.cps.toList := by
      show (s.cps ++ t.cps).toList = _
      simp
    rw [e] at hc
    exact (List.mem_append.mp hc).elim (h.1 c) (k.1 c)
  · have e : (s ++ t).length = s.length + t.length := by
      show (s.cps ++ t.cps).size = _
      simp [Str.length]
    rw [e]
    exact Nat.add_le_add h.2 k.2
theorem app_len {s t : Str} : (s ++ t).length = s.length + t.length := by
  show (s.cps ++ t.cps).size = _
  simp [Str.length]
theorem Ls.one {c : Nat} (h : LtC c) : Ls ⟨#[c]⟩ 1 := ⟨fun x hx => by simp at hx; rw [hx]; exact h, Nat.le_refl 1⟩
theorem Ls.sub {s : Str} {l : List Nat} {n : Nat} (h : Ls s n) (hl : ∀ c ∈ l, c ∈ s.cps.toList) (hn : l.length ≤ n) : Ls ⟨l.toArray⟩ n := ⟨fun c hc => h.1 c (hl c (by simpa using hc)), by show l.toArray.size ≤ n; simpa using hn⟩
def NameOk (s : Str) : Prop := Ls s 6 ∧ 1 ≤ s.length ∧ inD (.str s) wordsL = false
def Nm5 (s : Str) : Prop := Ls s 5 ∧ 1 ≤ s.length ∧ inD (.str s) wordsL = false
theorem Nm5.ok {s : Str} (h : Nm5 s) : NameOk s := ⟨⟨h.1.1, Nat.le_trans h.1.2 (by decide)⟩, h.2⟩
/-- no word of the four ends so -/
theorem snoc_words {s : Str} {c : Nat} (hc : c ≠ 100 ∧ c ≠ 114 ∧ c ≠ 116 ∧ c ≠ 110) : inD (.str (s ++ ⟨#[c]⟩)) wordsL = false := by
  have e : (s ++ (⟨#[c]⟩ : Str)).cps.toList.getLast? = some c := by
    show (s.cps ++ #[c]).toList.getLast? = some c
    simp
  have no : ∀ w : Str, w.cps.toList.getLast? ≠ some c → decide (w = s ++ ⟨#[c]⟩) = false := fun w hw => decide_eq_false fun h => hw (by rw [h]; exact e)
  show (decide ((Str.ofString "and") = s ++ ⟨#[c]⟩) || (decide ((Str.ofString "or") = s ++ ⟨#[c]⟩) || (decide ((Str.ofString "not") = s ++ ⟨#[c]⟩) || (decide ((Str.ofString "then") = s ++ ⟨#[c]⟩) || false)))) = false
  have w1 : (Str.ofString "and").cps.toList.getLast? = some 100 := by decide +kernel
  have w2 : (Str.ofString "or").cps.toList.getLast? = some 114 := by decide +kernel
  have w3 : (Str.ofString "not").cps.toList.getLast? = some 116 := by decide +kernel
  have w4 : (Str.ofString "then").cps.toList.getLast? = some 110 := by decide +kernel
  rw [no _ (by rw [w1]; intro h; cases h; exact hc.1 rfl), no _ (by rw [w2]; intro h; cases h; exact hc.2.1 rfl), no _ (by rw [w3]; intro h; cases h; exact hc.2.2.1 rfl), no _ (by rw [w4]; intro h; cases h; exact hc.2.2.2 rfl)]
  rfl
theorem let_at {i : Int} (h0 : 0 ≤ i) (h1 : i < 26) : (L2.atI letters.cps.toList i).map (fun c => D.str ⟨#[c]⟩) = some (.str ⟨#[97 + i.toNat]⟩) := by
  have : ∀ j : Nat, j < 26 → letters.cps.toList[j]? = some (97 + j) := by decide +kernel
  obtain ⟨j, rfl⟩ : ∃ j : Nat, i = (j : Int) := ⟨i.toNat, by omega⟩
  rw [atI_nat, this j (by omega)]
  rfl
theorem let_ok {i : Int} (h0 : 0 ≤ i) (h1 : i < 26) : LtC (97 + i.toNat) := ⟨by omega, by omega⟩
theorem letters_len : letters.length = 26 := by decide +kernel
theorem strsD_map : ∀ {l : List Str}, strsD (l.map .str) = some l
  | [] => rfl
  | s :: l => by
    show (strsD (l.map .str)).map (s :: ·) = _
    rw [strsD_map]
    rfl
theorem join_ls : ∀ {cs : List Nat}, (∀ c ∈ cs, LtC c) → Ls (Str.join (Str.ofString "") (cs.map fun c => ⟨#[c]⟩)) cs.length
  | [], _ => ⟨fun c hc => (by cases hc), Nat.le_refl 0⟩
  | [c], h => Ls.one (h c (by simp))
  | c :: c' :: cs, h => by
    have ih := join_ls (cs := c' :: cs) fun x hx => h x (List.mem_cons_of_mem _ hx)
    have e : Str.join (Str.ofString "") ((c :: c' :: cs).map fun c => (⟨#[c]⟩ : Str)) = (⟨#[c]⟩ : Str) ++ Str.ofString "" ++ Str.join (Str.ofString "") ((c' :: cs).map fun c => (⟨#[c]⟩ : Str)) := rfl
    rw [e]
    have z0 : (Str.ofString "").cps.toList = [] := by decide +kernel
    have z : Ls (Str.ofString "") 0 := ⟨fun c hc => (by rw [z0] at hc; cases hc), by decide +kernel⟩
    have := ((Ls.one (h c (by simp))).app z).app ih
    rw [List.length_cons]
    refine ⟨this.1, Nat.le_trans this.2 (by omega)⟩
theorem join_bm {ss : List Str} (h : (ss.map (·.length)).sum + ss.length * (Str.ofString "").length ≤ 16777216) : bmop .join (.str "") [.lst (ss.map .str)] = some (.str (Str.join "" ss), false) := by
  show (((some (ss.map D.str)).bind strsD).bind fun l => if (l.map (·.length)).sum + l.length * (Str.ofString "").length ≤ line then some (D.str (Txt.join "" l), false) else none) = _
  rw [show ((some (ss.map D.str)).bind strsD) = some ss from strsD_map]
  show (if (ss.map (·.length)).sum + ss.length * (Str.ofString "").length ≤ line then some (D.str (Txt.join "" ss), false) else none) = _
  rw [if_pos (by rw [lineN]; exact h), _root_.TL.join_eq]
theorem sum_ones : ∀ {cs : List Nat}, ((cs.map fun c => (⟨#[c]⟩ : Str)).map (·.length)).sum = cs.length
  | [] => rfl
  | c :: cs => by
    rw [List.map_cons, List.map_cons, List.sum_cons, sum_ones, List.length_cons]
    show 1 + cs.length = _
    omega
theorem setAt_0 {x v : D} {l : List D} : setAt (x :: l) 0 v = some (v :: l) := by
  show (L2.ixN (l.length + 1) 0).map _ = _
  unfold L2.ixN
  rw [if_pos (by decide), if_pos (by omega)]
  rfl
theorem names_ok {k : Nat} {d : Deal} (ho : d.Ok) {m : Nat} (hm1 : 1 ≤ m) (hm3 : m ≤ 4) : ∃ (ns : List Str) (d' : Deal), callN PT (k + 2) "_law_names" [(.ref 1, .sh), (.int (m : Int), .sh)] d.S = .ok (.lst (ns.map .str), true) d'.S ∧ ns.length = m ∧ (∀ s ∈ ns, NameOk s) ∧ d'.Ok := by
  suffices h : wq (callN PT (k + 2) "_law_names" [(.ref 1, .sh), (.int (m : Int), .sh)] d.S) (fun h S' => ∃ (ns : List Str) (d' : Deal), h = (.lst (ns.map .str), true) ∧ S' = d'.S ∧ ns.length = m ∧ (∀ s ∈ ns, NameOk s) ∧ d'.Ok) (fun _ _ => False) by
    obtain ⟨a, s, e, ns, d', rfl, rfl, h⟩ := wq_get h
    exact ⟨ns, d', e, h⟩
  rw [qwp_def df__law_names rfl]
  show wq (exB (cfg PT (k + 1)) b__law_names ⟨[some (.ref 1, .sh), some (.int (m : Int), .sh), none, none, none, none, none, none, none], d.S⟩) _ _
  unfold b__law_names
  walk_at "ev"
  rw [show (Str.ofString "abcdefghijklmnopqrstuvwxyz") = letters from rfl]
  unfold b__law_names_1
  walk_at "ev"
  unfold b__law_names_2
  walk_at "ev"
  obtain ⟨r, d1, e, h0, h1, ho1⟩ := draw1 df__law_draw (by decide) k d ho 5 (by decide) (by decide)
  rw [wq_of e]
  obtain ⟨n5, rfl⟩ : ∃ j : Nat, r = (j : Int) := ⟨r.toNat, by omega⟩
  have hrg : rangeop [.int (n5 : Int)] = some (rangeD 0 n5) := by
    show (if bnd (n5 : Int) = true then some (rangeD 0 n5) else none) = _
    rw [if_pos (by unfold bnd; simp; omega)]
  walk_at "ev hrg"
  have hrl : (rangeD 0 (n5 : Int)).length = n5 := by simp [rangeD]
  have l26 : letters.length ≤ 16777216 := by decide +kernel
  refine qcomp_rule (fun i acc S => ∃ (d' : Deal) (cs : List Nat), d'.Ok ∧ S = d'.S ∧ cs.length = i ∧ (∀ c ∈ cs, LtC c) ∧ acc = (cs.map fun c => (⟨#[c]⟩ : Str)).map .str) ⟨d1, [], ho1, rfl, rfl, fun _ h => (by cases h), rfl⟩ ?_ ?_
  · rintro i dd acc S hi ⟨d', cs, ho', rfl, hl, hc, rfl⟩
    have hil : i < n5 := by
      have := (List.getElem?_eq_some_iff.mp hi).1
      omega
    obtain ⟨z, rfl⟩ : ∃ z, dd = .int z := by
      have := List.mem_of_getElem? hi
      obtain ⟨q, _, rfl⟩ := List.mem_map.mp this
      exact ⟨_, rfl⟩
    walk_at "ev"
    obtain ⟨r, d2, e, h0, h1, ho2⟩ := draw1 df__law_draw (by decide) k d' ho' 26 (by decide) (by decide)
    rw [wq_of e]
    have a2 := let_at h0 h1
    walk_at "ev if_pos l26 a2"
    refine ⟨by omega, d2, cs ++ [97 + r.toNat], ho2, rfl, by simp [hl], fun c hcc => ?_, by simp⟩
    rcases List.mem_append.mp hcc with h | h
    · exact hc c h
    · simp at h
      rw [h]
      exact let_ok h0 h1
  · rintro acc ⟨ρ, S⟩ hu ⟨d2, cs, ho2, hS, hl, hc, rfl⟩
    have hS : S = d2.S := hS
    subst hS
    dsimp only at hu ⊢
    rw [hu]
    have hj := join_bm (ss := cs.map fun c => (⟨#[c]⟩ : Str)) (by rw [sum_ones, List.length_map, show (Str.ofString "").length = 0 from by decide +kernel]; omega)
    walk_at "ev hj"
    have hcore := join_ls hc
    generalize hco : Str.join (Str.ofString "") (cs.map fun c => (⟨#[c]⟩ : Str)) = core at hcore ⊢
    have hc4 : Ls core 4 := ⟨hcore.1, Nat.le_trans hcore.2 (by omega)⟩
    have hcl : core.length ≤ 16777216 := Nat.le_trans hc4.2 (by decide)
    clear hj hco hcore hu hl
    unfold b__law_names_3
    walk_at "ev if_pos hcl"
    obtain ⟨r, d3, e, h0, h1, ho3⟩ := draw1 df__law_draw (by decide) k d2 ho2 ((core.length : Int) + 1) (by omega) (by have := hc4.2; omega)
    rw [wq_of e]
    obtain ⟨at_, rfl⟩ : ∃ j : Nat, r = (j : Int) := ⟨r.toNat, by omega⟩
    walk_at "ev"
    unfold b__law_names_4
    walk_at "ev"
    obtain ⟨turn, d4, e, t0, t1, ho4⟩ := draw1 df__law_draw (by decide) k d3 ho3 26 (by decide) (by decide)
    rw [wq_of e]
    walk_at "ev"
    unfold b__law_names_5
    have hrg2 : rangeop [.int (m : Int)] = some (rangeD 0 m) := by
      show (if bnd (m : Int) = true then some (rangeD 0 m) else none) = _
      rw [if_pos (by unfold bnd; simp; omega)]
    walk_at "ev hrg2"
    have hrl2 : (rangeD 0 (m : Int)).length = m := by simp [rangeD]
    refine qfor_rule (fun i s => ∃ (ns : List Str) (x7 x8 : Slot), lockS x7 = false ∧ lockS x8 = false ∧ ns.length = i ∧ (∀ s ∈ ns, Nm5 s) ∧
      s = ⟨[some (.ref 1, .sh), some (.int (m : Int), .sh), some (.str letters, .sh), some (.lst (ns.map .str), .own), some (.str core, .sh), some (.int (at_ : Int), .sh), some (.int turn, .sh), x7, x8], d4.S⟩)
      ⟨[], none, none, rfl, rfl, rfl, fun _ h => (by cases h), rfl⟩ ?_ ?_
    · rintro i dd s hi ⟨ns, x7, x8, k7, k8, hl, hns, rfl⟩
      have him : i < m := by
        have := (List.getElem?_eq_some_iff.mp hi).1
        omega
      obtain ⟨z, hz, rfl⟩ : ∃ z : Nat, z < m ∧ dd = .int (z : Int) := by
        have := List.mem_of_getElem? hi
        obtain ⟨q, hq, rfl⟩ := List.mem_map.mp this
        have := List.mem_range.mp hq
        exact ⟨q, by simpa using this, by simp⟩
      have q0 := Int.emod_nonneg (turn + 7 * (z : Int)) (show (26 : Int) ≠ 0 by decide)
      have q1 := Int.emod_lt_of_pos (turn + 7 * (z : Int)) (show (0 : Int) < 26 by decide)
      have a2 := let_at q0 q1
      have lo := let_ok q0 q1
      generalize hw : (turn + 7 * (z : Int)) % 26 = w at *
      have c1 : cut core.cps.toList none (some (at_ : Int)) = core.cps.toList.take at_ := cut_0n
      have c2 : cut core.cps.toList (some (at_ : Int)) none = core.cps.toList.drop at_ := cut_n0
      have la : Ls ⟨(core.cps.toList.take at_).toArray⟩ at_ := ⟨fun c hc => hc4.1 c (List.mem_of_mem_take (by simpa using hc)), by show (core.cps.toList.take at_).toArray.size ≤ at_; simp; omega⟩
      have lb : Ls ⟨(core.cps.toList.drop at_).toArray⟩ (core.length - at_) := ⟨fun c hc => hc4.1 c (List.mem_of_mem_drop (by simpa using hc)), by show (core.cps.toList.drop at_).toArray.size ≤ core.length - at_; simp [Str.length]⟩
      have lc := Ls.one lo
      have hle := hc4.2
      rw [← c1] at la
      rw [← c2] at lb
      generalize hsa : (⟨(cut core.cps.toList none (some (at_ : Int))).toArray⟩ : Str) = sa at *
      generalize hsb : (⟨(cut core.cps.toList (some (at_ : Int)) none).toArray⟩ : Str) = sb at *
      have lab := la.app lc
      have lall := lab.app lb
      have s1 : sa.length + (⟨#[97 + w.toNat]⟩ : Str).length ≤ 16777216 := by have := la.2; have := lc.2; omega
      have s2 : (sa ++ (⟨#[97 + w.toNat]⟩ : Str)).length + sb.length ≤ 16777216 := by have := lab.2; have := lb.2; omega
      have l1 : 1 ≤ (sa ++ (⟨#[97 + w.toNat]⟩ : Str) ++ sb).length := by rw [app_len, app_len]; show 1 ≤ sa.length + 1 + sb.length; omega
      have l5 : Ls (sa ++ (⟨#[97 + w.toNat]⟩ : Str) ++ sb) 5 := ⟨lall.1, Nat.le_trans lall.2 (by omega)⟩
      walk_at "ev k7 k8 if_pos hcl l26 hsa hsb hw a2 s1 s2"
      generalize sa ++ (⟨#[97 + w.toNat]⟩ : Str) ++ sb = nm at *
      have hi' : inD (.str nm) wordsL = (decide (Str.ofString "and" = nm) || (decide (Str.ofString "or" = nm) || (decide (Str.ofString "not" = nm) || decide (Str.ofString "then" = nm)))) := by
        simp only [wordsL, inD_cons, inD_nil, eqv_str, Bool.or_false]
      rw [← hi']
      have hnl : (ns.map D.str).length < 16777216 := by rw [List.length_map]; omega
      cases hw2 : inD (.str nm) wordsL with
      | false =>
        walk_at "ev"
        rw [if_pos (by omega)]
        walk_at "ev"
        refine ⟨ns ++ [nm], _, _, rfl, rfl, by simp [hl], fun s hs => ?_, by rw [List.map_append]; rfl⟩
        rcases List.mem_append.mp hs with h | h
        · exact hns s h
        · simp at h
          rw [h]
          exact ⟨l5, l1, hw2⟩
      | true =>
        have hn4 : nm.length ≤ 4 := by
          rw [hi'] at hw2
          simp only [Bool.or_eq_true, decide_eq_true_eq] at hw2
          rcases hw2 with h | h | h | h <;> rw [← h] <;> decide +kernel
        have sq : nm.length + (Str.ofString "q").length ≤ 16777216 := by rw [show (Str.ofString "q").length = 1 from by decide +kernel]; omega
        walk_at "ev if_pos sq"
        rw [if_pos (by omega)]
        walk_at "ev"
        have eq_ : (Str.ofString "q") = (⟨#[113]⟩ : Str) := by decide +kernel
        rw [eq_]
        refine ⟨ns ++ [nm ++ ⟨#[113]⟩], _, _, rfl, rfl, by simp [hl], fun s hs => ?_, by rw [List.map_append]; rfl⟩
        rcases List.mem_append.mp hs with h | h
        · exact hns s h
        · simp at h
          rw [h]
          have lq := Ls.app (show Ls nm 4 from ⟨l5.1, hn4⟩) (Ls.one (c := 113) ⟨by decide, by decide⟩)
          exact ⟨lq, by rw [app_len]; show 1 ≤ nm.length + 1; omega, snoc_words ⟨by decide, by decide, by decide, by decide⟩⟩
    · rintro s ⟨ns, x7, x8, k7, k8, hl, hns, rfl⟩
      rw [hrl2] at hl
      walk_at "ev"
      unfold b__law_names_6
      have done_ : ∀ (ns : List Str) (y7 y8 : Slot) (d5 : Deal), d5.Ok → ns.length = m → (∀ s ∈ ns, NameOk s) → wq (exB (cfg PT (k + 1)) b__law_names_7 ⟨[some (.ref 1, .sh), some (.int (m : Int), .sh), some (.str letters, .sh), some (.lst (ns.map .str), .own), some (.str core, .sh), some (.int (at_ : Int), .sh), some (.int turn, .sh), y7, y8], d5.S⟩)
          (fun f s => outT d.S.length (fun h S' => ∃ (ns : List Str) (d' : Deal), h = (.lst (ns.map .str), true) ∧ S' = d'.S ∧ ns.length = m ∧ (∀ s ∈ ns, NameOk s) ∧ d'.Ok) f s) (fun _ _ => False) := fun ns y7 y8 d5 ho5 hl hns => by
        unfold b__law_names_7
        walk_at "ev"
        exact outT_ret rfl ⟨ns, d5, rfl, rfl, hl, hns, ho5⟩
      walk_at "ev"
      split
      · rename_i c
        obtain ⟨r, d5, e, h0, h1, ho5⟩ := draw1 df__law_draw (by decide) k d4 ho4 2 (by decide) (by decide)
        rw [wq_of e]
        walk_at "ev"
        split
        · rename_i c2
          match ns, hl, hns with
          | n0 :: rest, hl, hns =>
            have h5 := hns n0 List.mem_cons_self
            have sz : n0.length + (Str.ofString "z").length ≤ 16777216 := by have := h5.1.2; rw [show (Str.ofString "z").length = 1 from by decide +kernel]; omega
            have a0 : L2.atI (List.map D.str (n0 :: rest)) 0 = some (.str n0) := at_0
            have b0 : setAt (List.map D.str (n0 :: rest)) 0 (.str (n0 ++ Str.ofString "z")) = some (((n0 ++ Str.ofString "z") :: rest).map .str) := setAt_0
            simp only [List.map_cons] at a0 b0
            walk_at "ev a0 List.map_cons if_pos sz b0"
            have ez : (Str.ofString "z") = (⟨#[122]⟩ : Str) := by decide +kernel
            refine done_ ((n0 ++ Str.ofString "z") :: rest) _ _ d5 ho5 (by simpa using hl) fun s hs => ?_
            rcases List.mem_cons.mp hs with h | h
            · rw [h, ez]
              have lz := Ls.app h5.1 (Ls.one (c := 122) ⟨by decide, by decide⟩)
              exact ⟨lz, by rw [app_len]; show 1 ≤ n0.length + 1; omega, snoc_words ⟨by decide, by decide, by decide, by decide⟩⟩
            · exact (hns s (List.mem_cons_of_mem _ h)).ok
          | [], hl, hns => simp at hl; omega
        · exact done_ ns _ _ d5 ho5 hl fun s hs => (hns s hs).ok
      · exact done_ ns _ _ d4 ho4 hl fun s hs => (hns s hs).ok
end K97

set_option autoImplicit false
set_option linter.all false
set_option maxRecDepth 100000
set_option maxHeartbeats 4000000
namespace K97
open PySem EV
local macro_rules
  | `(tactic| walk_at $s) => do
    match s.getString.splitOn " " with
    | "ev" :: ns => do
      let ls : Lean.TSyntaxArray `Lean.Parser.Tactic.simpLemma ← ("true_and" :: ns).toArray.mapM fun n => `(Lean.Parser.Tactic.simpLemma| $(Lean.mkIdent n.toName):term)
      `(tactic| simp only [$ls,*, ↓qwp_slot, ↓qwp_con, ↓qwp_glob, ↓qwp_bin, ↓qwp_neg, ↓qwp_not, ↓qwp_notT, ↓qwp_and, ↓qwp_or, ↓qwp_andT, ↓qwp_orT, ↓qwp_cmp, ↓qwp_cmpT, ↓qwp_chain, ↓qwp_chainT, ↓qwp_chain3, ↓qwp_iteE, ↓qwp_iteT, ↓qwp_tup, ↓qwp_lst, ↓qwp_dic, ↓qwp_idx, ↓qwp_sli, ↓qwp_fld, ↓qwp_blt, ↓qwp_isi, ↓qwp_peekL_nil, ↓qwp_peekL_cons, ↓qwp_L_nil, ↓qwp_L_cons, ↓qwp_H_nil, ↓qwp_H_cons, ↓qwp_hand_val, ↓qwp_hand_ref, ↓qwp_hand_lend, ↓qwp_A_nil, ↓qwp_A_cons, ↓qwp_P_nil, ↓qwp_P_cons, ↓qwp_O_none, ↓qwp_O_some,
  ↓qwpT_con, ↓qwpT_slot, ↓qwpT_idx, ↓qwpT_bin, ↓qwpT_fld, ↓qwpT_call, ↓qwpT_meth, ↓qwpT_blt, ↓qwpT_isi, ↓qwp_call, ↓qwp_make, ↓qwp_meth, ↓qwp_append, ↓qwp_pop0, ↓qwp_pop1, ↓qwp_remove, ↓qwp_insert, ↓qwp_clear, ↓qwp_reverse, ↓qwp_extend, ↓qwp_get2, ↓qwp_join, ↓qwp_split, ↓qwp_get1, ↓qwp_index, ↓qwp_count, ↓qwp_find2, ↓qwp_replace2, ↓qwp_strip, ↓qwp_upper,
  ↓qwp_B_nil, ↓qwp_B_cons, qthenB_next, qthenB_ret, qthenB_brk, qthenB_cont, qstepF_next, qstepF_cont, qstepF_brk, qstepF_ret, qthenF_next, qthenF_cont, qthenF_brk, qthenF_ret, ↓reduceIte, ↓qwp_asg, ↓qwp_subS, ↓qwp_attr, ↓qwp_augattr, ↓qwp_expr, ↓qwp_ret, ↓qwp_raise, ↓qwp_raise1, ↓qwp_exc0, ↓qwp_exc1, ↓qwp_try, ↓qwp_retn, ↓qwp_if, ↓qwp_brk, ↓qwp_cont, ↓qwp_pass, ↓qwp_for, ↓qwp_while, ↓qwp_I_val, ↓qwp_I_range, ↓qwp_I_enum, ↓qwp_I_zip, ↓qwp_I_rev, ↓qwp_G_slot, ↓qwp_G_tup, ↓qwp_GL_nil, ↓qwp_GL_cons, ↓qwp_noexc, ↓qwp_comp, ↓qwp_Ts_nil, ↓qwp_Ts_cons,
  ↓qwp_peek_loc, ↓qwp_peek_ref, ↓qwp_peek_v, ↓qwp_esc_loc, ↓qwp_esc_v, ↓qwp_give_loc, ↓qwp_give_v, ↓qwp_cell_loc, ↓qwp_cell_f, ↓qwp_cell_t, ↓qwp_chg_loc, ↓qwp_chg_ref, ↓qwp_set, ↓qwp_lock_loc, ↓qwp_lock_v,
  slotA, qrdS_sh, qrdS_own, qrdS_lock, qrdS_bor, qpkS_own, qpkS_lock, qpkS_bor, qescS_own, qlkS_own, qlkS_lock, qlkS_bor, qctO_sh, qctO_own, qctO_lock, qctO_bor, qwpA_nil, qwpA_loc, qwpA_v, qwpo_some, qwpo_none, vl_non, nl_non, mut_non, vl_bl, nl_bl, mut_bl, vl_int, nl_int, mut_int, vl_str, nl_str, mut_str, vl_tup, nl_tup, mut_tup, vl_lst, nl_lst, mut_lst, vl_dic, nl_dic, mut_dic, vl_kon, nl_kon, mut_kon, vl_ins, nl_ins, mut_ins, vl_exn, nl_exn, mut_exn, vl_ref, nl_ref, mut_ref, vl_loc, nl_loc, mut_loc, intO, blO, List.getElem?_cons_zero, List.getElem?_cons_succ, List.set_cons_zero, List.set_cons_succ, setQ_eq, List.length_cons, List.length_nil, List.cons_append, List.nil_append, Bool.false_and, Bool.and_false, Bool.true_and, Bool.and_true, if_true, if_false, ite_true, ite_false, Bool.false_eq_true, true_and, and_true, Nat.zero_add, ofString_inj, String.reduceEq, eqv_str, eqv_int, eqv_bl, eqv_tup, eqv_lst, eqv_non, eqv_non_str, eqv_str_non, eqv_non_tup, eqv_tup_non, eqv_str_tup, eqv_tup_str, eqvL_nil, eqvL_cons, eqvL_nc, eqvL_cn, fk_str, fk_int, bin_add_int, bin_sub_int, bin_mul_r, bin_mul_l, small, Int.reduceNeg, Int.reducePow, Int.reduceLT, Int.reduceLE, Nat.reduceLT, Nat.reduceLeDiff, Nat.reduceAdd, Int.reduceAdd, Int.reduceSub, Nat.reduceSub, bin_mod_int, bin_fdiv_int, bin_pow_int, bin_add_str, bin_add_lst, bin_add_tup, bin_mul_lst, bin_mul_tup, isNon_non, isNon_str, isNon_tup, isNon_lst, isNon_int, isNon_bl, cmp_eq, cmp_ne, cmp_lt_int, cmp_gt_int, cmp_le_int, cmp_ge_int, cmp_lt_str, cmp_in, cmp_notin, cmp_is_non, cmp_isnot_non, cmp_is_bl, cmp_isnot_bl, eqOk_int, eqOk_str, eqOk_bl, eqOk_non, eqOk_non_str, eqOk_str_non, truth_non, truth_bl, truth_int, truth_str, truth_tup, truth_lst, truth_dic, idx_lst, idx_tup, idx_str, idx_dic_str, idx_kon_str, look_cons, look_nil, sli_lst, sli_tup, sli_str, len_lst, len_tup, len_dic, len_str, list_lst, list_tup, tuple_lst, tuple_tup, int_int, int_bl, sum_lst, all_lst, any_lst, max2_int, min2_int, listrev_lst, sorted_lst, sorted_tup, sortedset_lst, sortedset_tup, bmTy_append, bmTy_pop0, bmTy_pop1, bmTy_extend, bmTy_index, bmTy_join, bmTy_get1, bmTy_get2, ch_append, ch_pop0, ch_extend, apD_lst, popD_lst, exD_lst, storeAt_lst, storeAt_dic, walk_lst, walk_tup, onlyL_lst, zip_lst, zip_tup, tupD_tup, tupD_lst, map_some', map_none', decide_true, decide_false, decide_eq_true_eq, List.length_map, Bool.and_eq_true, and_self, lineN, putKey_eq, hasKey_cons, hasKey_nil, putVals_cons, putVals_nil, putAll_cons, putAll_nil, in_tup, in_lst, in_dic, in_kon, inD_cons, inD_nil, flat_str, flat_int, flat_bl, flat_non, List.all_cons, List.all_nil, Bool.or_true, Bool.true_or, Bool.false_or, Bool.or_false, Bool.not_true, Bool.not_false, Bool.and_self, lockS_none, lockS_sh, lockS_own, lockS_bor, lockS_lock, fresh_nil, fresh_cons, unlockW_nil, unlockW_cons, ownS_some, ownFree_nil, ownFree_cons, freeS_none, freeS_sh, TL.len, wipeS_nil, wipeS_cons, unwipe_nil, unwipe_cons, getA_len, setA_len, fldopI_ins, stF, md__law_deal_0, md__law_deal_1, md__law_draw_0, md__law_draw_1, md__law_names_0, md__law_names_1, md__law_made_0, md__law_field_0, md__law_field_1, md__law_sort_0, md_law_0, km_seed, km_number, km_left, putFld_cons, putFld_nil])
    | _ => Lean.Macro.throwUnsupported
section
variable {m : Nat} {S : List EV.D} {n : Nat} {s : Str}
abbrev xx (c : Str) : EV.D := .exn [c, "TalkError", "ValueError"] [] []
abbrev xi (c f : Str) (v : EV.D) : EV.D := .exn [c, "TalkError", "ValueError"] [f] [v]
/-- the ten refusals, each with its field -/
def exs (n : Nat) (s : Str) : List (EV.D × EV.D) := [(xx "NoText", .non), (xi "NoBook" "row" (.int n), .int n), (xx "NotLet", .non), (xi "NoMove" "number" (.int n), .int n), (xx "NoPlan", .non), (xi "NoTalker" "row" (.int n), .int n), (xi "NoPaper" "row" (.int n), .int n), (xi "NoWeb" "world" (.int n), .int n), (xx "NoRow", .non), (xi "NoName" "name" (.str s), .str s)]
@[irreducible] def madeL (n : Nat) (s : Str) : List EV.D := (exs n s).map fun p => .tup [p.1, p.2]
theorem madeL_eq : madeL n s = (exs n s).map fun p => .tup [p.1, p.2] := by unfold madeL; rfl
theorem made_e {d : Deal} (ho : d.Ok) : ∃ (n : Nat) (s : Str) (d' : Deal), callN PT (m + 3) "_law_made" [(.ref 1, .sh)] d.S = .ok (.lst (madeL n s), true) d'.S ∧ n < 1000 ∧ NameOk s ∧ d'.Ok := by
  suffices h : wq (callN PT (m + 3) "_law_made" [(.ref 1, .sh)] d.S) (fun h S' => ∃ (n : Nat) (s : Str) (d' : Deal), h = (.lst (madeL n s), true) ∧ S' = d'.S ∧ n < 1000 ∧ NameOk s ∧ d'.Ok) (fun _ _ => False) by
    obtain ⟨a, s, e, n, r, d', rfl, rfl, h1, h2, h3⟩ := wq_get h
    exact ⟨n, r, d', e, h1, h2, h3⟩
  rw [qwp_def df__law_made rfl]
  show wq (exB (cfg PT (m + 2)) b__law_made ⟨[some (.ref 1, .sh), none, none, none], d.S⟩) _ _
  obtain ⟨q, d1, e, h0, h1, ho1⟩ := draw1 df__law_draw (by decide) (m + 1) d ho 1000 (by decide) (by decide)
  obtain ⟨n, rfl⟩ : ∃ j : Nat, q = (j : Int) := ⟨q.toNat, by omega⟩
  have x1 : xarg true (.int (n : Int)) = true := by
    show (true && decide (0 ≤ (n : Int)) && decide ((n : Int) < 1000000000)) = true
    rw [decide_eq_true (show (0 : Int) ≤ n by omega), decide_eq_true (show (n : Int) < 1000000000 by omega)]
    rfl
  obtain ⟨ns, d2, e2, hl, hns, ho2⟩ := names_ok (k := m) ho1 (m := 1) (by decide) (by decide)
  obtain ⟨s, rfl⟩ : ∃ s, ns = [s] := by
    match ns, hl with
    | [s], _ => exact ⟨s, rfl⟩
  have x2 : xarg false (.str s) = true := id rfl
  have i0 : L2.atI [EV.D.str s] 0 = some (.str s) := by rw [show (0 : Int) = ((0 : Nat) : Int) from rfl, atI_nat]; rfl
  replace e2 : callN PT (m + 2) "_law_names" [(.ref 1, .sh), (.int 1, .sh)] d1.S = .ok (.lst [.str s], true) d2.S := e2
  unfold b__law_made
  walk_at "ev"
  rw [wq_of e]
  walk_at "ev"
  unfold b__law_made_1
  walk_at "ev"
  rw [wq_of e2]
  walk_at "ev i0"
  unfold b__law_made_2
  walk_at "ev x1 x2"
  unfold b__law_made_3
  walk_at "ev x1 x2"
  exact outT_ret rfl ⟨n, s, d2, by rw [madeL_eq]; rfl, rfl, by omega, hns s List.mem_cons_self, ho2⟩
abbrev bls (i : Nat) : List EV.D := (List.range 10).map fun j => .bl (decide (j = i))
def SortX (x : EV.D) (i : Nat) : Prop := ∀ (m : Nat) (S : List EV.D), exB (cfg PT m) b__law_sort ⟨[some (x, .sh), none, none], S⟩ = .ok (.ret (.lst [.int i], true)) ⟨[some (x, .sh), some (.lst (bls i), .own), none], S⟩
def FieldX (i : Nat) (x f : EV.D) : Prop := ∀ (m : Nat) (S : List EV.D), exB (cfg PT m) b__law_field ⟨[some (.int i, .sh), some (x, .sh)], S⟩ = .ok (.ret (f, false)) ⟨[some (.int i, .sh), some (x, .sh)], S⟩
/-- what is asked of one -/
structure One (i : Nat) (x f : EV.D) : Prop where
  so : SortX x i
  fi : FieldX i x f
  t1 : tyAny x [.cls "TalkError"] = some true
  t2 : tyAny x [.cls "ValueError"] = some true
  v : x.vl = true ∧ x.nl = true ∧ f.vl = true ∧ f.nl = true
theorem one0 : One 0 (xx "NoText") .non := ⟨fun m S => by kernel_rfl, fun m S => by kernel_rfl, by kernel_rfl, by kernel_rfl, rfl, rfl, rfl, rfl⟩
theorem one1 : One 1 (xi "NoBook" "row" (.int n)) (.int n) := ⟨fun m S => by kernel_rfl, fun m S => by kernel_rfl, by kernel_rfl, by kernel_rfl, rfl, rfl, rfl, rfl⟩
theorem one2 : One 2 (xx "NotLet") .non := ⟨fun m S => by kernel_rfl, fun m S => by kernel_rfl, by kernel_rfl, by kernel_rfl, rfl, rfl, rfl, rfl⟩
theorem one3 : One 3 (xi "NoMove" "number" (.int n)) (.int n) := ⟨fun m S => by kernel_rfl, fun m S => by kernel_rfl, by kernel_rfl, by kernel_rfl, rfl, rfl, rfl, rfl⟩
theorem one4 : One 4 (xx "NoPlan") .non := ⟨fun m S => by kernel_rfl, fun m S => by kernel_rfl, by kernel_rfl, by kernel_rfl, rfl, rfl, rfl, rfl⟩
theorem one5 : One 5 (xi "NoTalker" "row" (.int n)) (.int n) := ⟨fun m S => by kernel_rfl, fun m S => by kernel_rfl, by kernel_rfl, by kernel_rfl, rfl, rfl, rfl, rfl⟩
theorem one6 : One 6 (xi "NoPaper" "row" (.int n)) (.int n) := ⟨fun m S => by kernel_rfl, fun m S => by kernel_rfl, by kernel_rfl, by kernel_rfl, rfl, rfl, rfl, rfl⟩
theorem one7 : One 7 (xi "NoWeb" "world" (.int n)) (.int n) := ⟨fun m S => by kernel_rfl, fun m S => by kernel_rfl, by kernel_rfl, by kernel_rfl, rfl, rfl, rfl, rfl⟩
theorem one8 : One 8 (xx "NoRow") .non := ⟨fun m S => by kernel_rfl, fun m S => by kernel_rfl, by kernel_rfl, by kernel_rfl, rfl, rfl, rfl, rfl⟩
theorem one9 : One 9 (xi "NoName" "name" (.str s)) (.str s) := ⟨fun m S => by kernel_rfl, fun m S => by kernel_rfl, by kernel_rfl, by kernel_rfl, rfl, rfl, rfl, rfl⟩
theorem rep_int (h : n < 1000) : ∃ t, reprD (.int (n : Int)) = some t := by
  refine ⟨_, if_pos ?_⟩
  rw [Int.natAbs_natCast]
  have h2 : n.log2 ≤ n := Nat.log2_le_self n
  omega
theorem rep_str (h : NameOk s) : ∃ t, reprD (.str s) = some t := by
  refine ⟨_, if_pos ?_⟩
  have := StrLaws.reprText_len s fun c hc => by have := h.1.1 c hc; unfold LtC at this; omega
  have := h.1.2
  rw [lineN]
  omega
theorem rep_non : ∃ t, reprD .non = some t := ⟨_, rfl⟩
theorem one_at (hn : n < 1000) (hs : NameOk s) {i : Nat} (hi : i < 10) : ∃ x f t, L2.atI (madeL n s) (i : Int) = some (.tup [x, f]) ∧ One i x f ∧ bltop .repr [f] = some (.str t, false) := by
  rw [madeL_eq]
  have r : ∀ {f : EV.D}, (∃ t, reprD f = some t) → ∃ t, bltop .repr [f] = some (.str t, false) := fun {f} ⟨t, h⟩ => ⟨t, by show (reprD f).map _ = _; rw [h]; rfl⟩
  have go : ∀ {x f : EV.D}, ((exs n s).map fun p => EV.D.tup [p.1, p.2])[i]? = some (.tup [x, f]) → One i x f → (∃ t, reprD f = some t) → ∃ x f t, L2.atI ((exs n s).map fun p => EV.D.tup [p.1, p.2]) (i : Int) = some (.tup [x, f]) ∧ One i x f ∧ bltop .repr [f] = some (.str t, false) := fun {x f} h o rr => by
    obtain ⟨t, ht⟩ := r rr
    exact ⟨x, f, t, by rw [atI_nat]; exact h, o, ht⟩
  match i, hi with
  | 0, _ => exact go rfl one0 rep_non
  | 1, _ => exact go rfl one1 (rep_int hn)
  | 2, _ => exact go rfl one2 rep_non
  | 3, _ => exact go rfl one3 (rep_int hn)
  | 4, _ => exact go rfl one4 rep_non
  | 5, _ => exact go rfl one5 (rep_int hn)
  | 6, _ => exact go rfl one6 (rep_int hn)
  | 7, _ => exact go rfl one7 (rep_int hn)
  | 8, _ => exact go rfl one8 rep_non
  | 9, _ => exact go rfl one9 (rep_str hs)
theorem One.sort {i : Nat} {x f : EV.D} (h : One i x f) (hS : hasRefL S.length S = false) : callN PT (m + 1) "_law_sort" [(x, .sh)] S = .ok (.lst [.int (i : Int)], true) S := by
  refine eq_of_wq ?_
  rw [qwp_def df__law_sort rfl]
  show wq (exB (cfg PT m) b__law_sort ⟨[some (x, .sh), none, none], S⟩) _ _
  rw [wq_of (h.so m S)]
  exact outT_ret rfl ⟨rfl, rfl⟩
theorem One.field {i : Nat} {x f : EV.D} (h : One i x f) : callN PT (m + 1) "_law_field" [(.int (i : Int), .sh), (x, .sh)] S = .ok (f, false) S := by
  refine eq_of_wq ?_
  rw [qwp_def df__law_field rfl]
  show wq (exB (cfg PT m) b__law_field ⟨[some (.int (i : Int), .sh), some (x, .sh)], S⟩) _ _
  rw [wq_of (h.fi m S)]
  exact outT_ret rfl ⟨rfl, rfl⟩
end
end K97

set_option autoImplicit false
set_option linter.all false
set_option maxRecDepth 100000
set_option maxHeartbeats 4000000
namespace K97
open PySem EV
local macro_rules
  | `(tactic| walk_at $s) => do
    match s.getString.splitOn " " with
    | "ev" :: ns => do
      let ls : Lean.TSyntaxArray `Lean.Parser.Tactic.simpLemma ← ("true_and" :: ns).toArray.mapM fun n => `(Lean.Parser.Tactic.simpLemma| $(Lean.mkIdent n.toName):term)
      `(tactic| simp only [$ls,*, ↓qwp_slot, ↓qwp_con, ↓qwp_glob, ↓qwp_bin, ↓qwp_neg, ↓qwp_not, ↓qwp_notT, ↓qwp_and, ↓qwp_or, ↓qwp_andT, ↓qwp_orT, ↓qwp_cmp, ↓qwp_cmpT, ↓qwp_chain, ↓qwp_chainT, ↓qwp_chain3, ↓qwp_iteE, ↓qwp_iteT, ↓qwp_tup, ↓qwp_lst, ↓qwp_dic, ↓qwp_idx, ↓qwp_sli, ↓qwp_fld, ↓qwp_blt, ↓qwp_isi, ↓qwp_peekL_nil, ↓qwp_peekL_cons, ↓qwp_L_nil, ↓qwp_L_cons, ↓qwp_H_nil, ↓qwp_H_cons, ↓qwp_hand_val, ↓qwp_hand_ref, ↓qwp_hand_lend, ↓qwp_A_nil, ↓qwp_A_cons, ↓qwp_P_nil, ↓qwp_P_cons, ↓qwp_O_none, ↓qwp_O_some,
  ↓qwpT_con, ↓qwpT_slot, ↓qwpT_idx, ↓qwpT_bin, ↓qwpT_fld, ↓qwpT_call, ↓qwpT_meth, ↓qwpT_blt, ↓qwpT_isi, ↓qwp_call, ↓qwp_make, ↓qwp_meth, ↓qwp_append, ↓qwp_pop0, ↓qwp_pop1, ↓qwp_remove, ↓qwp_insert, ↓qwp_clear, ↓qwp_reverse, ↓qwp_extend, ↓qwp_get2, ↓qwp_join, ↓qwp_split, ↓qwp_get1, ↓qwp_index, ↓qwp_count, ↓qwp_find2, ↓qwp_replace2, ↓qwp_strip, ↓qwp_upper,
  ↓qwp_B_nil, ↓qwp_B_cons, qthenB_next, qthenB_ret, qthenB_brk, qthenB_cont, qstepF_next, qstepF_cont, qstepF_brk, qstepF_ret, qthenF_next, qthenF_cont, qthenF_brk, qthenF_ret, ↓reduceIte, ↓qwp_asg, ↓qwp_subS, ↓qwp_attr, ↓qwp_augattr, ↓qwp_expr, ↓qwp_ret, ↓qwp_raise, ↓qwp_raise1, ↓qwp_exc0, ↓qwp_exc1, ↓qwp_try, ↓qwp_retn, ↓qwp_if, ↓qwp_brk, ↓qwp_cont, ↓qwp_pass, ↓qwp_for, ↓qwp_while, ↓qwp_I_val, ↓qwp_I_range, ↓qwp_I_enum, ↓qwp_I_zip, ↓qwp_I_rev, ↓qwp_G_slot, ↓qwp_G_tup, ↓qwp_GL_nil, ↓qwp_GL_cons, ↓qwp_noexc, ↓qwp_comp, ↓qwp_Ts_nil, ↓qwp_Ts_cons,
  ↓qwp_peek_loc, ↓qwp_peek_ref, ↓qwp_peek_v, ↓qwp_esc_loc, ↓qwp_esc_v, ↓qwp_give_loc, ↓qwp_give_v, ↓qwp_cell_loc, ↓qwp_cell_f, ↓qwp_cell_t, ↓qwp_chg_loc, ↓qwp_chg_ref, ↓qwp_set, ↓qwp_lock_loc, ↓qwp_lock_v,
  slotA, qrdS_sh, qrdS_own, qrdS_lock, qrdS_bor, qpkS_own, qpkS_lock, qpkS_bor, qescS_own, qlkS_own, qlkS_lock, qlkS_bor, qctO_sh, qctO_own, qctO_lock, qctO_bor, qwpA_nil, qwpA_loc, qwpA_v, qwpo_some, qwpo_none, vl_non, nl_non, mut_non, vl_bl, nl_bl, mut_bl, vl_int, nl_int, mut_int, vl_str, nl_str, mut_str, vl_tup, nl_tup, mut_tup, vl_lst, nl_lst, mut_lst, vl_dic, nl_dic, mut_dic, vl_kon, nl_kon, mut_kon, vl_ins, nl_ins, mut_ins, vl_exn, nl_exn, mut_exn, vl_ref, nl_ref, mut_ref, vl_loc, nl_loc, mut_loc, intO, blO, List.getElem?_cons_zero, List.getElem?_cons_succ, List.set_cons_zero, List.set_cons_succ, setQ_eq, List.length_cons, List.length_nil, List.cons_append, List.nil_append, Bool.false_and, Bool.and_false, Bool.true_and, Bool.and_true, if_true, if_false, ite_true, ite_false, Bool.false_eq_true, true_and, and_true, Nat.zero_add, ofString_inj, String.reduceEq, eqv_str, eqv_int, eqv_bl, eqv_tup, eqv_lst, eqv_non, eqv_non_str, eqv_str_non, eqv_non_tup, eqv_tup_non, eqv_str_tup, eqv_tup_str, eqvL_nil, eqvL_cons, eqvL_nc, eqvL_cn, fk_str, fk_int, bin_add_int, bin_sub_int, bin_mul_r, bin_mul_l, small, Int.reduceNeg, Int.reducePow, Int.reduceLT, Int.reduceLE, Nat.reduceLT, Nat.reduceLeDiff, Nat.reduceAdd, Int.reduceAdd, Int.reduceSub, Nat.reduceSub, bin_mod_int, bin_fdiv_int, bin_pow_int, bin_add_str, bin_add_lst, bin_add_tup, bin_mul_lst, bin_mul_tup, isNon_non, isNon_str, isNon_tup, isNon_lst, isNon_int, isNon_bl, cmp_eq, cmp_ne, cmp_lt_int, cmp_gt_int, cmp_le_int, cmp_ge_int, cmp_lt_str, cmp_in, cmp_notin, cmp_is_non, cmp_isnot_non, cmp_is_bl, cmp_isnot_bl, eqOk_int, eqOk_str, eqOk_bl, eqOk_non, eqOk_non_str, eqOk_str_non, truth_non, truth_bl, truth_int, truth_str, truth_tup, truth_lst, truth_dic, idx_lst, idx_tup, idx_str, idx_dic_str, idx_kon_str, look_cons, look_nil, sli_lst, sli_tup, sli_str, len_lst, len_tup, len_dic, len_str, list_lst, list_tup, tuple_lst, tuple_tup, int_int, int_bl, sum_lst, all_lst, any_lst, max2_int, min2_int, listrev_lst, sorted_lst, sorted_tup, sortedset_lst, sortedset_tup, bmTy_append, bmTy_pop0, bmTy_pop1, bmTy_extend, bmTy_index, bmTy_join, bmTy_get1, bmTy_get2, ch_append, ch_pop0, ch_extend, apD_lst, popD_lst, exD_lst, storeAt_lst, storeAt_dic, walk_lst, walk_tup, onlyL_lst, zip_lst, zip_tup, tupD_tup, tupD_lst, map_some', map_none', decide_true, decide_false, decide_eq_true_eq, List.length_map, Bool.and_eq_true, and_self, lineN, putKey_eq, hasKey_cons, hasKey_nil, putVals_cons, putVals_nil, putAll_cons, putAll_nil, in_tup, in_lst, in_dic, in_kon, inD_cons, inD_nil, flat_str, flat_int, flat_bl, flat_non, List.all_cons, List.all_nil, Bool.or_true, Bool.true_or, Bool.false_or, Bool.or_false, Bool.not_true, Bool.not_false, Bool.and_self, lockS_none, lockS_sh, lockS_own, lockS_bor, lockS_lock, fresh_nil, fresh_cons, unlockW_nil, unlockW_cons, ownS_some, ownFree_nil, ownFree_cons, freeS_none, freeS_sh, TL.len, wipeS_nil, wipeS_cons, unwipe_nil, unwipe_cons, getA_len, setA_len, fldopI_ins, stF, md__law_deal_0, md__law_deal_1, md__law_draw_0, md__law_draw_1, md__law_names_0, md__law_names_1, md__law_made_0, md__law_field_0, md__law_field_1, md__law_sort_0, md_law_0, km_seed, km_number, km_left, putFld_cons, putFld_nil])
    | _ => Lean.Macro.throwUnsupported
def LawQ : Fl → W → Prop := fun f s => outT 0 (fun h _ => h = (.bl true, false)) f s
theorem range10 : rangeop [.int 10] = some (rangeD 0 10) := by kernel_rfl
theorem law_2 {ns : List Int} {n1 n2 : Nat} {s1 s2 : Str} {d2 : Deal} (hn1 : n1 < 1000) (hn2 : n2 < 1000) (hs1 : NameOk s1) (hs2 : NameOk s2) (ho2 : d2.Ok) :
    wq (exB (cfg PT 99) b_law_2 ⟨[some (.lst (ns.map .int), .sh), some (.ref 1, .sh), some (.lst [.lst (madeL n1 s1), .lst (madeL n2 s2)], .own), none, none, none, none], d2.S⟩) LawQ (fun _ _ => False) := by
  have c1 : cut [EV.D.lst (madeL n1 s1), .lst (madeL n2 s2)] none (some 1) = [.lst (madeL n1 s1)] := cut_0n (b := 1)
  unfold b_law_2
  walk_at "ev c1"
  refine qfor_rule (fun i s => ∃ (x3 x4 x5 x6 : Slot), lockS x3 = false ∧ lockS x4 = false ∧ lockS x5 = false ∧ lockS x6 = false ∧ s = ⟨[some (.lst (ns.map .int), .sh), some (.ref 1, .sh), some (.lst [.lst (madeL n1 s1), .lst (madeL n2 s2)], .own), x3, x4, x5, x6], d2.S⟩) ⟨none, none, none, none, rfl, rfl, rfl, rfl, rfl⟩ ?_ ?_
  · rintro i dd s hi ⟨x3, x4, x5, x6, h3, h4, h5, h6, rfl⟩
    obtain ⟨n, s, hn, hs, rfl⟩ : ∃ n s, n < 1000 ∧ NameOk s ∧ dd = .lst (madeL n s) := by
      have hm := List.mem_of_getElem? hi
      simp only [List.mem_cons, List.not_mem_nil, or_false] at hm
      rcases hm with rfl | rfl | rfl
      · exact ⟨_, _, hn1, hs1, rfl⟩
      · exact ⟨_, _, hn2, hs2, rfl⟩
      · exact ⟨_, _, hn1, hs1, rfl⟩
    walk_at "ev h3 h4 h5 h6 range10"
    refine qfor_rule (fun j s' => ∃ (x4 x5 x6 : Slot), lockS x4 = false ∧ lockS x5 = false ∧ lockS x6 = false ∧ s' = ⟨[some (.lst (ns.map .int), .sh), some (.ref 1, .sh), some (.lst [.lst (madeL n1 s1), .lst (madeL n2 s2)], .own), some (.lst (madeL n s), .sh), x4, x5, x6], d2.S⟩) ⟨x4, x5, x6, h4, h5, h6, rfl⟩ ?_ ?_
    · rintro j dd s' hj ⟨x4, x5, x6, h4, h5, h6, rfl⟩
      obtain ⟨z, hz, rfl⟩ : ∃ z : Nat, z < 10 ∧ dd = .int (z : Int) := by
        have := List.mem_of_getElem? hj
        obtain ⟨q, hq, rfl⟩ := List.mem_map.mp this
        have := List.mem_range.mp hq
        exact ⟨q, by simpa using this, by simp⟩
      obtain ⟨x, f, t, ea, o, er⟩ := one_at hn hs hz
      obtain ⟨v1, v2, v3, v4⟩ := o.v
      have t1 := o.t1
      have t2 := o.t2
      have es := o.sort (m := 98) (S := d2.S) nr_deal
      have ef := o.field (m := 98) (S := d2.S)
      have ok : eqOk (.lst [.int (z : Int)]) (.lst [.int (z : Int)]) = true := by kernel_rfl
      walk_at "ev h4 h5 h6 ea v1 v2 v3 v4"
      rw [wq_of es]
      walk_at "ev v1 v2 v3 v4 ok t1 t2"
      rw [wq_of ef]
      walk_at "ev v1 v2 v3 v4 er"
      exact ⟨_, _, _, rfl, rfl, rfl, rfl⟩
    · rintro s' ⟨x4, x5, x6, h4, h5, h6, rfl⟩
      walk_at "ev"
      exact ⟨_, _, _, _, rfl, h4, h5, h6, rfl⟩
  · rintro s ⟨x3, x4, x5, x6, h3, h4, h5, h6, rfl⟩
    unfold b_law_3
    walk_at "ev"
    exact rfl
theorem law_true : EV.LawTrue PT 100 := by
  intro ns h63 hb
  suffices h : wq (callN PT 100 "law" [(.lst (ns.map .int), .sh)] []) (fun h _ => h = (.bl true, false)) (fun _ _ => False) by
    obtain ⟨x, t, e, rfl⟩ := wq_get h
    exact ⟨t, e⟩
  rw [qwp_def df_law rfl]
  show wq (exB (cfg PT 99) b_law ⟨[some (.lst (ns.map .int), .sh), none, none, none, none, none, none], []⟩) LawQ _
  unfold b_law
  walk_at "ev"
  obtain ⟨d, e, ho⟩ := deal_ok df__law_deal (by decide +kernel) (by decide +kernel) (by decide +kernel) 98 ns h63
  rw [wq_of e]
  walk_at "ev"
  rw [show [EV.D.lst (d.left.map .int), EV.D.dic [.str "seed", .str "number", .str "left"] [.int d.seed, .int d.number, .ref 0]] = d.S from rfl]
  unfold b_law_1
  obtain ⟨n1, s1, d1, e1, hn1, hs1, ho1⟩ := made_e (m := 96) ho
  obtain ⟨n2, s2, d2, e2, hn2, hs2, ho2⟩ := made_e (m := 96) ho1
  walk_at "ev"
  rw [wq_of e1]
  walk_at "ev"
  rw [wq_of e2]
  walk_at "ev"
  exact law_2 hn1 hn2 hs1 hs2 ho2
end K97

set_option Elab.async false
open PySem PySem.W PyProof.Rows
set_option maxRecDepth 100000 in
set_option maxHeartbeats 0 in
theorem PySem.Challenge.cw_talkcourt_k97_refusals_made_holds : PySem.Challenge.rw_talkcourt_k97_refusals_made.Holds := by
  w_on; o_law; k_head; (case hw => w_witness2)
  k_fill
  refine EV.walk (l := PySem.Challenge.rw_talkcourt_k97_refusals_made) (k := 100) (x := "_law_script") rfl rfl ⟨rfl, by decide, by decide⟩ (fun w h Y => PySem.W.kIn_of Y) ?F
  case F =>
    intro w mg fa h KX G hmg
    refine' K97.all_mk KX G hmg ?xa0 ?xv0 ?xa1 ?xv1 ?xa2 ?xv2 ?xa3 ?xv3 ?xa4 ?xv4 ?xa5 ?xv5 ?xa6 ?xv6 ?xa7 ?xv7 ?xa8 ?xv8 ?xa9 ?xv9 ?xa10 ?xv10 ?xa11 ?xv11 ?xg1 ?xh1 ?xs1 ?xd1 ?xc1 ?xn1 ?xt1 ?xm1 ?xk1 ?xi1 ?xy1 ?xo1_0 ?xe1_0 ?xo1_1 ?xe1_1 ?xo1_2 ?xe1_2 ?xo1_3 ?xe1_3 ?xo1_4 ?xe1_4 ?xo1_5 ?xe1_5 ?xo1_6 ?xe1_6 ?xo1_7 ?xe1_7 ?xo1_8 ?xe1_8 ?xo1_9 ?xe1_9 ?xo1_10 ?xe1_10 ?xo1_11 ?xe1_11 ?xg2 ?xh2 ?xs2 ?xd2 ?xc2 ?xn2 ?xt2 ?xm2 ?xk2 ?xq2 ?xu2 ?xl2 ?xw2 ?xz2 ?xsa2 ?xff2 ?xr10 ?xr20 ?xr30 ?xy2 ?xo2_0 ?xe2_0 ?xo2_1 ?xe2_1 ?xo2_2 ?xe2_2 ?xo2_3 ?xe2_3 ?xo2_4 ?xe2_4 ?xo2_5 ?xe2_5 ?xo2_6 ?xe2_6 ?xo2_7 ?xe2_7 ?xo2_8 ?xe2_8 ?xo2_9 ?xe2_9 ?xo2_10 ?xe2_10 ?xo2_11 ?xe2_11 ?xg3 ?xh3 ?xs3 ?xd3 ?xc3 ?xn3 ?xt3 ?xm3 ?xk3 ?xi3 ?xy3 ?xo3_0 ?xe3_0 ?xo3_1 ?xe3_1 ?xo3_2 ?xe3_2 ?xo3_3 ?xe3_3 ?xo3_4 ?xe3_4 ?xo3_5 ?xe3_5 ?xo3_6 ?xe3_6 ?xo3_7 ?xe3_7 ?xo3_8 ?xe3_8 ?xo3_9 ?xe3_9 ?xo3_10 ?xe3_10 ?xo3_11 ?xe3_11 ?xg4 ?xh4 ?xs4 ?xd4 ?xc4 ?xn4 ?xt4 ?xm4 ?xk4 ?xq4 ?xu4 ?xl4 ?xw4 ?xz4 ?xsa4 ?xff4 ?xy4 ?xo4_0 ?xe4_0 ?xo4_1 ?xe4_1 ?xo4_2 ?xe4_2 ?xo4_3 ?xe4_3 ?xo4_4 ?xe4_4 ?xo4_5 ?xe4_5 ?xo4_6 ?xe4_6 ?xo4_7 ?xe4_7 ?xo4_8 ?xe4_8 ?xo4_9 ?xe4_9 ?xo4_10 ?xe4_10 ?xo4_11 ?xe4_11 ?xg5 ?xh5 ?xs5 ?xd5 ?xc5 ?xn5 ?xt5 ?xm5 ?xk5 ?xi5 ?xy5 ?xo5_0 ?xe5_0 ?xo5_1 ?xe5_1 ?xo5_2 ?xe5_2 ?xo5_3 ?xe5_3 ?xo5_4 ?xe5_4 ?xo5_5 ?xe5_5 ?xo5_6 ?xe5_6 ?xo5_7 ?xe5_7 ?xo5_8 ?xe5_8 ?xo5_9 ?xe5_9 ?xo5_10 ?xe5_10 ?xo5_11 ?xe5_11 ?xg6 ?xh6 ?xs6 ?xd6 ?xc6 ?xn6 ?xt6 ?xm6 ?xk6 ?xq6 ?xu6 ?xl6 ?xw6 ?xz6 ?xsa6 ?xff6 ?xy6 ?xo6_0 ?xe6_0 ?xo6_1 ?xe6_1 ?xo6_2 ?xe6_2 ?xo6_3 ?xe6_3 ?xo6_4 ?xe6_4 ?xo6_5 ?xe6_5 ?xo6_6 ?xe6_6 ?xo6_7 ?xe6_7 ?xo6_8 ?xe6_8 ?xo6_9 ?xe6_9 ?xo6_10 ?xe6_10 ?xo6_11 ?xe6_11 ?xg7 ?xh7 ?xs7 ?xd7 ?xc7 ?xn7 ?xt7 ?xm7 ?xk7 ?xq7 ?xu7 ?xl7 ?xw7 ?xz7 ?xsa7 ?xff7 ?xy7 ?xo7_0 ?xe7_0 ?xo7_1 ?xe7_1 ?xo7_2 ?xe7_2 ?xo7_3 ?xe7_3 ?xo7_4 ?xe7_4 ?xo7_5 ?xe7_5 ?xo7_6 ?xe7_6 ?xo7_7 ?xe7_7 ?xo7_8 ?xe7_8 ?xo7_9 ?xe7_9 ?xo7_10 ?xe7_10 ?xo7_11 ?xe7_11 ?xg8 ?xh8 ?xs8 ?xd8 ?xc8 ?xn8 ?xt8 ?xm8 ?xk8 ?xq8 ?xu8 ?xl8 ?xw8 ?xz8 ?xsa8 ?xff8 ?xy8 ?xo8_0 ?xe8_0 ?xo8_1 ?xe8_1 ?xo8_2 ?xe8_2 ?xo8_3 ?xe8_3 ?xo8_4 ?xe8_4 ?xo8_5 ?xe8_5 ?xo8_6 ?xe8_6 ?xo8_7 ?xe8_7 ?xo8_8 ?xe8_8 ?xo8_9 ?xe8_9 ?xo8_10 ?xe8_10 ?xo8_11 ?xe8_11 ?xg9 ?xh9 ?xs9 ?xd9 ?xc9 ?xn9 ?xt9 ?xm9 ?xk9 ?xi9 ?xy9 ?xo9_0 ?xe9_0 ?xo9_1 ?xe9_1 ?xo9_2 ?xe9_2 ?xo9_3 ?xe9_3 ?xo9_4 ?xe9_4 ?xo9_5 ?xe9_5 ?xo9_6 ?xe9_6 ?xo9_7 ?xe9_7 ?xo9_8 ?xe9_8 ?xo9_9 ?xe9_9 ?xo9_10 ?xe9_10 ?xo9_11 ?xe9_11 ?xg10 ?xh10 ?xs10 ?xd10 ?xc10 ?xn10 ?xt10 ?xm10 ?xk10 ?xq10 ?xu10 ?xl10 ?xw10 ?xz10 ?xsa10 ?xff10 ?xy10 ?xo10_0 ?xe10_0 ?xo10_1 ?xe10_1 ?xo10_2 ?xe10_2 ?xo10_3 ?xe10_3 ?xo10_4 ?xe10_4 ?xo10_5 ?xe10_5 ?xo10_6 ?xe10_6 ?xo10_7 ?xe10_7 ?xo10_8 ?xe10_8 ?xo10_9 ?xe10_9 ?xo10_10 ?xe10_10 ?xo10_11 ?xe10_11 ?a1 ?l1 ?c1 ?k1 ?a2 ?l2 ?c2 ?k2 ?a3 ?l3 ?c3 ?k3 ?a4 ?l4 ?c4 ?k4 ?a5 ?l5 ?c5 ?k5 ?a6 ?l6 ?c6 ?k6 ?a7 ?l7 ?c7 ?k7 ?b0 ?b1 ?b2 ?b3 ?b4 ?b5 ?b6 ?b7 ?b8 ?b9 ?b10 ?b11 ?b12 ?b13 ?b14 ?b15 ?b16 ?b17 ?b18 ?b19 ?nl K97.law_true
    (case xa0 => k_is)
    (case xv0 => kernel_rfl)
    (case xa1 => k_is)
    (case xv1 => kernel_rfl)
    (case xa2 => k_is)
    (case xv2 => kernel_rfl)
    (case xa3 => k_is)
    (case xv3 => kernel_rfl)
    (case xa4 => k_is)
    (case xv4 => kernel_rfl)
    (case xa5 => k_is)
    (case xv5 => kernel_rfl)
    (case xa6 => k_is)
    (case xv6 => kernel_rfl)
    (case xa7 => k_is)
    (case xv7 => kernel_rfl)
    (case xa8 => k_is)
    (case xv8 => kernel_rfl)
    (case xa9 => k_is)
    (case xv9 => kernel_rfl)
    (case xa10 => k_is)
    (case xv10 => kernel_rfl)
    (case xa11 => k_is)
    (case xv11 => kernel_rfl)
    (case xg1 => k_is)
    (case xh1 => k_is)
    (case xs1 => k_is)
    (case xd1 => k_is)
    (case xc1 => k_is)
    (case xn1 => k_is)
    (case xt1 => k_is)
    (case xm1 => k_is)
    (case xk1 => k_is)
    (case xi1 => kernel_rfl)
    (case xy1 => k_is)
    (case xo1_0 => kernel_rfl)
    (case xe1_0 => kernel_rfl)
    (case xo1_1 => kernel_rfl)
    (case xe1_1 => kernel_rfl)
    (case xo1_2 => kernel_rfl)
    (case xe1_2 => kernel_rfl)
    (case xo1_3 => kernel_rfl)
    (case xe1_3 => kernel_rfl)
    (case xo1_4 => kernel_rfl)
    (case xe1_4 => kernel_rfl)
    (case xo1_5 => kernel_rfl)
    (case xe1_5 => kernel_rfl)
    (case xo1_6 => kernel_rfl)
    (case xe1_6 => kernel_rfl)
    (case xo1_7 => kernel_rfl)
    (case xe1_7 => kernel_rfl)
    (case xo1_8 => kernel_rfl)
    (case xe1_8 => kernel_rfl)
    (case xo1_9 => kernel_rfl)
    (case xe1_9 => kernel_rfl)
    (case xo1_10 => kernel_rfl)
    (case xe1_10 => kernel_rfl)
    (case xo1_11 => kernel_rfl)
    (case xe1_11 => kernel_rfl)
    (case xg2 => k_is)
    (case xh2 => k_is)
    (case xs2 => k_is)
    (case xd2 => k_is)
    (case xc2 => k_is)
    (case xn2 => k_is)
    (case xt2 => k_is)
    (case xm2 => k_is)
    (case xk2 => k_is)
    (case xq2 => k_is)
    (case xu2 => k_is)
    (case xl2 => k_is)
    (case xw2 => k_is)
    (case xz2 => k_is)
    (case xsa2 => k_is)
    (case xff2 => k_is)
    (case xr10 => k_is)
    (case xr20 => k_is)
    (case xr30 => k_is)
    (case xy2 => k_is)
    (case xo2_0 => kernel_rfl)
    (case xe2_0 => kernel_rfl)
    (case xo2_1 => kernel_rfl)
    (case xe2_1 => kernel_rfl)
    (case xo2_2 => kernel_rfl)
    (case xe2_2 => kernel_rfl)
    (case xo2_3 => kernel_rfl)
    (case xe2_3 => kernel_rfl)
    (case xo2_4 => kernel_rfl)
    (case xe2_4 => kernel_rfl)
    (case xo2_5 => kernel_rfl)
    (case xe2_5 => kernel_rfl)
    (case xo2_6 => kernel_rfl)
    (case xe2_6 => kernel_rfl)
    (case xo2_7 => kernel_rfl)
    (case xe2_7 => kernel_rfl)
    (case xo2_8 => kernel_rfl)
    (case xe2_8 => kernel_rfl)
    (case xo2_9 => kernel_rfl)
    (case xe2_9 => kernel_rfl)
    (case xo2_10 => kernel_rfl)
    (case xe2_10 => kernel_rfl)
    (case xo2_11 => kernel_rfl)
    (case xe2_11 => kernel_rfl)
    (case xg3 => k_is)
    (case xh3 => k_is)
    (case xs3 => k_is)
    (case xd3 => k_is)
    (case xc3 => k_is)
    (case xn3 => k_is)
    (case xt3 => k_is)
    (case xm3 => k_is)
    (case xk3 => k_is)
    (case xi3 => kernel_rfl)
    (case xy3 => k_is)
    (case xo3_0 => kernel_rfl)
    (case xe3_0 => kernel_rfl)
    (case xo3_1 => kernel_rfl)
    (case xe3_1 => kernel_rfl)
    (case xo3_2 => kernel_rfl)
    (case xe3_2 => kernel_rfl)
    (case xo3_3 => kernel_rfl)
    (case xe3_3 => kernel_rfl)
    (case xo3_4 => kernel_rfl)
    (case xe3_4 => kernel_rfl)
    (case xo3_5 => kernel_rfl)
    (case xe3_5 => kernel_rfl)
    (case xo3_6 => kernel_rfl)
    (case xe3_6 => kernel_rfl)
    (case xo3_7 => kernel_rfl)
    (case xe3_7 => kernel_rfl)
    (case xo3_8 => kernel_rfl)
    (case xe3_8 => kernel_rfl)
    (case xo3_9 => kernel_rfl)
    (case xe3_9 => kernel_rfl)
    (case xo3_10 => kernel_rfl)
    (case xe3_10 => kernel_rfl)
    (case xo3_11 => kernel_rfl)
    (case xe3_11 => kernel_rfl)
    (case xg4 => k_is)
    (case xh4 => k_is)
    (case xs4 => k_is)
    (case xd4 => k_is)
    (case xc4 => k_is)
    (case xn4 => k_is)
    (case xt4 => k_is)
    (case xm4 => k_is)
    (case xk4 => k_is)
    (case xq4 => k_is)
    (case xu4 => k_is)
    (case xl4 => k_is)
    (case xw4 => k_is)
    (case xz4 => k_is)
    (case xsa4 => k_is)
    (case xff4 => k_is)
    (case xy4 => k_is)
    (case xo4_0 => kernel_rfl)
    (case xe4_0 => kernel_rfl)
    (case xo4_1 => kernel_rfl)
    (case xe4_1 => kernel_rfl)
    (case xo4_2 => kernel_rfl)
    (case xe4_2 => kernel_rfl)
    (case xo4_3 => kernel_rfl)
    (case xe4_3 => kernel_rfl)
    (case xo4_4 => kernel_rfl)
    (case xe4_4 => kernel_rfl)
    (case xo4_5 => kernel_rfl)
    (case xe4_5 => kernel_rfl)
    (case xo4_6 => kernel_rfl)
    (case xe4_6 => kernel_rfl)
    (case xo4_7 => kernel_rfl)
    (case xe4_7 => kernel_rfl)
    (case xo4_8 => kernel_rfl)
    (case xe4_8 => kernel_rfl)
    (case xo4_9 => kernel_rfl)
    (case xe4_9 => kernel_rfl)
    (case xo4_10 => kernel_rfl)
    (case xe4_10 => kernel_rfl)
    (case xo4_11 => kernel_rfl)
    (case xe4_11 => kernel_rfl)
    (case xg5 => k_is)
    (case xh5 => k_is)
    (case xs5 => k_is)
    (case xd5 => k_is)
    (case xc5 => k_is)
    (case xn5 => k_is)
    (case xt5 => k_is)
    (case xm5 => k_is)
    (case xk5 => k_is)
    (case xi5 => kernel_rfl)
    (case xy5 => k_is)
    (case xo5_0 => kernel_rfl)
    (case xe5_0 => kernel_rfl)
    (case xo5_1 => kernel_rfl)
    (case xe5_1 => kernel_rfl)
    (case xo5_2 => kernel_rfl)
    (case xe5_2 => kernel_rfl)
    (case xo5_3 => kernel_rfl)
    (case xe5_3 => kernel_rfl)
    (case xo5_4 => kernel_rfl)
    (case xe5_4 => kernel_rfl)
    (case xo5_5 => kernel_rfl)
    (case xe5_5 => kernel_rfl)
    (case xo5_6 => kernel_rfl)
    (case xe5_6 => kernel_rfl)
    (case xo5_7 => kernel_rfl)
    (case xe5_7 => kernel_rfl)
    (case xo5_8 => kernel_rfl)
    (case xe5_8 => kernel_rfl)
    (case xo5_9 => kernel_rfl)
    (case xe5_9 => kernel_rfl)
    (case xo5_10 => kernel_rfl)
    (case xe5_10 => kernel_rfl)
    (case xo5_11 => kernel_rfl)
    (case xe5_11 => kernel_rfl)
    (case xg6 => k_is)
    (case xh6 => k_is)
    (case xs6 => k_is)
    (case xd6 => k_is)
    (case xc6 => k_is)
    (case xn6 => k_is)
    (case xt6 => k_is)
    (case xm6 => k_is)
    (case xk6 => k_is)
    (case xq6 => k_is)
    (case xu6 => k_is)
    (case xl6 => k_is)
    (case xw6 => k_is)
    (case xz6 => k_is)
    (case xsa6 => k_is)
    (case xff6 => k_is)
    (case xy6 => k_is)
    (case xo6_0 => kernel_rfl)
    (case xe6_0 => kernel_rfl)
    (case xo6_1 => kernel_rfl)
    (case xe6_1 => kernel_rfl)
    (case xo6_2 => kernel_rfl)
    (case xe6_2 => kernel_rfl)
    (case xo6_3 => kernel_rfl)
    (case xe6_3 => kernel_rfl)
    (case xo6_4 => kernel_rfl)
    (case xe6_4 => kernel_rfl)
    (case xo6_5 => kernel_rfl)
    (case xe6_5 => kernel_rfl)
    (case xo6_6 => kernel_rfl)
    (case xe6_6 => kernel_rfl)
    (case xo6_7 => kernel_rfl)
    (case xe6_7 => kernel_rfl)
    (case xo6_8 => kernel_rfl)
    (case xe6_8 => kernel_rfl)
    (case xo6_9 => kernel_rfl)
    (case xe6_9 => kernel_rfl)
    (case xo6_10 => kernel_rfl)
    (case xe6_10 => kernel_rfl)
    (case xo6_11 => kernel_rfl)
    (case xe6_11 => kernel_rfl)
    (case xg7 => k_is)
    (case xh7 => k_is)
    (case xs7 => k_is)
    (case xd7 => k_is)
    (case xc7 => k_is)
    (case xn7 => k_is)
    (case xt7 => k_is)
    (case xm7 => k_is)
    (case xk7 => k_is)
    (case xq7 => k_is)
    (case xu7 => k_is)
    (case xl7 => k_is)
    (case xw7 => k_is)
    (case xz7 => k_is)
    (case xsa7 => k_is)
    (case xff7 => k_is)
    (case xy7 => k_is)
    (case xo7_0 => kernel_rfl)
    (case xe7_0 => kernel_rfl)
    (case xo7_1 => kernel_rfl)
    (case xe7_1 => kernel_rfl)
    (case xo7_2 => kernel_rfl)
    (case xe7_2 => kernel_rfl)
    (case xo7_3 => kernel_rfl)
    (case xe7_3 => kernel_rfl)
    (case xo7_4 => kernel_rfl)
    (case xe7_4 => kernel_rfl)
    (case xo7_5 => kernel_rfl)
    (case xe7_5 => kernel_rfl)
    (case xo7_6 => kernel_rfl)
    (case xe7_6 => kernel_rfl)
    (case xo7_7 => kernel_rfl)
    (case xe7_7 => kernel_rfl)
    (case xo7_8 => kernel_rfl)
    (case xe7_8 => kernel_rfl)
    (case xo7_9 => kernel_rfl)
    (case xe7_9 => kernel_rfl)
    (case xo7_10 => kernel_rfl)
    (case xe7_10 => kernel_rfl)
    (case xo7_11 => kernel_rfl)
    (case xe7_11 => kernel_rfl)
    (case xg8 => k_is)
    (case xh8 => k_is)
    (case xs8 => k_is)
    (case xd8 => k_is)
    (case xc8 => k_is)
    (case xn8 => k_is)
    (case xt8 => k_is)
    (case xm8 => k_is)
    (case xk8 => k_is)
    (case xq8 => k_is)
    (case xu8 => k_is)
    (case xl8 => k_is)
    (case xw8 => k_is)
    (case xz8 => k_is)
    (case xsa8 => k_is)
    (case xff8 => k_is)
    (case xy8 => k_is)
    (case xo8_0 => kernel_rfl)
    (case xe8_0 => kernel_rfl)
    (case xo8_1 => kernel_rfl)
    (case xe8_1 => kernel_rfl)
    (case xo8_2 => kernel_rfl)
    (case xe8_2 => kernel_rfl)
    (case xo8_3 => kernel_rfl)
    (case xe8_3 => kernel_rfl)
    (case xo8_4 => kernel_rfl)
    (case xe8_4 => kernel_rfl)
    (case xo8_5 => kernel_rfl)
    (case xe8_5 => kernel_rfl)
    (case xo8_6 => kernel_rfl)
    (case xe8_6 => kernel_rfl)
    (case xo8_7 => kernel_rfl)
    (case xe8_7 => kernel_rfl)
    (case xo8_8 => kernel_rfl)
    (case xe8_8 => kernel_rfl)
    (case xo8_9 => kernel_rfl)
    (case xe8_9 => kernel_rfl)
    (case xo8_10 => kernel_rfl)
    (case xe8_10 => kernel_rfl)
    (case xo8_11 => kernel_rfl)
    (case xe8_11 => kernel_rfl)
    (case xg9 => k_is)
    (case xh9 => k_is)
    (case xs9 => k_is)
    (case xd9 => k_is)
    (case xc9 => k_is)
    (case xn9 => k_is)
    (case xt9 => k_is)
    (case xm9 => k_is)
    (case xk9 => k_is)
    (case xi9 => kernel_rfl)
    (case xy9 => k_is)
    (case xo9_0 => kernel_rfl)
    (case xe9_0 => kernel_rfl)
    (case xo9_1 => kernel_rfl)
    (case xe9_1 => kernel_rfl)
    (case xo9_2 => kernel_rfl)
    (case xe9_2 => kernel_rfl)
    (case xo9_3 => kernel_rfl)
    (case xe9_3 => kernel_rfl)
    (case xo9_4 => kernel_rfl)
    (case xe9_4 => kernel_rfl)
    (case xo9_5 => kernel_rfl)
    (case xe9_5 => kernel_rfl)
    (case xo9_6 => kernel_rfl)
    (case xe9_6 => kernel_rfl)
    (case xo9_7 => kernel_rfl)
    (case xe9_7 => kernel_rfl)
    (case xo9_8 => kernel_rfl)
    (case xe9_8 => kernel_rfl)
    (case xo9_9 => kernel_rfl)
    (case xe9_9 => kernel_rfl)
    (case xo9_10 => kernel_rfl)
    (case xe9_10 => kernel_rfl)
    (case xo9_11 => kernel_rfl)
    (case xe9_11 => kernel_rfl)
    (case xg10 => k_is)
    (case xh10 => k_is)
    (case xs10 => k_is)
    (case xd10 => k_is)
    (case xc10 => k_is)
    (case xn10 => k_is)
    (case xt10 => k_is)
    (case xm10 => k_is)
    (case xk10 => k_is)
    (case xq10 => k_is)
    (case xu10 => k_is)
    (case xl10 => k_is)
    (case xw10 => k_is)
    (case xz10 => k_is)
    (case xsa10 => k_is)
    (case xff10 => k_is)
    (case xy10 => k_is)
    (case xo10_0 => kernel_rfl)
    (case xe10_0 => kernel_rfl)
    (case xo10_1 => kernel_rfl)
    (case xe10_1 => kernel_rfl)
    (case xo10_2 => kernel_rfl)
    (case xe10_2 => kernel_rfl)
    (case xo10_3 => kernel_rfl)
    (case xe10_3 => kernel_rfl)
    (case xo10_4 => kernel_rfl)
    (case xe10_4 => kernel_rfl)
    (case xo10_5 => kernel_rfl)
    (case xe10_5 => kernel_rfl)
    (case xo10_6 => kernel_rfl)
    (case xe10_6 => kernel_rfl)
    (case xo10_7 => kernel_rfl)
    (case xe10_7 => kernel_rfl)
    (case xo10_8 => kernel_rfl)
    (case xe10_8 => kernel_rfl)
    (case xo10_9 => kernel_rfl)
    (case xe10_9 => kernel_rfl)
    (case xo10_10 => kernel_rfl)
    (case xe10_10 => kernel_rfl)
    (case xo10_11 => kernel_rfl)
    (case xe10_11 => kernel_rfl)
    (case a1 => k_is)
    (case l1 => k_is)
    (case c1 => k_is)
    (case k1 => k_is)
    (case a2 => k_is)
    (case l2 => k_is)
    (case c2 => k_is)
    (case k2 => k_is)
    (case a3 => k_is)
    (case l3 => k_is)
    (case c3 => k_is)
    (case k3 => k_is)
    (case a4 => k_is)
    (case l4 => k_is)
    (case c4 => k_is)
    (case k4 => k_is)
    (case a5 => k_is)
    (case l5 => k_is)
    (case c5 => k_is)
    (case k5 => k_is)
    (case a6 => k_is)
    (case l6 => k_is)
    (case c6 => k_is)
    (case k6 => k_is)
    (case a7 => k_is)
    (case l7 => k_is)
    (case c7 => k_is)
    (case k7 => k_is)
    (case b0 => k_is)
    (case b1 => k_is)
    (case b2 => k_is)
    (case b3 => k_is)
    (case b4 => k_is)
    (case b5 => k_is)
    (case b6 => k_is)
    (case b7 => k_is)
    (case b8 => k_is)
    (case b9 => k_is)
    (case b10 => k_is)
    (case b11 => k_is)
    (case b12 => k_is)
    (case b13 => k_is)
    (case b14 => k_is)
    (case b15 => k_is)
    (case b16 => k_is)
    (case b17 => k_is)
    (case b18 => k_is)
    (case b19 => k_is)
    (case nl => kernel_rfl)
