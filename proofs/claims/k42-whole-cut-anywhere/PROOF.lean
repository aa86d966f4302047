import PyProof.Rows.All
import Wide.All
import OpenK.AllK
import Wide.FinOn
import HandS.Text
import HandS.Base
import HandS.Call
import HandS.List
import HandS.Comp
import HandS.Dict
import HandS.Iter
import HandS.Ends
import HandS.Words
import HandS.WordsList
import HandS.Walk
import HandS.IsInst
import HandS.StrMore
import HandS.Deep
import HandS.Defaults
import PySem.Challenge.RW_tierstore_k42_whole_cut_anywhere
import HandS.SortKw
import KE.DataMinMax
import HandS.Codes
import KE.KStateDown
import Lean
import HandS.More
import HandS.WordsExc
import HandS.Head0
import HandS.Head1
import HandS.Head2
import HandS.HeadEnd
import HandS.HeadHook1
import HandS.HeadHook2
set_option Elab.async false
set_option linter.all false
set_option maxRecDepth 100000
set_option maxHeartbeats 0
/-! The plain law: journals as lists of codes. -/
namespace K42
open PySem TL
open PySem.NumText (AllDigits digitsVal)

/-- a text of these codes -/
abbrev S (l : List Nat) : Str := ⟨l.toArray⟩
theorem tl_S (l : List Nat) : tl (S l) = l := rfl
theorem len_S (l : List Nat) : (S l).length = l.length := by rw [len_tl]
theorem S_inj {a b : List Nat} (h : S a = S b) : a = b := congrArg tl h
theorem S_app (a b : List Nat) : S a ++ S b = S (a ++ b) := ext_tl (by rw [tl_append])

inductive Deed where
  | drop (k : List Nat)
  | put (k v : List Nat)
  deriving DecidableEq

def okS (l : List Nat) : Prop := ∀ c ∈ l, 32 ≤ c ∧ c ≤ 126
def okKey (k : List Nat) : Prop := 1 ≤ k.length ∧ k.length ≤ 20 ∧ okS k
def okVal (v : List Nat) : Prop := v.length ≤ 40 ∧ okS v
def Deed.ok : Deed → Prop
  | .drop k => okKey k
  | .put k v => okKey k ∧ okVal v

/-! ### numbers of a fixed width -/
def pad (w n : Nat) : List Nat := List.replicate (w - (numL n).length) 48 ++ numL n
theorem pad_digits (w n : Nat) : AllDigits (pad w n) := fun c hc => by
  rcases List.mem_append.mp hc with h | h
  · have e := (List.mem_replicate.mp h).2
    omega
  · exact numL_digits n c h
theorem pad_len {w n : Nat} (hw : 0 < w) (h : n < 10 ^ w) : (pad w n).length = w := by
  have := numL_len hw h
  unfold pad
  rw [List.length_append, List.length_replicate]
  omega
theorem pad_ne (w n : Nat) : pad w n ≠ [] := fun e => numL_ne n (List.append_eq_nil_iff.mp e).2
theorem val_zeros : ∀ (k : Nat) (l : List Nat), digitsVal (List.replicate k 48 ++ l) = digitsVal l
  | 0, l => by rw [List.replicate_zero, List.nil_append]
  | k + 1, l => by
    rw [List.replicate_succ, List.cons_append]
    exact val_zeros k l
theorem pad_val (w n : Nat) : digitsVal (pad w n) = n := by
  unfold pad
  rw [val_zeros, numL_val]
/-- str(n).zfill(w) -/
theorem zfill_pad (w n : Nat) : Txt.zfill (S (numL n)) (w : Int) = S (pad w n) := by
  refine ext_tl ?_
  show tl _ = pad w n
  have hl : (S (numL n)).length = (numL n).length := len_S _
  unfold Txt.zfill
  by_cases h : (w : Int) ≤ ((S (numL n)).length : Nat)
  · rw [if_pos h]
    unfold pad
    have : w - (numL n).length = 0 := by omega
    rw [this]
    rfl
  · rw [if_neg h]
    have hz : (numL n) ≠ [] := numL_ne n
    obtain ⟨c, r, e⟩ : ∃ c r, numL n = c :: r := by
      cases q : numL n with
      | nil => exact absurd q hz
      | cons c r => exact ⟨c, r, rfl⟩
    have hc := numL_digits n c (by rw [e]; exact List.mem_cons_self ..)
    have key : zfilled (S (numL n)) ((w : Int).toNat - (S (numL n)).length) = Builtin.Str.padded (S (numL n)) ((w : Int).toNat - (S (numL n)).length) 0 48 := by
      unfold zfilled
      have e0 : (S (numL n)).cps[0]? = some c := by
        show (numL n).toArray[0]? = some c
        rw [e]
        rfl
      rw [e0]
      split
      · rename_i q
        have := Option.some.inj q
        omega
      · rename_i q
        have := Option.some.inj q
        omega
      · rfl
    rw [key]
    show (Array.replicate _ 48 ++ (numL n).toArray ++ Array.replicate 0 48).toList = _
    unfold pad
    rw [hl]
    simp

/-! ### lines, bodies, records -/
def lineOf : Deed → List Nat
  | .drop k => 103 :: (pad 2 k.length ++ k)
  | .put k v => 112 :: (pad 2 k.length ++ (k ++ v))
def bodyOf (ds : List Deed) : List Nat := (ds.map fun d => lineOf d ++ [10]).flatten
def headOf (st n len : Nat) : List Nat := pad 9 st ++ (32 :: (pad 2 n ++ (32 :: (pad 5 len ++ [10]))))
abbrev Rec := Nat × List Deed
def recOf (r : Rec) : List Nat := headOf r.1 r.2.length (bodyOf r.2).length ++ bodyOf r.2
structure Rec.ok (r : Rec) : Prop where
  s1 : 1 ≤ r.1
  s2 : r.1 ≤ 999999999
  n1 : 1 ≤ r.2.length
  n2 : r.2.length ≤ 20
  ds : ∀ d ∈ r.2, d.ok

theorem okS_nl {l : List Nat} (h : okS l) : 10 ∉ l := fun m => by have := h 10 m; omega
theorem line_nl {d : Deed} (h : d.ok) : 10 ∉ lineOf d := by
  have pd : ∀ n, 10 ∉ pad 2 n := fun n m => by have := pad_digits 2 n 10 m; omega
  cases d with
  | drop k =>
    have hk : okKey k := h
    simp only [lineOf, List.mem_cons, List.mem_append]
    rintro (e | e | e)
    · omega
    · exact pd _ e
    · exact okS_nl hk.2.2 e
  | put k v =>
    have hk : okKey k ∧ okVal v := h
    simp only [lineOf, List.mem_cons, List.mem_append]
    rintro (e | e | e | e)
    · omega
    · exact pd _ e
    · exact okS_nl hk.1.2.2 e
    · exact okS_nl hk.2.2 e
theorem line_len {d : Deed} (h : d.ok) : 4 ≤ (lineOf d).length ∧ (lineOf d).length ≤ 63 := by
  cases d with
  | drop k =>
    have hk : okKey k := h
    have := pad_len (w := 2) (n := k.length) (by omega) (by have := hk.2.1; omega)
    have := hk.1
    have := hk.2.1
    simp only [lineOf, List.length_cons, List.length_append]
    omega
  | put k v =>
    have hk : okKey k ∧ okVal v := h
    have := pad_len (w := 2) (n := k.length) (by omega) (by have := hk.1.2.1; omega)
    have := hk.1.1
    have := hk.1.2.1
    have := hk.2.1
    simp only [lineOf, List.length_cons, List.length_append]
    omega
theorem body_cons (d : Deed) (ds : List Deed) : bodyOf (d :: ds) = (lineOf d ++ [10]) ++ bodyOf ds := rfl
theorem body_len : ∀ (ds : List Deed), (∀ d ∈ ds, d.ok) → (bodyOf ds).length ≤ 64 * ds.length
  | [], _ => Nat.le_refl _
  | d :: ds, h => by
    have h1 := (line_len (h d (List.mem_cons_self ..))).2
    have h2 := body_len ds fun x hx => h x (List.mem_cons_of_mem _ hx)
    simp only [body_cons, List.length_append, List.length_cons, List.length_nil]
    omega
theorem Rec.ok.blen {r : Rec} (h : r.ok) : (bodyOf r.2).length ≤ 1280 := by
  have := body_len r.2 h.ds
  have := h.n2
  omega
theorem head_len {st n len : Nat} (h1 : st ≤ 999999999) (h2 : n ≤ 20) (h3 : len < 100000) : (headOf st n len).length = 19 := by
  have a := pad_len (w := 9) (n := st) (by omega) (by omega)
  have b := pad_len (w := 2) (n := n) (by omega) (by omega)
  have c := pad_len (w := 5) (n := len) (by omega) (by omega)
  simp only [headOf, List.length_append, List.length_cons, List.length_nil]
  omega
theorem Rec.ok.hlen {r : Rec} (h : r.ok) : (headOf r.1 r.2.length (bodyOf r.2).length).length = 19 := by
  have := h.blen
  exact head_len h.s2 h.n2 (by omega)
theorem Rec.ok.len {r : Rec} (h : r.ok) : (recOf r).length = 19 + (bodyOf r.2).length := by
  unfold recOf
  rw [List.length_append, h.hlen]
/-- the body but its last line end: the lines joined by line ends -/
theorem body_join : ∀ ds : List Deed, ds ≠ [] → bodyOf ds = joinL [10] (ds.map lineOf) ++ [10]
  | [], h => absurd rfl h
  | [d], _ => by
    rw [body_cons]
    show (lineOf d ++ [10]) ++ [] = lineOf d ++ [10]
    rw [List.append_nil]
  | d :: e :: r, _ => by
    rw [body_cons, body_join (e :: r) (by simp)]
    show lineOf d ++ [10] ++ (joinL [10] ((e :: r).map lineOf) ++ [10]) = (lineOf d ++ ([10] ++ joinL [10] ((e :: r).map lineOf))) ++ [10]
    simp only [List.append_assoc]

/-! ### journals -/
def jour (rs : List Rec) : List Nat := (rs.map recOf).flatten
theorem jour_cons (r : Rec) (rs : List Rec) : jour (r :: rs) = recOf r ++ jour rs := rfl
theorem jour_app (a b : List Rec) : jour (a ++ b) = jour a ++ jour b := by
  unfold jour
  rw [List.map_append, List.flatten_append]
theorem jour_one (r : Rec) : jour [r] = recOf r := by
  rw [jour_cons]
  show recOf r ++ [] = _
  rw [List.append_nil]
/-- the places behind the first i records -/
def endAt (rs : List Rec) (i : Nat) : Nat := (jour (rs.take i)).length
def endsOf (rs : List Rec) : List Nat := (List.range (rs.length + 1)).map (endAt rs)
theorem endAt_zero (rs : List Rec) : endAt rs 0 = 0 := by
  unfold endAt
  rw [List.take_zero]
  rfl
theorem endAt_all (rs : List Rec) : endAt rs rs.length = (jour rs).length := by
  unfold endAt
  rw [List.take_length]
theorem endAt_cons (r : Rec) (rs : List Rec) (i : Nat) : endAt (r :: rs) (i + 1) = (recOf r).length + endAt rs i := by
  unfold endAt
  rw [List.take_succ_cons, jour_cons, List.length_append]
theorem endAt_app (rs : List Rec) (r : Rec) {i : Nat} (h : i ≤ rs.length) : endAt (rs ++ [r]) i = endAt rs i := by
  unfold endAt
  rw [List.take_append_of_le_length h]
theorem endsOf_app (rs : List Rec) (r : Rec) : endsOf (rs ++ [r]) = endsOf rs ++ [(jour (rs ++ [r])).length] := by
  unfold endsOf
  rw [List.length_append, List.length_singleton, List.range_succ, List.map_append, List.map_singleton]
  congr 1
  · refine List.map_congr_left fun i hi => ?_
    have := List.mem_range.mp hi
    exact endAt_app rs r (by omega)
  · have e := endAt_all (rs ++ [r])
    rw [List.length_append, List.length_singleton] at e
    rw [e]
theorem endsOf_nil : endsOf [] = [0] := rfl
theorem endsOf_len (rs : List Rec) : (endsOf rs).length = rs.length + 1 := by
  unfold endsOf
  rw [List.length_map, List.length_range]
theorem endsOf_get (rs : List Rec) {i : Nat} (h : i ≤ rs.length) : (endsOf rs)[i]? = some (endAt rs i) := by
  unfold endsOf
  rw [List.getElem?_map, List.getElem?_range (by omega)]
  rfl
theorem endsOf_cons (r : Rec) (rs : List Rec) : endsOf (r :: rs) = 0 :: (endsOf rs).map fun e => (recOf r).length + e := by
  unfold endsOf
  rw [List.length_cons, List.range_succ_eq_map, List.map_cons, endAt_zero, List.map_map, List.map_map]
  congr 1
  refine List.map_congr_left fun i _ => ?_
  exact endAt_cons r rs i
/-- what is left behind the whole records -/
def Torn (l : List Nat) : Prop := l.length < 19 ∨ ∃ r : Rec, r.ok ∧ ∃ k, k < (recOf r).length ∧ l = (recOf r).take k
theorem torn_nil : Torn [] := .inl (by show 0 < 19; omega)
/-- how many ends lie within the cut -/
def within (rs : List Rec) (c : Nat) : Nat := ((endsOf rs).filter fun e => decide (e ≤ c)).length
theorem filter_shift (k c : Nat) (h : k ≤ c) : ∀ l : List Nat, ((l.map fun e => k + e).filter fun e => decide (e ≤ c)).length = (l.filter fun e => decide (e ≤ c - k)).length
  | [] => rfl
  | e :: r => by
    have ih := filter_shift k c h r
    rw [List.map_cons]
    by_cases q : e ≤ c - k
    · rw [List.filter_cons_of_pos (by simpa using (show k + e ≤ c by omega)), List.filter_cons_of_pos (by simpa using q), List.length_cons, List.length_cons, ih]
    · rw [List.filter_cons_of_neg (by simpa using (show c < k + e by omega)), List.filter_cons_of_neg (by simpa using (show c - k < e by omega)), ih]
theorem filter_none (k c : Nat) (h : c < k) : ∀ l : List Nat, ((l.map fun e => k + e).filter fun e => decide (e ≤ c)) = []
  | [] => rfl
  | e :: r => by
    rw [List.map_cons, List.filter_cons_of_neg (by simpa using (show c < k + e by omega)), filter_none k c h r]
/-- THE PLAIN LAW: what is cut is read to the records that lie whole in it -/
theorem cut_law : ∀ (rs : List Rec) (c : Nat), (∀ r ∈ rs, r.ok) → c ≤ (jour rs).length →
    ∃ w rest, within rs c = w + 1 ∧ w ≤ rs.length ∧ (jour rs).take c = jour (rs.take w) ++ rest ∧ Torn rest
  | [], c, _, hc => by
    have e : c = 0 := by
      have : (jour []).length = 0 := rfl
      omega
    subst e
    exact ⟨0, [], rfl, Nat.le_refl _, rfl, torn_nil⟩
  | r :: rs, c, h, hc => by
    by_cases q : c < (recOf r).length
    · refine ⟨0, (recOf r).take c, ?_, Nat.zero_le _, ?_, .inr ⟨r, h r (List.mem_cons_self ..), c, q, rfl⟩⟩
      · unfold within
        rw [endsOf_cons, List.filter_cons_of_pos (by simp), filter_none _ _ q]
        rfl
      · rw [jour_cons, List.take_append_of_le_length (by omega), List.take_zero]
        rfl
    · obtain ⟨w, rest, h1, h2, h3, h4⟩ := cut_law rs (c - (recOf r).length) (fun x hx => h x (List.mem_cons_of_mem _ hx)) (by
        rw [jour_cons, List.length_append] at hc
        omega)
      refine ⟨w + 1, rest, ?_, by rw [List.length_cons]; omega, ?_, h4⟩
      · unfold within at h1 ⊢
        rw [endsOf_cons, List.filter_cons_of_pos (by simp), List.length_cons, filter_shift _ _ (by omega), h1]
      · rw [jour_cons, List.take_append, List.take_of_length_le (by omega), h3, List.take_succ_cons, jour_cons, List.append_assoc]
theorem jour_len_le : ∀ (rs : List Rec), (∀ r ∈ rs, r.ok) → (jour rs).length ≤ 1299 * rs.length
  | [], _ => Nat.le_refl _
  | r :: rs, h => by
    have h1 := h r (List.mem_cons_self ..)
    have h2 := jour_len_le rs fun x hx => h x (List.mem_cons_of_mem _ hx)
    have h3 := h1.len
    have h4 := h1.blen
    rw [jour_cons, List.length_append, List.length_cons]
    omega
theorem jour_drop (rs : List Rec) (rest : List Nat) (i : Nat) : (jour rs ++ rest).drop (endAt rs i) = jour (rs.drop i) ++ rest := by
  have e : jour rs = jour (rs.take i) ++ jour (rs.drop i) := by rw [← jour_app, List.take_append_drop]
  rw [e, List.append_assoc]
  exact List.drop_left
theorem endAt_succ {rs : List Rec} {i : Nat} {r : Rec} (h : rs[i]? = some r) : endAt rs (i + 1) = endAt rs i + (recOf r).length := by
  unfold endAt
  rw [List.take_add_one, h]
  show (jour (rs.take i ++ [r])).length = _
  rw [jour_app, jour_one, List.length_append]
theorem endAt_le (rs : List Rec) (i : Nat) : endAt rs i ≤ (jour rs).length := by
  have e : jour rs = jour (rs.take i) ++ jour (rs.drop i) := by rw [← jour_app, List.take_append_drop]
  rw [e, List.length_append]
  exact Nat.le_add_right _ _
theorem drop_at {rs : List Rec} {i : Nat} {r : Rec} (h : rs[i]? = some r) (rest : List Nat) : (jour rs ++ rest).drop (endAt rs i) = recOf r ++ (jour (rs.drop (i + 1)) ++ rest) := by
  obtain ⟨hi, e⟩ := List.getElem?_eq_some_iff.mp h
  rw [jour_drop, List.drop_eq_getElem_cons hi, e, jour_cons, List.append_assoc]
theorem rec_head {r : Rec} (h : r.ok) (t : List Nat) : (recOf r ++ t).take 19 = headOf r.1 r.2.length (bodyOf r.2).length := by
  unfold recOf
  rw [List.append_assoc]
  exact List.take_left' h.hlen
theorem rec_body {r : Rec} (h : r.ok) (t : List Nat) : ((recOf r ++ t).drop 19).take (bodyOf r.2).length = bodyOf r.2 := by
  unfold recOf
  rw [List.append_assoc, List.drop_left' h.hlen]
  exact List.take_left
theorem torn_head {r : Rec} (h : r.ok) {k : Nat} (hk : 19 ≤ k) : ((recOf r).take k).take 19 = headOf r.1 r.2.length (bodyOf r.2).length := by
  rw [List.take_take, Nat.min_eq_left hk]
  have e := rec_head h []
  rw [List.append_nil] at e
  exact e
end K42

/-! The text's defs by their places; data in the heap; what is new. -/
namespace K42
open PySem PySem.Spec PyProof.Rows L2 TL

def top (i : Nat) : Stmt := PySem.Challenge.pw_tierstore_k42_whole_cut_anywhere.main.body.getD i (.Pass ⟨0, 0, 0, 0⟩)
abbrev FnP (K : PySem.W.Frag) (x : Str) (st : Stmt) (f : Addr) (fd : FuncData) : Prop := FunD K x x (defArgs st) (defBody st) (defScope st) [] [] f fd

/-! ### heaps -/
theorem same_tup {K : PySem.W.Frag} {H H' : Hp} {a : Addr} {xs : List V} (e : Same H H') (h : SqT K H a xs) : SqT K H' a xs := by
  rcases h with (h | ⟨o, h⟩) | h
  · exact .inl (.inl (e _ _ h))
  · exact .inl (.inr ⟨o, e _ _ h⟩)
  · exact .inr h
theorem same_new {H : Hp} {p : Addr} {o : HO} (h : H p = none) : Same H (upd H p o) := fun b x e => by
  rw [upd_ne (ne_of_none e h)]
  exact e
/-- a change at an address that G does not know -/
theorem same_wr {G H : Hp} {p : Addr} {o : HO} (s : Same G H) (h : G p = none) : Same G (upd H p o) := fun b x e => by
  rw [upd_ne (ne_of_none e h)]
  exact s b x e
mutual
theorem Dp.mono {K : PySem.W.Frag} {G H : Hp} (s : Same G H) : ∀ (d : PyData) (v : V), Dp K G v d → Dp K H v d
  | .none, _, h => by cases h; exact .non
  | .bool b, _, h => by cases h; exact .bl _
  | .int i, _, h => by cases h; exact .int _
  | .str x, _, h => by cases h; exact .str _
  | .list ds, _, h => by
    cases h with
    | lst h1 h2 => exact .lst (s.seq h1) (DpAll.mono s ds _ h2)
  | .tuple ds, _, h => by
    cases h with
    | tup h1 h2 => exact .tup (same_tup s h1) (DpAll.mono s ds _ h2)
  | .dict _, _, h => by cases h
theorem DpAll.mono {K : PySem.W.Frag} {G H : Hp} (s : Same G H) : ∀ (ds : List PyData) (vs : List V), DpAll K G vs ds → DpAll K H vs ds
  | [], _, h => by cases h; exact .nil
  | d :: ds, _, h => by
    cases h with
    | cons h1 h2 => exact .cons (Dp.mono s d _ h1) (DpAll.mono s ds _ h2)
end
theorem DpAll.len {K : PySem.W.Frag} {H : Hp} : ∀ {vs : List V} {ds : List PyData}, DpAll K H vs ds → vs.length = ds.length
  | [], _, h => by cases h; rfl
  | _ :: _, _, h => by
    cases h with
    | cons h1 h2 => rw [List.length_cons, List.length_cons, DpAll.len h2]
theorem DpAll.snoc {K : PySem.W.Frag} {H : Hp} {y : V} {d : PyData} (hy : Dp K H y d) : ∀ {vs : List V} {ds : List PyData}, DpAll K H vs ds → DpAll K H (vs ++ [y]) (ds ++ [d])
  | [], _, h => by cases h; exact .cons hy .nil
  | _ :: _, _, h => by
    cases h with
    | cons h1 h2 => exact .cons h1 (DpAll.snoc hy h2)
theorem DpAll.get {K : PySem.W.Frag} {H : Hp} : ∀ {vs : List V} {ds : List PyData} {i : Nat} {d : PyData}, DpAll K H vs ds → ds[i]? = some d → ∃ v, vs[i]? = some v ∧ Dp K H v d
  | [], _, i, d, h, e => by cases h; cases e
  | v :: vs, _, i, d, h, e => by
    cases h with
    | cons h1 h2 =>
      cases i with
      | zero =>
        cases e
        exact ⟨v, rfl, h1⟩
      | succ i => exact DpAll.get (vs := vs) (i := i) h2 e
theorem DpAll.getL {K : PySem.W.Frag} {H : Hp} : ∀ {vs : List V} {ds : List PyData} {i : Nat} {v : V}, DpAll K H vs ds → vs[i]? = some v → ∃ d, ds[i]? = some d ∧ Dp K H v d
  | [], _, i, d, h, e => by cases e
  | u :: vs, _, i, v, h, e => by
    cases h with
    | cons h1 h2 =>
      cases i with
      | zero =>
        cases e
        exact ⟨_, rfl, h1⟩
      | succ i => exact DpAll.getL (vs := vs) (i := i) h2 e
theorem DpAll.takeD {K : PySem.W.Frag} {H : Hp} : ∀ {vs : List V} {ds : List PyData} (n : Nat), DpAll K H vs ds → DpAll K H (vs.take n) (ds.take n)
  | _, _, 0, _ => .nil
  | [], _, _ + 1, h => by cases h; exact .nil
  | _ :: _, _, n + 1, h => by
    cases h with
    | cons h1 h2 => exact .cons h1 (DpAll.takeD n h2)
theorem DpAll.appD {K : PySem.W.Frag} {H : Hp} : ∀ {vs ws : List V} {ds es : List PyData}, DpAll K H vs ds → DpAll K H ws es → DpAll K H (vs ++ ws) (ds ++ es)
  | [], _, _, _, h, h' => by cases h; exact h'
  | _ :: _, _, _, _, h, h' => by
    cases h with
    | cons h1 h2 => exact .cons h1 (DpAll.appD h2 h')

/-- what H has and B has not -/
def nw (B H : Hp) : Hp := fun b => match B b with
  | none => H b
  | some _ => none
theorem nw_eq {B H : Hp} {b : Addr} (h : B b = none) : nw B H b = H b := by
  unfold nw
  rw [h]
theorem nw_no {B H : Hp} {b : Addr} {o : HO} (h : B b = some o) : nw B H b = none := by
  unfold nw
  rw [h]
theorem nw_sub (B H : Hp) : Same (nw B H) H := fun b o e => by
  cases q : B b with
  | none =>
    rw [nw_eq q] at e
    exact e
  | some u =>
    rw [nw_no q] at e
    cases e
theorem nw_mono {B H H' : Hp} (s : Same H H') : Same (nw B H) (nw B H') := fun b o e => by
  cases q : B b with
  | none =>
    rw [nw_eq q] at e ⊢
    exact s b o e
  | some u =>
    rw [nw_no q] at e
    cases e
/-- B's addresses are among C's -/
def Dom (B C : Hp) : Prop := ∀ b, C b = none → B b = none
theorem Dom.refl (B : Hp) : Dom B B := fun _ h => h
theorem same_dom {B C : Hp} (s : Same B C) : Dom B C := fun b h => s.free h
theorem nw_dom {B C H : Hp} (d : Dom B C) : Same (nw C H) (nw B H) := fun b o e => by
  cases q : C b with
  | none =>
    rw [nw_eq q] at e
    rw [nw_eq (d b q)]
    exact e
  | some u =>
    rw [nw_no q] at e
    cases e
theorem nw_upd {B H : Hp} {p : Addr} {o u : HO} (h : B p = some u) : nw B (upd H p o) = nw B H := by
  funext b
  unfold nw
  cases q : B b with
  | none =>
    have hb : b ≠ p := fun e => by
      rw [e, h] at q
      cases q
    exact upd_ne hb
  | some _ => rfl
theorem nw_new {B H : Hp} {p : Addr} {o : HO} (hB : B p = none) : nw B (upd H p o) p = some o := by
  rw [nw_eq hB, upd_same]

/-! ### types of what is read -/
theorem ty_tup {K : PySem.W.Frag} {H : Hp} {a : Addr} {xs : List V} (h : SqT K H a xs) : TyX K H (.ref a) (.type "tuple") := by
  rcases h with (h | ⟨o, h⟩) | ⟨o, its, n, hk, hc, _⟩
  · exact .base (.tup h)
  · exact .fTuple h
  · exact .kTuple hk hc
theorem ty_lst {K : PySem.W.Frag} {H : Hp} {a : Addr} {xs : List V} (h : SqL K H a xs) : TyX K H (.ref a) (.type "list") := by
  rcases h with (h | ⟨o, h⟩) | ⟨o, its, n, hk, hc, _⟩
  · exact .base (.lst h)
  · exact .base (.frz h)
  · exact .kList hk hc

/-! ### deeds, rows as data -/
def deedD : Deed → PyData
  | .drop k => .tuple [.str "drop", .str (S k)]
  | .put k v => .tuple [.str "put", .str (S k), .str (S v)]
def rowD (r : Rec) : PyData := .tuple [.int (r.1 : Int), .list (r.2.map deedD)]
def trioD (r : Rec) (e : Nat) : PyData := .tuple [.int (r.1 : Int), .list (r.2.map deedD), .int (e : Int)]
theorem at_drop {K : PySem.W.Frag} {H : Hp} {v : V} {k : List Nat} (h : Dp K H v (deedD (.drop k))) : ∃ a, v = .ref a ∧ SqT K H a [.str "drop", .str (S k)] := by
  cases h with
  | tup h1 h2 =>
    cases h2 with
    | cons p q =>
      cases p
      cases q with
      | cons p q =>
        cases p
        cases q
        exact ⟨_, rfl, h1⟩
theorem at_put {K : PySem.W.Frag} {H : Hp} {v : V} {k u : List Nat} (h : Dp K H v (deedD (.put k u))) : ∃ a, v = .ref a ∧ SqT K H a [.str "put", .str (S k), .str (S u)] := by
  cases h with
  | tup h1 h2 =>
    cases h2 with
    | cons p q =>
      cases p
      cases q with
      | cons p q =>
        cases p
        cases q with
        | cons p q =>
          cases p
          cases q
          exact ⟨_, rfl, h1⟩
theorem at_list {K : PySem.W.Frag} {H : Hp} {v : V} {ds : List PyData} (h : Dp K H v (.list ds)) : ∃ a xs, v = .ref a ∧ SqL K H a xs ∧ DpAll K H xs ds := by
  cases h with
  | lst h1 h2 => exact ⟨_, _, rfl, h1, h2⟩
theorem at_tuple {K : PySem.W.Frag} {H : Hp} {v : V} {ds : List PyData} (h : Dp K H v (.tuple ds)) : ∃ a xs, v = .ref a ∧ SqT K H a xs ∧ DpAll K H xs ds := by
  cases h with
  | tup h1 h2 => exact ⟨_, _, rfl, h1, h2⟩
theorem at_int {K : PySem.W.Frag} {H : Hp} {v : V} {i : Int} (h : Dp K H v (.int i)) : v = .int i := by
  cases h
  rfl
theorem ok_str {l : List Nat} (h : okS l) : PyData.canLay0 (.str (S l)) = true := by
  simp only [PyData.canLay0]
  unfold PyData.strOk
  show l.toArray.all _ = true
  rw [List.all_toArray, List.all_eq_true]
  intro c hc
  have := h c hc
  exact decide_eq_true (by omega)
theorem deedD_lay {d : Deed} (h : d.ok) : (deedD d).canLay0 = true := by
  cases d with
  | drop k =>
    have hk : okKey k := h
    have e := ok_str hk.2.2
    have e1 : PyData.canLay0 (.str "drop") = true := by decide +kernel
    simp only [deedD, PyData.canLay0, PyData.canLayAll0] at e e1 ⊢
    rw [e, e1]
    rfl
  | put k v =>
    have hk : okKey k ∧ okVal v := h
    have e := ok_str hk.1.2.2
    have e2 := ok_str hk.2.2
    have e1 : PyData.canLay0 (.str "put") = true := by decide +kernel
    simp only [deedD, PyData.canLay0, PyData.canLayAll0] at e e1 e2 ⊢
    rw [e, e1, e2]
    rfl
theorem deedsD_lay : ∀ {ds : List Deed}, (∀ d ∈ ds, d.ok) → PyData.canLayAll0 (ds.map deedD) = true
  | [], _ => rfl
  | d :: ds, h => by
    rw [List.map_cons, PyData.canLayAll0, deedD_lay (h d (List.mem_cons_self ..)), deedsD_lay fun x hx => h x (List.mem_cons_of_mem _ hx)]
    rfl
theorem deedD_depth (d : Deed) : (deedD d).depth = 1 := by
  cases d <;> simp [deedD, PyData.depth, PyData.depthAll]
theorem deedsD_depth : ∀ ds : List Deed, PyData.depthAll (ds.map deedD) ≤ 1
  | [] => Nat.zero_le _
  | d :: ds => by
    have h1 := deedsD_depth ds
    have h2 := deedD_depth d
    simp only [List.map_cons, PyData.depthAll]
    omega
theorem shaped_of {d : PyData} (h1 : d.canLay0 = true) (h2 : d.depth ≤ 64) : SeqAt.shaped d = true := by
  show (d.canLay0 && decide (d.depth ≤ 64)) = true
  rw [h1, decide_eq_true h2]
  rfl
theorem deedD_shaped {d : Deed} (h : d.ok) : SeqAt.shaped (deedD d) = true := shaped_of (deedD_lay h) (by rw [deedD_depth]; omega)
theorem deedsD_shaped {ds : List Deed} (h : ∀ d ∈ ds, d.ok) : SeqAt.shaped (.list (ds.map deedD)) = true :=
  shaped_of (by simp only [PyData.canLay0]; exact deedsD_lay h) (by
    have := deedsD_depth ds
    simp only [PyData.depth]
    omega)
theorem rowD_lay {r : Rec} (h : ∀ d ∈ r.2, d.ok) : (rowD r).canLay0 = true := by
  simp only [rowD, PyData.canLay0, PyData.canLayAll0]
  rw [deedsD_lay h]
  rfl
theorem rowD_depth (r : Rec) : (rowD r).depth ≤ 3 := by
  have := deedsD_depth r.2
  simp only [rowD, PyData.depth, PyData.depthAll]
  omega
theorem rowsD_lay : ∀ {rs : List Rec}, (∀ r ∈ rs, r.ok) → PyData.canLayAll0 (rs.map rowD) = true
  | [], _ => rfl
  | r :: rs, h => by
    rw [List.map_cons, PyData.canLayAll0, rowD_lay (h r (List.mem_cons_self ..)).ds, rowsD_lay fun x hx => h x (List.mem_cons_of_mem _ hx)]
    rfl
theorem rowsD_depth : ∀ rs : List Rec, PyData.depthAll (rs.map rowD) ≤ 3
  | [] => Nat.zero_le _
  | r :: rs => by
    have h1 := rowsD_depth rs
    have h2 := rowD_depth r
    simp only [List.map_cons, PyData.depthAll]
    omega
theorem rowsD_shaped {rs : List Rec} (h : ∀ r ∈ rs, r.ok) : SeqAt.shaped (.list (rs.map rowD)) = true :=
  shaped_of (by simp only [PyData.canLay0]; exact rowsD_lay h) (by
    have := rowsD_depth rs
    simp only [PyData.depth]
    omega)
theorem rowsD_eqv {rs : List Rec} (h : ∀ r ∈ rs, r.ok) : PyData.eqv (.list (rs.map rowD)) (.list (rs.map rowD)) = true :=
  SeqAt.eqv_refl _ (by simp only [PyData.canLay0]; exact rowsD_lay h)

/-! ### slices of texts -/
theorem cut_to (l : List Nat) (b : Nat) : cutS (S l) none (some (b : Int)) = S (l.take b) := by
  refine ext_tl ?_
  show (((S l).cps.toList.drop (HT.sIx (S l).length 0 none)).take (HT.sIx (S l).length (S l).length (some (b : Int)) - HT.sIx (S l).length 0 none)) = l.take b
  rw [HT.sIx_none, HT.sIx_nat, len_S, List.drop_zero, Nat.sub_zero]
  show l.take (min b l.length) = l.take b
  by_cases h : b ≤ l.length
  · rw [Nat.min_eq_left h]
  · rw [Nat.min_eq_right (by omega), List.take_length, List.take_of_length_le (by omega)]
theorem cut_from (l : List Nat) (a : Nat) : cutS (S l) (some (a : Int)) none = S (l.drop a) := by
  refine ext_tl ?_
  show (((S l).cps.toList.drop (HT.sIx (S l).length 0 (some (a : Int)))).take (HT.sIx (S l).length (S l).length none - HT.sIx (S l).length 0 (some (a : Int)))) = l.drop a
  rw [HT.sIx_none, HT.sIx_nat, len_S]
  show (l.drop (min a l.length)).take (l.length - min a l.length) = l.drop a
  rw [List.take_of_length_le (by rw [List.length_drop]; omega)]
  by_cases h : a ≤ l.length
  · rw [Nat.min_eq_left h]
  · rw [Nat.min_eq_right (by omega), List.drop_length, List.drop_eq_nil_of_le (by omega)]
theorem cut_mid (l : List Nat) (a b : Nat) : cutS (S l) (some (a : Int)) (some (b : Int)) = S ((l.drop a).take (b - a)) := by
  refine ext_tl ?_
  show (((S l).cps.toList.drop (HT.sIx (S l).length 0 (some (a : Int)))).take (HT.sIx (S l).length (S l).length (some (b : Int)) - HT.sIx (S l).length 0 (some (a : Int)))) = (l.drop a).take (b - a)
  rw [HT.sIx_nat, HT.sIx_nat, len_S]
  show (l.drop (min a l.length)).take (min b l.length - min a l.length) = _
  by_cases h : a ≤ l.length
  · rw [Nat.min_eq_left h]
    by_cases h2 : b ≤ l.length
    · rw [Nat.min_eq_left h2]
    · rw [Nat.min_eq_right (show l.length ≤ b by omega), List.take_of_length_le (by rw [List.length_drop]; omega), List.take_of_length_le (by rw [List.length_drop]; omega)]
  · rw [Nat.min_eq_right (show l.length ≤ a by omega), List.drop_length, List.drop_eq_nil_of_le (by omega), List.take_nil, List.take_nil]
theorem cut_but (l : List Nat) (c : Nat) : cutS (S (l ++ [c])) none (some (-1)) = S l := by
  refine ext_tl ?_
  have e : HT.sIx (S (l ++ [c])).length (S (l ++ [c])).length (some (-1)) = l.length := by
    rw [len_S, List.length_append, List.length_singleton]
    show (if (-1 : Int) < 0 then (-1 + ((l.length + 1 : Nat) : Int)).toNat else min (-1 : Int).toNat (l.length + 1)) = l.length
    rw [if_pos (by decide)]
    omega
  show (((S (l ++ [c])).cps.toList.drop (HT.sIx (S (l ++ [c])).length 0 none)).take (HT.sIx (S (l ++ [c])).length (S (l ++ [c])).length (some (-1)) - HT.sIx (S (l ++ [c])).length 0 none)) = l
  rw [e, HT.sIx_none, List.drop_zero, Nat.sub_zero]
  exact List.take_left
theorem cut_last (l : List Nat) (c : Nat) : cutS (S (l ++ [c])) (some (-1)) none = S [c] := by
  refine ext_tl ?_
  have e : HT.sIx (S (l ++ [c])).length 0 (some (-1)) = l.length := by
    rw [len_S, List.length_append, List.length_singleton]
    show (if (-1 : Int) < 0 then (-1 + ((l.length + 1 : Nat) : Int)).toNat else min (-1 : Int).toNat (l.length + 1)) = l.length
    rw [if_pos (by decide)]
    omega
  show (((S (l ++ [c])).cps.toList.drop (HT.sIx (S (l ++ [c])).length 0 (some (-1)))).take (HT.sIx (S (l ++ [c])).length (S (l ++ [c])).length none - HT.sIx (S (l ++ [c])).length 0 (some (-1)))) = [c]
  rw [e, HT.sIx_none, len_S, List.length_append, List.length_singleton]
  show ((l ++ [c]).drop l.length).take _ = [c]
  rw [List.drop_left, Nat.add_sub_cancel_left]
  rfl
theorem small {n : Nat} (h : n ≤ 100000) : n ≤ sizeLine := Nat.le_trans h (by rw [sizeLine_eq]; decide)

/-! ### a comprehension that makes new things -/
/-- D: the new list; acc: what it holds behind i turns, told by R over what is new -/
def PvN (H1 : Hp) (D : Addr) (R : Nat → List V → Hp → Prop) (i : Nat) (H : Hp) : Prop :=
  Same H1 H ∧ ∃ acc, H D = some (.lst acc) ∧ acc.length = i ∧ R i acc (nw (upd H1 D (.lst [])) H)
theorem PvN.start {H1 : Hp} {D : Addr} {R : Nat → List V → Hp → Prop} (hD : H1 D = none) (r : ∀ G, R 0 [] G) : PvN H1 D R 0 (upd H1 D (.lst [])) :=
  ⟨same_new hD, [], upd_same, rfl, r _⟩
theorem PvN.dom {H1 H : Hp} {D : Addr} {R : Nat → List V → Hp → Prop} {i : Nat} (p : PvN H1 D R i H) : Dom (upd H1 D (.lst [])) H := fun b hb => by
  obtain ⟨s, acc, e, _⟩ := p
  have hne : b ≠ D := fun q => by
    rw [q, e] at hb
    cases hb
  rw [upd_ne hne]
  exact s.free hb
theorem PvN.next {H1 H H4 : Hp} {D : Addr} {R : Nat → List V → Hp → Prop} {i : Nat} {y : V} (hD : H1 D = none) (p : PvN H1 D R i H) (s : Same H H4) (hi : i ≤ 100000)
    (r : ∀ acc, acc.length = i → R i acc (nw (upd H1 D (.lst [])) H) → R (i + 1) (acc ++ [y]) (nw (upd H1 D (.lst [])) H4)) :
    ∃ acc, H4 D = some (.lst acc) ∧ acc.length < sizeLine ∧ PvN H1 D R (i + 1) (upd H4 D (.lst (acc ++ [y]))) := by
  obtain ⟨s1, acc, e, hl, q⟩ := p
  refine ⟨acc, s _ _ e, ?_, same_wr (s1.trans s) hD, acc ++ [y], upd_same, ?_, ?_⟩
  · rw [hl]
    exact Nat.lt_of_le_of_lt hi (by rw [sizeLine_eq]; decide)
  · rw [List.length_append, hl, List.length_singleton]
  · rw [nw_upd (u := .lst []) upd_same]
    exact r acc hl q
/-- what it has made, as new things of the whole -/
theorem PvN.fin {K : PySem.W.Frag} {H0 H1 H : Hp} {D : Addr} {ds : List PyData} {vs : List V} {R : Nat → List V → Hp → Prop} {i : Nat} (s0 : Same H0 H1) (hD : H1 D = none) (p : PvN H1 D R i H) (e : H D = some (.lst vs)) (h : DpAll K (nw (upd H1 D (.lst [])) H) vs ds) :
    Dp K (nw H0 H) (.ref D) (.list ds) := by
  refine .lst (.inl (.inl ?_)) (DpAll.mono (nw_dom ?_) _ _ h)
  · rw [nw_eq (s0.free hD)]
    exact e
  · exact same_dom (s0.trans (same_new hD))
end K42
namespace K42
open PySem PySem.Spec PyProof.Rows L2 TL
/-- a def of the text, where it stands, how it is called -/
structure At (K : PySem.W.Frag) (mg : Str → Option Value) (x : Str) (st : Stmt) (ps : List Str) (f : Addr) (fd : FuncData) : Prop where
  F : FnP K x st f fd
  g : mg x = some (.ref f)
  b : Binds K fd ps []
end K42

/-! keys.py: what is a text, a key, a value, a stamp, a deed. -/
namespace K42
open PySem PySem.Spec PyProof.Rows L2 TL
/-- what the module's names stand for -/
structure Txt (mg : Str → Option Value) : Prop where
  isi : mg "isinstance" = none
  str : mg "str" = none
  len : mg "len" = none
  all : mg "all" = none
  int : mg "int" = none
  bool : mg "bool" = none
  tuple : mg "tuple" = none
  list : mg "list" = none
  range : mg "range" = none
  min : mg "min" = none
  max : mg "max" = none
  enum : mg "enumerate" = none
  mKey : ∃ t, mg "MOST_KEY" = some (.int 20 t)
  mVal : ∃ t, mg "MOST_VALUE" = some (.int 40 t)
  mStamp : ∃ t, mg "MOST_STAMP" = some (.int 999999999 t)
  head : ∃ t, mg "HEAD" = some (.int 19 t)
  mDeeds : ∃ t, mg "MOST_DEEDS" = some (.int 20 t)

abbrev sText : Stmt := top 9
abbrev sKey : Stmt := top 10
abbrev sVal : Stmt := top 11
abbrev sWhole : Stmt := top 12
abbrev sStamp : Stmt := top 13
abbrev sDeed : Stmt := top 14
theorem scText : FnScope ["thing", "least", "most", "sign"] ["thing", "least", "most"] (defScope sText) := ⟨rfl, rfl, rfl, by decide +kernel, rfl, by decide +kernel, by decide +kernel⟩
theorem scKey : FnScope ["thing"] ["thing"] (defScope sKey) := ⟨rfl, rfl, rfl, by decide +kernel, rfl, by decide +kernel, by decide +kernel⟩
theorem scVal : FnScope ["thing"] ["thing"] (defScope sVal) := ⟨rfl, rfl, rfl, by decide +kernel, rfl, by decide +kernel, by decide +kernel⟩
theorem scWhole : FnScope ["thing", "least", "most"] ["thing", "least", "most"] (defScope sWhole) := ⟨rfl, rfl, rfl, by decide +kernel, rfl, by decide +kernel, by decide +kernel⟩
theorem scStamp : FnScope ["thing"] ["thing"] (defScope sStamp) := ⟨rfl, rfl, rfl, by decide +kernel, rfl, by decide +kernel, by decide +kernel⟩
theorem scDeed : FnScope ["thing"] ["thing"] (defScope sDeed) := ⟨rfl, rfl, rfl, by decide +kernel, rfl, by decide +kernel, by decide +kernel⟩

def spText : Sp := fun vs H Q _ => ∃ (z : List Nat) (a b : Int), vs = [.str (S z), .int a, .int b] ∧ a ≤ (z.length : Int) ∧ (z.length : Int) ≤ b ∧ okS z ∧ z.length ≤ 1000 ∧ ∀ H', Same H H' → Q (.bl true) H'
def spKey : Sp := fun vs H Q _ => ∃ z : List Nat, vs = [.str (S z)] ∧ okKey z ∧ ∀ H', Same H H' → Q (.bl true) H'
def spVal : Sp := fun vs H Q _ => ∃ z : List Nat, vs = [.str (S z)] ∧ okVal z ∧ ∀ H', Same H H' → Q (.bl true) H'
def spWhole : Sp := fun vs H Q _ => ∃ n a b : Int, vs = [.int n, .int a, .int b] ∧ a ≤ n ∧ n ≤ b ∧ Q (.bl true) H
def spStamp : Sp := fun vs H Q _ => ∃ n : Int, vs = [.int n] ∧ 1 ≤ n ∧ n ≤ 999999999 ∧ Q (.bl true) H
def spDeed (K : PySem.W.Frag) : Sp := fun vs H Q _ => ∃ (v : V) (d : Deed), vs = [v] ∧ Dp K H v (deedD d) ∧ d.ok ∧ ∀ H', Same H H' → Q (.bl true) H'

theorem le_blank {c : Nat} (h : 32 ≤ c) : (!decide ([c] < (S [32]).cps.toList)) = true := by
  show (!decide ([c] < [32])) = true
  have : ¬ [c] < [32] := by
    intro q
    cases q with
    | rel h1 => exact absurd h1 (by omega)
    | cons h1 => cases h1
  rw [decide_eq_false this]
  rfl
theorem le_tilde {c : Nat} (h : c ≤ 126) : (!decide ([126] < [c])) = true := by
  have : ¬ [126] < [c] := by
    intro q
    cases q with
    | rel h1 => exact absurd h1 (by omega)
    | cons h1 => cases h1
  rw [decide_eq_false this]
  rfl
theorem all_true (n : Nat) : (List.replicate n true).all id = true := by
  induction n with
  | zero => rfl
  | succ n ih =>
    rw [List.replicate_succ, List.all_cons, ih]
    rfl
section
variable {P : Program} {w : World} {K : PySem.W.Frag} {mg : Str → Option Value} {base : Heap}
theorem ok_text {f : Addr} {fd : FuncData} (F : FnP K "is_text" sText f fd) (T : Txt mg) : FnOk P w K mg base CX0 1 f fd ["thing", "least", "most"] spText := by
  refine F.ok scText (fun vs H Q E h => ?_) (fun cdv A outer s H vs Q E hr h => ?_)
  · obtain ⟨z, a, b, rfl, _⟩ := h
    rfl
  · obtain ⟨z, a, b, rfl, h1, h2, hz, hl, q⟩ := h
    refine ⟨_, PSs.nox (pss_cons (ps_if (PW.pt (pw_or (pt_not (pt_val (pe_callB call_isi (by rfl) T.isi (by decide +kernel) (pa_cons (pv 0) (pa_cons (pe_bltn (v := .ty "str") (by rfl) T.str (by decide +kernel) rfl) pa_nil)))))
        (pw_or1 (pt_not (pt_chain op_le op_le (pv 1) (pe_callB call_len_str (by rfl) T.len PySem.boot_len (pa_cons (pv 0) pa_nil)) (pv 2)))))) (pss_one (ps_ret pe_bl)) pss_nil)
      (pss_one (ps_ret (pe_callB (cr_all rfl) (by rfl) T.all (by decide +kernel) (pa_cons
        (pe_lc (own := [("sign", 3)]) (g := gName 3) (tt := tYes) rfl scText.nd (pi_str (pv 0)) (blkOk_by (N := ["thing", "least", "most", "sign"]) (sc := defScope sText) (by decide +kernel))
          (fun _ _ _ _ _ => pg_name (i := 3) scText.nd rfl (Or.inl rfl)) (fun _ _ _ _ _ => pts_nil) (fun _ _ _ _ _ => pe_chain op_le_str op_le_str pe_str (pv 3) pe_str)) pa_nil))))), ?_⟩
    refine ⟨_, rfl, _, .ty "str", .type "str", .type "str", true, rfl, .ty _, .base (.str _), kit_ty (by decide +kernel), true, rfl, ?_⟩
    refine iteF ?_
    refine ⟨_, rfl, _, rfl, _, rfl, by rw [len_S]; exact small (by omega), _, _, rfl, rfl, _, rfl, ?_⟩
    rw [len_S, decide_eq_true h1]
    refine iteT ⟨_, rfl, _, _, rfl, rfl, _, rfl, ?_⟩
    rw [decide_eq_true h2]
    refine iteF ?_
    refine ⟨_, rfl, _, rfl, fun D hD => ?_⟩
    refine lc_it walk_str (PvN H D (fun i acc _ => acc = List.replicate i (V.bl true))) (PvN.start hD fun _ => rfl) (fun _ _ _ _ => trivial) ?_ ?_
    · rintro i x H1 _ hi p ⟨rfl, c, hc, rfl⟩
      have hc' : z[i]? = some c := by
        rw [← hc]
        show z[i]? = z.toArray[i]?
        rw [List.getElem?_toArray]
      have hm := hz c (List.mem_of_getElem? hc')
      have hi' : i < z.length := (List.getElem?_eq_some_iff.mp hc').1
      refine ⟨rfl, _, rfl, _, _, rfl, rfl, true, congrArg V.bl (le_blank hm.1), _, _, rfl, rfl, ?_⟩
      rw [show (!decide ((Str.ofString "~").cps.toList < ([c].toArray).toList)) = true from le_tilde hm.2]
      refine PvN.next hD p (Same.refl _) (by omega) fun acc _ e => ?_
      rw [e, ← List.replicate_succ']
    · intro H1 p
      obtain ⟨s1, acc, e, hl2, r⟩ := p
      refine ⟨D, List.replicate z.length true, rfl, .inl (.inl ?_), ?_⟩
      · rw [e, r, List.map_replicate]
        rfl
      · rw [all_true]
        exact q _ s1
theorem ok_key {f fT : Addr} {fd fdT : FuncData} (F : FnP K "is_key" sKey f fd) (T : Txt mg) (A1 : At K mg "is_text" sText ["thing", "least", "most"] fT fdT) : FnOk P w K mg base CX0 2 f fd ["thing"] spKey := by
  have G := ok_text (P := P) (w := w) (base := base) A1.F T
  obtain ⟨t, ht⟩ := T.mKey
  refine F.ok scKey (fun vs H Q E h => ?_) (fun cdv A outer s H vs Q E hr h => ?_)
  · obtain ⟨z, rfl, _⟩ := h
    rfl
  · obtain ⟨z, rfl, hz, q⟩ := h
    refine ⟨_, PSs.nox (pss_one (ps_ret (pe_call G hr (by rfl) A1.g A1.F.kp A1.b .nil pass0 (pa_cons (pv 0) (pa_cons pe_int (pa_cons (pe_glob (v := .int 20) (by rfl) ht ⟨_, rfl⟩) pa_nil)))))), ?_⟩
    obtain ⟨h1, h2, h3⟩ := hz
    exact ⟨_, rfl, z, 1, 20, rfl, by omega, by omega, h3, by omega, q⟩
theorem ok_val {f fT : Addr} {fd fdT : FuncData} (F : FnP K "is_value" sVal f fd) (T : Txt mg) (A1 : At K mg "is_text" sText ["thing", "least", "most"] fT fdT) : FnOk P w K mg base CX0 2 f fd ["thing"] spVal := by
  have G := ok_text (P := P) (w := w) (base := base) A1.F T
  obtain ⟨t, ht⟩ := T.mVal
  refine F.ok scVal (fun vs H Q E h => ?_) (fun cdv A outer s H vs Q E hr h => ?_)
  · obtain ⟨z, rfl, _⟩ := h
    rfl
  · obtain ⟨z, rfl, hz, q⟩ := h
    refine ⟨_, PSs.nox (pss_one (ps_ret (pe_call G hr (by rfl) A1.g A1.F.kp A1.b .nil pass0 (pa_cons (pv 0) (pa_cons pe_int (pa_cons (pe_glob (v := .int 40) (by rfl) ht ⟨_, rfl⟩) pa_nil)))))), ?_⟩
    obtain ⟨h1, h2⟩ := hz
    exact ⟨_, rfl, z, 0, 40, rfl, by omega, by omega, h2, by omega, q⟩
theorem ok_whole {f : Addr} {fd : FuncData} (F : FnP K "is_whole" sWhole f fd) (T : Txt mg) : FnOk P w K mg base CX0 1 f fd ["thing", "least", "most"] spWhole := by
  refine F.ok scWhole (fun vs H Q E h => ?_) (fun cdv A outer s H vs Q E hr h => ?_)
  · obtain ⟨n, a, b, rfl, _⟩ := h
    rfl
  · obtain ⟨n, a, b, rfl, h1, h2, q⟩ := h
    refine ⟨_, PSs.nox (pss_one (ps_ret (pe_and (pe_callB call_isi (by rfl) T.isi (by decide +kernel) (pa_cons (pv 0) (pa_cons (pe_bltn (v := .ty "int") (by rfl) T.int (by decide +kernel) rfl) pa_nil)))
      (pe_and (pe_not (pe_callB call_isi (by rfl) T.isi (by decide +kernel) (pa_cons (pv 0) (pa_cons (pe_bltn (v := .ty "bool") (by rfl) T.bool (by decide +kernel) rfl) pa_nil))))
        (pe_one (pe_chain op_le op_le (pv 1) (pv 0) (pv 2))))))), ?_⟩
    refine ⟨_, rfl, _, .ty "int", .type "int", .type "int", true, rfl, .ty _, .base (.int _), kit_ty (by decide +kernel), true, rfl, ?_⟩
    refine iteT ?_
    refine ⟨_, rfl, _, .ty "bool", .type "int", .type "bool", false, rfl, .ty _, .base (.int _), kit_ty (by decide +kernel), false, rfl, true, rfl, ?_⟩
    refine iteT ?_
    refine ⟨_, rfl, _, rfl, _, _, rfl, rfl, _, rfl, ?_⟩
    rw [decide_eq_true h1]
    refine iteT ⟨_, rfl, _, _, rfl, rfl, ?_⟩
    show Q (.bl (decide (n ≤ b))) H
    rw [decide_eq_true h2]
    exact q
theorem ok_stamp {f fT : Addr} {fd fdT : FuncData} (F : FnP K "is_stamp" sStamp f fd) (T : Txt mg) (A1 : At K mg "is_whole" sWhole ["thing", "least", "most"] fT fdT) : FnOk P w K mg base CX0 2 f fd ["thing"] spStamp := by
  have G := ok_whole (P := P) (w := w) (base := base) A1.F T
  obtain ⟨t, ht⟩ := T.mStamp
  refine F.ok scStamp (fun vs H Q E h => ?_) (fun cdv A outer s H vs Q E hr h => ?_)
  · obtain ⟨z, rfl, _⟩ := h
    rfl
  · obtain ⟨n, rfl, h1, h2, q⟩ := h
    refine ⟨_, PSs.nox (pss_one (ps_ret (pe_call G hr (by rfl) A1.g A1.F.kp A1.b .nil pass0 (pa_cons (pv 0) (pa_cons pe_int (pa_cons (pe_glob (v := .int 999999999) (by rfl) ht ⟨_, rfl⟩) pa_nil)))))), ?_⟩
    exact ⟨_, rfl, n, 1, 999999999, rfl, h1, h2, q⟩
theorem ok_deed {f fK fV : Addr} {fd fdK fdV fdT : FuncData} {fT : Addr} (F : FnP K "is_deed" sDeed f fd) (T : Txt mg) (A1 : At K mg "is_text" sText ["thing", "least", "most"] fT fdT)
    (A2 : At K mg "is_key" sKey ["thing"] fK fdK) (A3 : At K mg "is_value" sVal ["thing"] fV fdV) : FnOk P w K mg base CX0 3 f fd ["thing"] (spDeed K) := by
  have GK := ok_key (P := P) (w := w) (base := base) A2.F T A1
  have GV := ok_val (P := P) (w := w) (base := base) A3.F T A1
  refine F.ok scDeed (fun vs H Q E h => ?_) (fun cdv A outer s H vs Q E hr h => ?_)
  · obtain ⟨v, d, rfl, _⟩ := h
    rfl
  · obtain ⟨v, d, rfl, hd, ok, q⟩ := h
    refine ⟨_, PSs.nox (pss_cons (ps_if (PW.pt (pw_or (pt_not (pt_val (pe_callB call_isi (by rfl) T.isi (by decide +kernel) (pa_cons (pv 0) (pa_cons (pe_bltn (v := .ty "tuple") (by rfl) T.tuple (by decide +kernel) rfl) pa_nil)))))
        (pw_or (pt_cmpR (op_eqD hr.units) (pv 0) (pe_tup pa_nil) (nomark _))
          (pw_or1 (pt_not (pt_val (pe_callB call_isi (by rfl) T.isi (by decide +kernel) (pa_cons (pe_ix ix_tup (pv 0) pe_int (fun _ _ => rfl)) (pa_cons (pe_bltn (v := .ty "str") (by rfl) T.str (by decide +kernel) rfl) pa_nil)))))))))
        (pss_one (ps_ret pe_bl)) pss_nil)
      (pss_cons (ps_if (pt_cmpR op_eq (pe_ix ix_tup (pv 0) pe_int (fun _ _ => rfl)) pe_str (nomark _))
        (pss_one (ps_ret (pe_and (pe_cmpR op_eq (pe_callB call_len_seq (by rfl) T.len PySem.boot_len (pa_cons (pv 0) pa_nil)) pe_int (nomark _))
          (pe_one (pe_call GK hr (by rfl) A2.g A2.F.kp A2.b .nil pass0 (pa_cons (pe_ix ix_tup (pv 0) pe_int (fun _ _ => rfl)) pa_nil)))))) pss_nil)
      (pss_one (ps_ret (pe_and (pe_cmpR op_eq (pe_ix ix_tup (pv 0) pe_int (fun _ _ => rfl)) pe_str (nomark _))
        (pe_and (pe_cmpR op_eq (pe_callB call_len_seq (by rfl) T.len PySem.boot_len (pa_cons (pv 0) pa_nil)) pe_int (nomark _))
          (pe_and (pe_call GK hr (by rfl) A2.g A2.F.kp A2.b .nil pass0 (pa_cons (pe_ix ix_tup (pv 0) pe_int (fun _ _ => rfl)) pa_nil))
            (pe_one (pe_call GV hr (by rfl) A3.g A3.F.kp A3.b .nil pass0 (pa_cons (pe_ix ix_tup (pv 0) pe_int (fun _ _ => rfl)) pa_nil)))))))))), ?_⟩
    cases d with
    | drop k =>
      obtain ⟨a, rfl, ht⟩ := at_drop hd
      have hk : okKey k := ok
      refine ⟨_, rfl, _, .ty "tuple", .type "tuple", .type "tuple", true, rfl, .ty _, ty_tup ht, kit_ty (by decide +kernel), true, rfl, ?_⟩
      refine iteF ?_
      refine ⟨_, rfl, by show 0 ≤ sizeLine; exact Nat.zero_le _, fun p hp => ?_⟩
      have s1 : Same H (upd H p (.tup [])) := same_new hp
      refine ⟨_, .tuple [], Dp.mono s1 _ _ hd, .tup (.inl (.inl upd_same)) .nil, deedD_shaped ok, by decide +kernel, false, rfl, ?_⟩
      refine iteF ?_
      have ht1 := same_tup s1 ht
      refine ⟨_, rfl, a, _, 0, .str "drop", rfl, rfl, ht1, atI_nat (j := 0) rfl, _, .ty "str", .type "str", .type "str", true, rfl, .ty _, .base (.str _), kit_ty (by decide +kernel), true, rfl, ?_⟩
      refine iteF ?_
      refine ⟨_, rfl, a, _, 0, .str "drop", rfl, rfl, ht1, atI_nat (j := 0) rfl, rfl, true, by rw [decide_eq_true rfl], ?_⟩
      refine iteT ?_
      refine ⟨_, rfl, a, _, rfl, .inr ht1, rfl, true, congrArg V.bl (decide_eq_true rfl), ?_⟩
      refine iteT ?_
      exact ⟨_, rfl, a, _, 1, .str (S k), rfl, rfl, ht1, atI_nat (j := 1) rfl, k, rfl, hk, fun H' s2 => q H' (s1.trans s2)⟩
    | put k u =>
      obtain ⟨a, rfl, ht⟩ := at_put hd
      have hk : okKey k ∧ okVal u := ok
      refine ⟨_, rfl, _, .ty "tuple", .type "tuple", .type "tuple", true, rfl, .ty _, ty_tup ht, kit_ty (by decide +kernel), true, rfl, ?_⟩
      refine iteF ?_
      refine ⟨_, rfl, by show 0 ≤ sizeLine; exact Nat.zero_le _, fun p hp => ?_⟩
      have s1 : Same H (upd H p (.tup [])) := same_new hp
      refine ⟨_, .tuple [], Dp.mono s1 _ _ hd, .tup (.inl (.inl upd_same)) .nil, deedD_shaped ok, by decide +kernel, false, rfl, ?_⟩
      refine iteF ?_
      have ht1 := same_tup s1 ht
      refine ⟨_, rfl, a, _, 0, .str "put", rfl, rfl, ht1, atI_nat (j := 0) rfl, _, .ty "str", .type "str", .type "str", true, rfl, .ty _, .base (.str _), kit_ty (by decide +kernel), true, rfl, ?_⟩
      refine iteF ?_
      refine ⟨_, rfl, a, _, 0, .str "put", rfl, rfl, ht1, atI_nat (j := 0) rfl, rfl, false, by decide +kernel, ?_⟩
      refine iteF ?_
      refine ⟨_, rfl, a, _, 0, .str "put", rfl, rfl, ht1, atI_nat (j := 0) rfl, rfl, true, by rw [decide_eq_true rfl], ?_⟩
      refine iteT ?_
      refine ⟨_, rfl, a, _, rfl, .inr ht1, rfl, true, congrArg V.bl (decide_eq_true rfl), ?_⟩
      refine iteT ?_
      refine ⟨_, rfl, a, _, 1, .str (S k), rfl, rfl, ht1, atI_nat (j := 1) rfl, k, rfl, hk.1, fun H2 s2 => ⟨true, rfl, ?_⟩⟩
      refine iteT ?_
      exact ⟨_, rfl, a, _, 2, .str (S u), rfl, rfl, same_tup s2 ht1, atI_nat (j := 2) rfl, u, rfl, hk.2, fun H' s3 => q H' ((s1.trans s2).trans s3)⟩
end
end K42

/-! Operations on texts, told over lists of codes. -/
namespace K42
open PySem PySem.Spec PyProof.Rows L2 TL
open PySem.NumText (AllDigits digitsVal)
theorem log_small {n : Nat} (h : n < 2 ^ 64) : n.log2 < 1920 := by
  by_cases h0 : n = 0
  · subst h0
    decide
  · exact Nat.lt_of_lt_of_le ((Nat.log2_lt h0).mpr h) (by decide)
theorem str_num (n : Nat) : Str.ofString (toString ((n : Nat) : Int)) = S (numL n) := ext_tl (by rw [tl_num])
theorem joinL_nil : ∀ ps : List (List Nat), joinL [] ps = ps.flatten
  | [] => rfl
  | [p] => by
    show p = p ++ []
    rw [List.append_nil]
  | p :: q :: r => by
    show p ++ ([] ++ joinL [] (q :: r)) = p ++ (q :: r).flatten
    rw [joinL_nil (q :: r), List.nil_append]
theorem map_tl_S (ls : List (List Nat)) : (ls.map S).map tl = ls := by
  rw [List.map_map]
  exact List.map_id' ls
theorem join_S (s : List Nat) (ls : List (List Nat)) : Txt.join (S s) (ls.map S) = S (joinL s ls) := by
  refine ext_tl ?_
  rw [join_eq, tl_join, map_tl_S]
theorem s_e : Str.ofString "" = S [] := by decide +kernel
theorem s_g : Str.ofString "g" = S [103] := by decide +kernel
theorem s_p : Str.ofString "p" = S [112] := by decide +kernel
theorem s_nl : Str.ofString "\n" = S [10] := by decide +kernel
theorem s_bl : Str.ofString " " = S [32] := by decide +kernel
/-- a + b, two texts -/
def rAddS : R2 := fun x y H Q => ∃ a b : List Nat, x = .str (S a) ∧ y = .str (S b) ∧ a.length + b.length ≤ 100000 ∧ Q (.str (S (a ++ b))) H
/-- str(n) -/
def rStrI : List V → Hp → VK → Prop := fun xs H Q => ∃ n : Nat, xs = [.int (n : Int)] ∧ n < 2 ^ 64 ∧ Q (.str (S (numL n))) H
/-- z.zfill(w), z the figures of n -/
def rZf : V → List V → Hp → VK → Prop := fun x xs H Q => ∃ n w : Nat, x = .str (S (numL n)) ∧ xs = [.int (w : Int)] ∧ PadOk (w : Int) = true ∧ Q (.str (S (pad w n))) H
/-- s.join(a list or tuple of texts) -/
def rJoin (K : PySem.W.Frag) : V → List V → Hp → VK → Prop := fun x xs H Q => ∃ (s : List Nat) (p : Addr) (ls : List (List Nat)), x = .str (S s) ∧ xs = [.ref p] ∧ (SqL K H p ((ls.map S).map V.str) ∨ SqT K H p ((ls.map S).map V.str)) ∧
  (ls.map List.length).sum + ls.length * s.length ≤ 100000 ∧ Q (.str (S (joinL s ls))) H
def rSl : V → Option Int → Option Int → Hp → VK → Prop := fun x lo hi H Q => ∃ l r : List Nat, x = .str (S l) ∧ l.length ≤ 100000 ∧ cutS (S l) lo hi = S r ∧ Q (.str (S r)) H
def rLenS : List V → Hp → VK → Prop := fun xs H Q => ∃ l : List Nat, xs = [.str (S l)] ∧ l.length ≤ 100000 ∧ Q (.int (l.length : Int)) H
def rIntS : List V → Hp → VK → Prop := fun xs H Q => ∃ l : List Nat, xs = [.str (S l)] ∧ AllDigits l ∧ l ≠ [] ∧ l.length ≤ 600 ∧ Q (.int (digitsVal l : Nat)) H
def rIxN : R2 := fun x y H Q => ∃ (l : List Nat) (j c : Nat), x = .str (S l) ∧ y = .int (j : Int) ∧ l.length ≤ 100000 ∧ l[j]? = some c ∧ Q (.str (S [c])) H
/-- a + b, two ints, the sum told -/
def rAddE : R2 := fun x y H Q => ∃ i j k : Int, x = .int i ∧ y = .int j ∧ i + j = k ∧ Q (.int k) H
section
variable {X : Cx}
theorem op_addE : OpR X (binaryOp .Add) rAddE := fun pins s σ H x y v u Q I rx ry ⟨i, j, k, ex, ey, e, q⟩ =>
  op_add pins s σ H x y v u Q I rx ry ⟨i, j, ex, ey, by show Q (.int (i + j)) H; rw [e]; exact q⟩
theorem op_addS : OpR X (binaryOp .Add) rAddS := fun pins s σ H x y v u Q I rx ry ⟨a, b, ex, ey, hl, q⟩ =>
  op_add_str pins s σ H x y v u Q I rx ry ⟨S a, S b, ex, ey, by rw [len_S, len_S]; exact small hl, by rw [S_app]; exact q⟩
theorem call_strI : CallR X (.type "str") rStrI := fun pins s σ H xs us Q I r ⟨n, ex, hn, q⟩ =>
  call_str_int pins s σ H xs us Q I r ⟨(n : Int), ex, by rw [Int.natAbs_natCast]; exact log_small hn, by rw [str_num]; exact q⟩
theorem mt_zf : MtR X "str.zfill" rZf := fun pins s σ H x xs v us Q I rx rs ⟨n, w, ex, exs, hw, q⟩ =>
  mt_zfill pins s σ H x xs v us Q I rx rs ⟨S (numL n), (w : Int), ex, exs, hw, by rw [zfill_pad]; exact q⟩
theorem mt_joinS : MtR X "str.join" (rJoin X.K) := fun pins s σ H x xs v us Q I rx rs ⟨s0, p, ls, ex, exs, hS, hl, q⟩ =>
  mt_join pins s σ H x xs v us Q I rx rs ⟨S s0, p, ls.map S, ex, exs, hS, by
    have e : (ls.map S).map (·.length) = ls.map List.length := by
      rw [List.map_map]
      exact List.map_congr_left fun l _ => len_S l
    rw [e, List.length_map, len_S]
    omega, by rw [join_S]; exact q⟩
theorem sl_S : SlR X rSl := fun pins s σ H x v vl vu lo hi sl Q I rx hs pl pu ⟨l, r, ex, hl, e, q⟩ =>
  sl_str pins s σ H x v vl vu lo hi sl Q I rx hs pl pu ⟨S l, ex, by rw [len_S]; exact small hl, by rw [e]; exact q⟩
theorem call_lenS : CallR X (.builtin "len") rLenS := fun pins s σ H xs us Q I r ⟨l, ex, hl, q⟩ =>
  call_len_str pins s σ H xs us Q I r ⟨S l, ex, by rw [len_S]; exact small hl, by rw [len_S]; exact q⟩
theorem call_intS : CallR X (.type "int") rIntS := fun pins s σ H xs us Q I r ⟨l, ex, hd, hne, hl, q⟩ =>
  call_int_str pins s σ H xs us Q I r ⟨S l, ((digitsVal l : Nat) : Int), ex, intText_digits (x := S l) hd hne (by rw [len_S]; omega), by rw [len_S]; omega, q⟩
theorem ix_S : IxR X rIxN := fun value slice pins s σ H x y v u Q I rx ry ⟨l, j, c, ex, ey, hl, hc, q⟩ =>
  ix_str value slice pins s σ H x y v u Q I rx ry ⟨S l, (j : Int), c, ex, ey, by rw [len_S]; exact small hl, atI_nat (j := j) hc, q⟩
end
end K42

/-! journals.py, the writing side: a deed's line, a record. -/
namespace K42
open PySem PySem.Spec PyProof.Rows L2 TL
abbrev sLine : Stmt := top 18
abbrev sRec : Stmt := top 19
theorem scLine : FnScope ["deed", "word"] ["deed"] (defScope sLine) := ⟨rfl, rfl, rfl, by decide +kernel, rfl, by decide +kernel, by decide +kernel⟩
theorem scRec : FnScope ["stamp", "deeds", "body", "head", "one", "deed"] ["stamp", "deeds"] (defScope sRec) := ⟨rfl, rfl, rfl, by decide +kernel, rfl, by decide +kernel, by decide +kernel⟩
def spLine (K : PySem.W.Frag) : Sp := fun vs H Q _ => ∃ (v : V) (d : Deed), vs = [v] ∧ Dp K H v (deedD d) ∧ d.ok ∧ ∀ H', Same H H' → Q (.str (S (lineOf d ++ [10]))) H'
def spRec (K : PySem.W.Frag) : Sp := fun vs H Q _ => ∃ (st : Nat) (v : V) (ds : List Deed), vs = [.int (st : Int), v] ∧ Dp K H v (.list (ds.map deedD)) ∧ Rec.ok (st, ds) ∧ ∀ H', Same H H' → Q (.str (S (recOf (st, ds)))) H'

section
variable {P : Program} {w : World} {K : PySem.W.Frag} {mg : Str → Option Value} {base : Heap}
theorem ok_line {f : Addr} {fd : FuncData} (F : FnP K "deed_line" sLine f fd) (T : Txt mg) : FnOk P w K mg base CX0 1 f fd ["deed"] (spLine K) := by
  refine F.ok scLine (fun vs H Q E h => ?_) (fun cdv A outer s H vs Q E hr h => ?_)
  · obtain ⟨v, d, rfl, _⟩ := h
    rfl
  · obtain ⟨v, d, rfl, hd, ok, q⟩ := h
    refine ⟨_, PSs.nox (pss_cons (ps_set (i := 1) scLine.nd rfl (.inl rfl) (pe_ifExp (pt_cmpR op_eq (pe_ix ix_tup (pv 0) pe_int (fun _ _ => rfl)) pe_str (nomark _)) pe_str pe_str))
      (pss_one (ps_ret (pe_op op_addS (pe_op op_addS (pe_op op_addS (pv 1)
          (pe_m1 PySem.F.slot_str_zfill PySem.F.type_str_zfill mt_zf (pe_callTy call_strI (by rfl) T.str (by decide +kernel) (pa_cons (pe_callB call_lenS (by rfl) T.len PySem.boot_len (pa_cons (pe_ix ix_tup (pv 0) pe_int (fun _ _ => rfl)) pa_nil)) pa_nil)) pe_int))
          (pe_m1 PySem.F.slot_str_join PySem.F.type_str_join mt_joinS pe_str (pe_slice sl_tup (pv 0) (po_some pe_int) po_none))) pe_str)))), ?_⟩
    cases d with
    | drop k =>
      obtain ⟨a, rfl, ht⟩ := at_drop hd
      have hk : okKey k := ok
      have hk2 := hk.2.1
      have hp := pad_len (w := 2) (n := k.length) (by omega) (by omega)
      refine ⟨_, rfl, a, _, 0, .str "drop", rfl, rfl, ht, atI_nat (j := 0) rfl, rfl, false, by decide +kernel, ?_⟩
      refine iteF ?_
      refine ⟨_, rfl, _, rfl, a, _, 1, .str (S k), rfl, rfl, ht, atI_nat (j := 1) rfl, k, rfl, by omega, k.length, rfl, by omega, ⟨_, rfl⟩, k.length, 2, rfl, rfl, by decide +kernel, ?_⟩
      refine ⟨[103], pad 2 k.length, congrArg V.str s_g, rfl, by rw [hp]; decide, ⟨_, rfl⟩, _, rfl, 1, rfl, a, _, rfl, ht, fun z => (show ¬ HT.sIx 2 0 (some 1) = 0 by decide) z.1, fun p hp2 => ?_⟩
      have s1 := same_new (o := .tup [.str (S k)]) hp2
      refine ⟨[], p, [k], congrArg V.str s_e, rfl, .inr (.inl (.inl upd_same)), ?_, [103] ++ pad 2 k.length, joinL [] [k], rfl, rfl, ?_, [103] ++ pad 2 k.length ++ joinL [] [k], [10], rfl, congrArg V.str s_nl, ?_, ?_⟩
      · show k.length + 0 + 1 * 0 ≤ _
        omega
      · rw [joinL_nil]
        simp only [List.length_append, List.length_cons, List.length_nil, List.flatten_cons, List.flatten_nil, hp]
        omega
      · rw [joinL_nil]
        simp only [List.length_append, List.length_cons, List.length_nil, List.flatten_cons, List.flatten_nil, hp]
        omega
      · have e : ([103] ++ pad 2 k.length ++ joinL [] [k]) ++ [10] = lineOf (.drop k) ++ [10] := by
          rw [joinL_nil]
          simp [lineOf]
        rw [e]
        exact q _ s1
    | put k u =>
      obtain ⟨a, rfl, ht⟩ := at_put hd
      have hk : okKey k ∧ okVal u := ok
      have hk2 := hk.1.2.1
      have hk3 := hk.2.1
      have hp := pad_len (w := 2) (n := k.length) (by omega) (by omega)
      refine ⟨_, rfl, a, _, 0, .str "put", rfl, rfl, ht, atI_nat (j := 0) rfl, rfl, true, by rw [decide_eq_true rfl], ?_⟩
      refine iteT ?_
      refine ⟨_, rfl, _, rfl, a, _, 1, .str (S k), rfl, rfl, ht, atI_nat (j := 1) rfl, k, rfl, by omega, k.length, rfl, by omega, ⟨_, rfl⟩, k.length, 2, rfl, rfl, by decide +kernel, ?_⟩
      refine ⟨[112], pad 2 k.length, congrArg V.str s_p, rfl, by rw [hp]; decide, ⟨_, rfl⟩, _, rfl, 1, rfl, a, _, rfl, ht, fun z => (show ¬ HT.sIx 3 0 (some 1) = 0 by decide) z.1, fun p hp2 => ?_⟩
      have s1 := same_new (o := .tup [.str (S k), .str (S u)]) hp2
      refine ⟨[], p, [k, u], congrArg V.str s_e, rfl, .inr (.inl (.inl upd_same)), ?_, [112] ++ pad 2 k.length, joinL [] [k, u], rfl, rfl, ?_, [112] ++ pad 2 k.length ++ joinL [] [k, u], [10], rfl, congrArg V.str s_nl, ?_, ?_⟩
      · show k.length + (u.length + 0) + 2 * 0 ≤ _
        omega
      · rw [joinL_nil]
        simp only [List.length_append, List.length_cons, List.length_nil, List.flatten_cons, List.flatten_nil, hp]
        omega
      · rw [joinL_nil]
        simp only [List.length_append, List.length_cons, List.length_nil, List.flatten_cons, List.flatten_nil, hp]
        omega
      · have e : ([112] ++ pad 2 k.length ++ joinL [] [k, u]) ++ [10] = lineOf (.put k u) ++ [10] := by
          rw [joinL_nil]
          simp [lineOf]
        rw [e]
        exact q _ s1
theorem body_flat (ds : List Deed) : joinL [] (ds.map fun d => lineOf d ++ [10]) = bodyOf ds := joinL_nil _
theorem body_sum (ds : List Deed) : ((ds.map fun d => lineOf d ++ [10]).map List.length).sum = (bodyOf ds).length := by
  unfold bodyOf
  rw [List.length_flatten]
theorem take_snoc {α : Type} {l : List α} {i : Nat} {x : α} (h : l[i]? = some x) : l.take (i + 1) = l.take i ++ [x] := by
  rw [List.take_add_one, h]
  rfl
theorem ok_rec {f fSt fW fT fK fV fD fL : Addr} {fd fdSt fdW fdT fdK fdV fdD fdL : FuncData} (F : FnP K "record" sRec f fd) (T : Txt mg)
    (A1 : At K mg "is_text" sText ["thing", "least", "most"] fT fdT) (A2 : At K mg "is_key" sKey ["thing"] fK fdK) (A3 : At K mg "is_value" sVal ["thing"] fV fdV) (A4 : At K mg "is_whole" sWhole ["thing", "least", "most"] fW fdW)
    (A5 : At K mg "is_stamp" sStamp ["thing"] fSt fdSt) (A6 : At K mg "is_deed" sDeed ["thing"] fD fdD) (A7 : At K mg "deed_line" sLine ["deed"] fL fdL) : FnOk P w K mg base CX0 4 f fd ["stamp", "deeds"] (spRec K) := by
  have GS := ok_stamp (P := P) (w := w) (base := base) A5.F T A4
  have GD := ok_deed (P := P) (w := w) (base := base) A6.F T A1 A2 A3
  have GL := ok_line (P := P) (w := w) (base := base) A7.F T
  obtain ⟨t, ht⟩ := T.mDeeds
  refine F.ok scRec (fun vs H Q E h => ?_) (fun cdv A outer s H vs Q E hr h => ?_)
  · obtain ⟨st, v, ds, rfl, _⟩ := h
    rfl
  · obtain ⟨st, v, ds, rfl, hd, ok, q⟩ := h
    have hr1 : Room 1 _ := hr.mono (by decide)
    refine ⟨_, PSs.nox (pss_cons (ps_if (pt_not (pt_val (pe_call GS (hr.mono (by decide)) (by rfl) A5.g A5.F.kp A5.b .nil pass0 (pa_cons (pv 0) pa_nil)))) (pss_one ps_never) pss_nil)
      (pss_cons (ps_if (PW.pt (pw_or (pt_not (pt_val (pe_callB call_isi (by rfl) T.isi (by decide +kernel) (pa_cons (pv 1) (pa_cons (pe_bltn (v := .ty "list") (by rfl) T.list (by decide +kernel) rfl) pa_nil)))))
          (pw_or (pt_not (pt_chain op_le op_le pe_int (pe_callB call_len_seq (by rfl) T.len PySem.boot_len (pa_cons (pv 1) pa_nil)) (pe_glob (v := .int 20) (by rfl) ht ⟨_, rfl⟩)))
            (pw_or1 (pt_not (pt_val (pe_callB (cr_all rfl) (by rfl) T.all (by decide +kernel) (pa_cons
              (pe_lc (own := [("one", 4)]) (g := gName 4) (tt := tYes) rfl scRec.nd (pi_list (pv 1)) (blkOk_by (N := ["stamp", "deeds", "body", "head", "one", "deed"]) (sc := defScope sRec) (by decide +kernel))
                (fun _ _ _ _ _ => pg_name (i := 4) scRec.nd rfl (Or.inl rfl)) (fun _ _ _ _ _ => pts_nil) (fun _ _ _ _ _ => pe_call GD hr (by rfl) A6.g A6.F.kp A6.b .nil pass0 (pa_cons (pv 4) pa_nil))) pa_nil)))))))) (pss_one ps_never) pss_nil)
      (pss_cons (ps_set (i := 2) scRec.nd rfl (.inl rfl) (pe_m1 PySem.F.slot_str_join PySem.F.type_str_join mt_joinS pe_str
          (pe_lc (own := [("deed", 5)]) (g := gName 5) (tt := tYes) rfl scRec.nd (pi_list (pv 1)) (blkOk_by (N := ["stamp", "deeds", "body", "head", "one", "deed"]) (sc := defScope sRec) (by decide +kernel))
            (fun _ _ _ _ _ => pg_name (i := 5) scRec.nd rfl (Or.inl rfl)) (fun _ _ _ _ _ => pts_nil) (fun _ _ _ _ _ => pe_call GL hr1 (by rfl) A7.g A7.F.kp A7.b .nil pass0 (pa_cons (pv 5) pa_nil)))))
      (pss_cons (ps_set (i := 3) scRec.nd rfl (.inl rfl) (pe_m1 PySem.F.slot_str_join PySem.F.type_str_join mt_joinS pe_str (pe_lst
          (pa_cons (pe_m1 PySem.F.slot_str_zfill PySem.F.type_str_zfill mt_zf (pe_callTy call_strI (by rfl) T.str (by decide +kernel) (pa_cons (pv 0) pa_nil)) pe_int)
          (pa_cons (pe_m1 PySem.F.slot_str_zfill PySem.F.type_str_zfill mt_zf (pe_callTy call_strI (by rfl) T.str (by decide +kernel) (pa_cons (pe_callB call_len_seq (by rfl) T.len PySem.boot_len (pa_cons (pv 1) pa_nil)) pa_nil)) pe_int)
          (pa_cons (pe_m1 PySem.F.slot_str_zfill PySem.F.type_str_zfill mt_zf (pe_callTy call_strI (by rfl) T.str (by decide +kernel) (pa_cons (pe_callB call_lenS (by rfl) T.len PySem.boot_len (pa_cons (pv 2) pa_nil)) pa_nil)) pe_int) pa_nil))))))
      (pss_one (ps_ret (pe_op op_addS (pe_op op_addS (pv 3) pe_str) (pv 2)))))))), ?_⟩
    obtain ⟨a, xs, rfl, hS, hX⟩ := at_list hd
    have h1 := ok.s1
    have h2 := ok.s2
    have h3 := ok.n1
    have h4 := ok.n2
    have h5 := ok.blen
    simp only at h1 h2 h3 h4 h5
    have hxl : xs.length = ds.length := by rw [DpAll.len hX, List.length_map]
    -- is_stamp(stamp)
    refine ⟨_, rfl, (st : Int), rfl, by omega, by omega, true, rfl, ?_⟩
    refine iteF ?_
    -- deeds
    refine ⟨_, rfl, _, .ty "list", .type "list", .type "list", true, rfl, .ty _, ty_lst hS, kit_ty (by decide +kernel), true, rfl, ?_⟩
    refine iteF ?_
    refine ⟨_, rfl, a, xs, rfl, .inl hS, _, _, rfl, rfl, true, congrArg V.bl (decide_eq_true (by omega)), ?_⟩
    refine iteT ⟨_, _, rfl, rfl, true, congrArg V.bl (decide_eq_true (by omega)), ?_⟩
    refine iteF ?_
    refine ⟨_, rfl, a, rfl, ⟨_, hS⟩, fun D hD => ?_⟩
    refine lc_it (walk_list (xs := xs)) (PvN H D (fun i acc _ => acc = List.replicate i (V.bl true))) (PvN.start hD fun _ => rfl) (fun _ _ _ p => p.1.seq hS) ?_ ?_
    · rintro i x H1 _ hi p ⟨rfl, hx⟩
      obtain ⟨dd, e1, e2⟩ := DpAll.getL hX hx
      rw [List.getElem?_map] at e1
      obtain ⟨d, e3, e4⟩ := Option.map_eq_some_iff.mp e1
      subst e4
      refine ⟨rfl, _, rfl, x, d, rfl, Dp.mono p.1 _ _ e2, ok.ds d (List.mem_of_getElem? e3), fun H4 s4 => ?_⟩
      refine PvN.next hD p s4 (by omega) fun acc _ e => ?_
      rw [e, ← List.replicate_succ']
    · intro H1 p
      obtain ⟨s1, acc, e, hl2, r⟩ := p
      refine ⟨D, List.replicate xs.length true, rfl, .inl (.inl ?_), true, congrArg V.bl (all_true _), ?_⟩
      · rw [e, r, List.map_replicate]
      refine iteF ?_
      -- body
      refine ⟨⟨_, rfl⟩, _, rfl, a, rfl, ⟨_, s1.seq hS⟩, fun D2 hD2 => ?_⟩
      refine lc_it (walk_list (xs := xs)) (PvN H1 D2 (fun i acc _ => acc = (((ds.take i).map fun d => lineOf d ++ [10]).map S).map V.str)) (PvN.start hD2 fun _ => rfl) (fun _ _ _ p => p.1.seq (s1.seq hS)) ?_ ?_
      · rintro i x H2 _ hi p ⟨rfl, hx⟩
        obtain ⟨dd, e1, e2⟩ := DpAll.getL hX hx
        rw [List.getElem?_map] at e1
        obtain ⟨d, e3, e4⟩ := Option.map_eq_some_iff.mp e1
        subst e4
        refine ⟨rfl, _, rfl, x, d, rfl, Dp.mono p.1 _ _ (Dp.mono s1 _ _ e2), ok.ds d (List.mem_of_getElem? e3), fun H4 s4 => ?_⟩
        refine PvN.next hD2 p s4 (by omega) fun acc _ e => ?_
        rw [e, take_snoc e3, List.map_append, List.map_append, List.map_append]
        rfl
      · intro H2 p
        obtain ⟨s2, acc, e, hl2, r⟩ := p
        refine ⟨[], D2, ds.map fun d => lineOf d ++ [10], congrArg V.str s_e, rfl, .inl (.inl (.inl ?_)), ?_, ?_⟩
        · rw [e, r, hxl, List.take_length]
        · rw [body_sum]
          simp only [List.length_nil, Nat.mul_zero]
          omega
        rw [body_flat]
        -- head
        refine ⟨⟨_, rfl⟩, _, rfl, st, rfl, by omega, ⟨_, rfl⟩, st, 9, rfl, rfl, by decide +kernel, ?_⟩
        refine ⟨_, rfl, a, xs, rfl, .inl (s2.seq (s1.seq hS)), ds.length, by rw [hxl], by omega, ⟨_, rfl⟩, ds.length, 2, rfl, rfl, by decide +kernel, ?_⟩
        refine ⟨_, rfl, bodyOf ds, rfl, by omega, (bodyOf ds).length, rfl, by omega, ⟨_, rfl⟩, (bodyOf ds).length, 5, rfl, rfl, by decide +kernel, ?_⟩
        refine ⟨by show 3 ≤ sizeLine; decide, fun p hp => ?_⟩
        have hn : (headOf st ds.length (bodyOf ds).length).length = 19 := ok.hlen
        have eh : joinL [32] [pad 9 st, pad 2 ds.length, pad 5 (bodyOf ds).length] ++ [10] = headOf st ds.length (bodyOf ds).length := by
          show (pad 9 st ++ ([32] ++ (pad 2 ds.length ++ ([32] ++ pad 5 (bodyOf ds).length)))) ++ [10] = _
          simp [headOf]
        have s3 := same_new (o := .lst [.str (S (pad 9 st)), .str (S (pad 2 ds.length)), .str (S (pad 5 (bodyOf ds).length))]) hp
        have l1 := pad_len (w := 9) (n := st) (by omega) (by omega)
        have l2 := pad_len (w := 2) (n := ds.length) (by omega) (by omega)
        have l3 := pad_len (w := 5) (n := (bodyOf ds).length) (by omega) (by omega)
        refine ⟨[32], p, [pad 9 st, pad 2 ds.length, pad 5 (bodyOf ds).length], congrArg V.str s_bl, rfl, .inl (.inl (.inl upd_same)), ?_, ?_⟩
        · simp only [List.map_cons, List.map_nil, List.sum_cons, List.sum_nil, List.length_cons, List.length_nil, l1, l2, l3]
          omega
        refine ⟨_, rfl, joinL [32] [pad 9 st, pad 2 ds.length, pad 5 (bodyOf ds).length], [10], rfl, congrArg V.str s_nl, ?_, ?_⟩
        · have := congrArg List.length eh
          rw [List.length_append] at this
          omega
        rw [eh]
        refine ⟨_, rfl, headOf st ds.length (bodyOf ds).length, bodyOf ds, rfl, rfl, by omega, ?_⟩
        exact q _ (((s1.trans s2)).trans s3)
end
end K42

/-! journals.py, the reading side: figures, a head, a line, a body. -/
namespace K42
open PySem PySem.Spec PyProof.Rows L2 TL
open PySem.NumText (AllDigits digitsVal)
abbrev sPad : Stmt := top 20
abbrev sHead : Stmt := top 21
abbrev sDeedOf : Stmt := top 22
abbrev sDeeds : Stmt := top 23
theorem scPad : FnScope ["figures", "sign"] ["figures"] (defScope sPad) := ⟨rfl, rfl, rfl, by decide +kernel, rfl, by decide +kernel, by decide +kernel⟩
theorem scHead : FnScope ["head", "numbers"] ["head"] (defScope sHead) := ⟨rfl, rfl, rfl, by decide +kernel, rfl, by decide +kernel, by decide +kernel⟩
theorem scDeedOf : FnScope ["line", "many", "key", "rest"] ["line"] (defScope sDeedOf) := ⟨rfl, rfl, rfl, by decide +kernel, rfl, by decide +kernel, by decide +kernel⟩
theorem scDeeds : FnScope ["body", "deeds", "line"] ["body"] (defScope sDeeds) := ⟨rfl, rfl, rfl, by decide +kernel, rfl, by decide +kernel, by decide +kernel⟩
def spPad : Sp := fun vs H Q _ => ∃ w n : Nat, vs = [.str (S (pad w n))] ∧ (pad w n).length ≤ 600 ∧ Q (.int (n : Int)) H
def spHead : Sp := fun vs H Q _ => ∃ st n len : Nat, vs = [.str (S (headOf st n len))] ∧ 1 ≤ st ∧ st ≤ 999999999 ∧ 1 ≤ n ∧ n ≤ 20 ∧ len < 100000 ∧
  ∀ H' p, Same H H' → H p = none → H' p = some (.lst [.int (st : Int), .int (n : Int), .int (len : Int)]) → Q (.ref p) H'
def spDeedOf (K : PySem.W.Frag) : Sp := fun vs H Q _ => ∃ d : Deed, vs = [.str (S (lineOf d))] ∧ d.ok ∧ ∀ H' v, Same H H' → Dp K (nw H H') v (deedD d) → Q v H'
def spDeeds (K : PySem.W.Frag) : Sp := fun vs H Q _ => ∃ ds : List Deed, vs = [.str (S (bodyOf ds))] ∧ ds ≠ [] ∧ ds.length ≤ 20 ∧ (∀ d ∈ ds, d.ok) ∧ ∀ H' v, Same H H' → Dp K (nw H H') v (.list (ds.map deedD)) → Q v H'

theorem figs : (Str.ofString "0123456789").cps.toList = [48, 49, 50, 51, 52, 53, 54, 55, 56, 57] := by decide +kernel
theorem in_figs {c : Nat} (h : 48 ≤ c ∧ c ≤ 57) : (!decide (c ∈ (Str.ofString "0123456789").cps.toList)) = false := by
  rw [figs]
  have : c ∈ [48, 49, 50, 51, 52, 53, 54, 55, 56, 57] := by
    simp only [List.mem_cons, List.not_mem_nil, or_false]
    omega
  rw [decide_eq_true this]
  rfl
theorem head_parts : ∀ (a b c : List Nat) (x y z : Nat), a.length = 9 → b.length = 2 → c.length = 5 → ∀ L, L = a ++ (x :: (b ++ (y :: (c ++ [z])))) →
    L.length = 19 ∧ L.take 9 = a ∧ (L.drop 10).take (12 - 10) = b ∧ (L.drop 13).take (18 - 13) = c ∧ L[9]? = some x ∧ L[12]? = some y ∧ L[18]? = some z
  | [_, _, _, _, _, _, _, _, _], [_, _], [_, _, _, _, _], _, _, _, _, _, _, _, rfl => ⟨rfl, rfl, rfl, rfl, rfl, rfl, rfl⟩
theorem s_h : Str.ofString "  \n" = S [32, 32, 10] := by decide +kernel
section
variable {P : Program} {w : World} {K : PySem.W.Frag} {mg : Str → Option Value} {base : Heap}
theorem ok_pad {f : Addr} {fd : FuncData} (F : FnP K "padded_number" sPad f fd) (T : Txt mg) : FnOk P w K mg base CX0 1 f fd ["figures"] spPad := by
  refine F.ok scPad (fun vs H Q E h => ?_) (fun cdv A outer s H vs Q E hr h => ?_)
  · obtain ⟨w, n, rfl, _⟩ := h
    rfl
  · obtain ⟨w, n, rfl, hl, q⟩ := h
    refine ⟨_, PSs.nox (pss_cons (ps_for PassesOwn.never rfl (pi_str (pv 0)) (pg_name (i := 1) scPad.nd rfl (Or.inl rfl))
        (pss_one (ps_if (pt_cmpR op_notIn_sign (pv 1) pe_str rfl) (pss_one (ps_ret pe_non)) pss_nil)))
      (pss_one (ps_ret (pe_callTy call_intS (by rfl) T.int (by decide +kernel) (pa_cons (pv 0) pa_nil))))), ?_⟩
    refine ⟨_, rfl, _, rfl, ?_⟩
    refine for_it walk_str (fun _ σ H' => H' = H ∧ ∃ v, σ = [some (.str (S (pad w n))), v]) ⟨rfl, none, rfl⟩ (fun _ _ _ _ _ => trivial) ?_ ?_
    · rintro i x σ H1 H2 hi ⟨rfl, v, rfl⟩ ⟨rfl, c, hc, rfl⟩
      have hc' : (pad w n)[i]? = some c := by
        rw [← hc]
        show (pad w n)[i]? = (pad w n).toArray[i]?
        rw [List.getElem?_toArray]
      have hm := pad_digits w n c (List.mem_of_getElem? hc')
      refine ⟨_, rfl, c, _, rfl, rfl, _, rfl, ?_⟩
      rw [in_figs hm]
      exact iteF ⟨rfl, _, rfl⟩
    · rintro σ H1 ⟨rfl, v, rfl⟩
      refine ⟨_, rfl, pad w n, rfl, pad_digits w n, pad_ne w n, hl, ?_⟩
      rw [pad_val]
      exact q
theorem ok_head {f fP fW fSt : Addr} {fd fdP fdW fdSt : FuncData} (F : FnP K "head_of" sHead f fd) (T : Txt mg) (A4 : At K mg "is_whole" sWhole ["thing", "least", "most"] fW fdW)
    (A5 : At K mg "is_stamp" sStamp ["thing"] fSt fdSt) (A8 : At K mg "padded_number" sPad ["figures"] fP fdP) : FnOk P w K mg base CX0 3 f fd ["head"] spHead := by
  have GS := ok_stamp (P := P) (w := w) (base := base) A5.F T A4
  have GP := ok_pad (P := P) (w := w) (base := base) A8.F T
  obtain ⟨t, ht⟩ := T.mDeeds
  refine F.ok scHead (fun vs H Q E h => ?_) (fun cdv A outer s H vs Q E hr h => ?_)
  · obtain ⟨st, n, len, rfl, _⟩ := h
    rfl
  · obtain ⟨st, n, len, rfl, h1, h2, h3, h4, h5, q⟩ := h
    have hr1 : Room 1 _ := hr.mono (by decide)
    refine ⟨_, PSs.nox (pss_cons (ps_set (i := 1) scHead.nd rfl (.inl rfl) (pe_lst
          (pa_cons (pe_call GP hr1 (by rfl) A8.g A8.F.kp A8.b .nil pass0 (pa_cons (pe_slice sl_S (pv 0) po_none (po_some pe_int)) pa_nil))
          (pa_cons (pe_call GP hr1 (by rfl) A8.g A8.F.kp A8.b .nil pass0 (pa_cons (pe_slice sl_S (pv 0) (po_some pe_int) (po_some pe_int)) pa_nil))
          (pa_cons (pe_call GP hr1 (by rfl) A8.g A8.F.kp A8.b .nil pass0 (pa_cons (pe_slice sl_S (pv 0) (po_some pe_int) (po_some pe_int)) pa_nil)) pa_nil)))))
      (pss_cons (ps_if (PW.pt (pw_or (pt_cmpR op_in_seq pe_non (pv 1) rfl)
          (pw_or1 (pt_cmpR op_ne (pe_op op_addS (pe_op op_addS (pe_ix ix_S (pv 0) pe_int (fun _ _ => rfl)) (pe_ix ix_S (pv 0) pe_int (fun _ _ => rfl))) (pe_ix ix_S (pv 0) pe_int (fun _ _ => rfl))) pe_str (nomark _)))))
          (pss_one (ps_ret pe_non)) pss_nil)
      (pss_cons (ps_if (PW.pt (pw_or (pt_not (pt_val (pe_call GS hr (by rfl) A5.g A5.F.kp A5.b .nil pass0 (pa_cons (pe_ix ix_list (pv 1) pe_int (fun _ _ => rfl)) pa_nil))))
          (pw_or1 (pt_not (pt_chain op_le op_le pe_int (pe_ix ix_list (pv 1) pe_int (fun _ _ => rfl)) (pe_glob (v := .int 20) (by rfl) ht ⟨_, rfl⟩))))))
          (pss_one (ps_ret pe_non)) pss_nil)
      (pss_one (ps_ret (pv 1)))))), ?_⟩
    have l1 := pad_len (w := 9) (n := st) (by omega) (by omega)
    have l2 := pad_len (w := 2) (n := n) (by omega) (by omega)
    have l3 := pad_len (w := 5) (n := len) (by omega) (by omega)
    obtain ⟨e0, e1, e2, e3, e4, e5, e6⟩ := head_parts _ _ _ 32 32 10 l1 l2 l3 (headOf st n len) rfl
    have c1 : cutS (S (headOf st n len)) none (some 9) = S (pad 9 st) := (cut_to _ 9).trans (by rw [e1])
    have c2 : cutS (S (headOf st n len)) (some 10) (some 12) = S (pad 2 n) := (cut_mid _ 10 12).trans (by rw [e2])
    have c3 : cutS (S (headOf st n len)) (some 13) (some 18) = S (pad 5 len) := (cut_mid _ 13 18).trans (by rw [e3])
    refine ⟨_, rfl, 9, rfl, _, pad 9 st, rfl, by omega, c1, 9, st, rfl, by omega, ?_⟩
    refine ⟨_, rfl, 10, rfl, 12, rfl, _, pad 2 n, rfl, by omega, c2, 2, n, rfl, by omega, ?_⟩
    refine ⟨_, rfl, 13, rfl, 18, rfl, _, pad 5 len, rfl, by omega, c3, 5, len, rfl, by omega, ?_⟩
    refine ⟨by show 3 ≤ sizeLine; decide, fun p hp => ?_⟩
    have s1 := same_new (o := .lst [.int (st : Int), .int (n : Int), .int (len : Int)]) hp
    have hS : SqL K (upd H p (.lst [.int (st : Int), .int (n : Int), .int (len : Int)])) p [.int (st : Int), .int (n : Int), .int (len : Int)] := .inl (.inl upd_same)
    -- None in numbers
    refine ⟨_, rfl, p, _, rfl, .inl hS, rfl, rfl, false, rfl, ?_⟩
    refine iteF ?_
    refine ⟨_, rfl, _, 9, 32, rfl, rfl, by omega, e4, _, rfl, _, 12, 32, rfl, rfl, by omega, e5, [32], [32], rfl, rfl, by decide, _, rfl, _, 18, 10, rfl, rfl, by omega, e6, [32, 32], [10], rfl, rfl, by decide, ?_⟩
    refine ⟨rfl, false, ?_, ?_⟩
    · rw [s_h, show (S ([32, 32] ++ [10])) = S [32, 32, 10] from rfl, decide_eq_true rfl]
      rfl
    refine iteF ?_
    -- the stamp, the number of deeds
    refine ⟨_, rfl, p, _, 0, _, rfl, rfl, hS, atI_nat (j := 0) rfl, (st : Int), rfl, by omega, by omega, true, rfl, ?_⟩
    refine iteF ?_
    refine ⟨_, rfl, p, _, 1, _, rfl, rfl, hS, atI_nat (j := 1) rfl, _, _, rfl, rfl, true, congrArg V.bl (decide_eq_true (by omega)), ?_⟩
    refine iteT ⟨_, _, rfl, rfl, true, congrArg V.bl (decide_eq_true (by omega)), ?_⟩
    refine iteF ?_
    exact ⟨_, rfl, q _ p s1 hp upd_same⟩
theorem line_parts : ∀ (x : Nat) (p k u : List Nat), p.length = 2 → ∀ L, L = x :: (p ++ (k ++ u)) →
    L.length = 3 + k.length + u.length ∧ (L.drop 1).take (3 - 1) = p ∧ (L.drop 3).take (3 + k.length - 3) = k ∧ L.drop (3 + k.length) = u ∧ L[0]? = some x
  | x, [a, b], k, u, _, _, rfl => by
    refine ⟨?_, rfl, ?_, ?_, rfl⟩
    · simp only [List.length_cons, List.length_append, List.length_nil]
      omega
    · show (k ++ u).take (3 + k.length - 3) = k
      rw [Nat.add_sub_cancel_left, List.take_left]
    · rw [Nat.add_comm]
      show (k ++ u).drop k.length = u
      rw [List.drop_left]
theorem ok_deedOf {f fP fT fK fV : Addr} {fd fdP fdT fdK fdV : FuncData} (F : FnP K "deed_of" sDeedOf f fd) (T : Txt mg) (A1 : At K mg "is_text" sText ["thing", "least", "most"] fT fdT)
    (A2 : At K mg "is_key" sKey ["thing"] fK fdK) (A3 : At K mg "is_value" sVal ["thing"] fV fdV) (A8 : At K mg "padded_number" sPad ["figures"] fP fdP) : FnOk P w K mg base CX0 3 f fd ["line"] (spDeedOf K) := by
  have GK := ok_key (P := P) (w := w) (base := base) A2.F T A1
  have GV := ok_val (P := P) (w := w) (base := base) A3.F T A1
  have GP := ok_pad (P := P) (w := w) (base := base) A8.F T
  refine F.ok scDeedOf (fun vs H Q E h => ?_) (fun cdv A outer s H vs Q E hr h => ?_)
  · obtain ⟨d, rfl, _⟩ := h
    rfl
  · obtain ⟨d, rfl, ok, q⟩ := h
    have hr1 : Room 1 _ := hr.mono (by decide)
    refine ⟨_, PSs.nox (pss_cons (ps_if (PW.pt (pw_or (pt_cmpR op_lt (pe_callB call_lenS (by rfl) T.len PySem.boot_len (pa_cons (pv 0) pa_nil)) pe_int (nomark _))
          (pw_or1 (pt_cmpR op_isN (pe_call GP hr1 (by rfl) A8.g A8.F.kp A8.b .nil pass0 (pa_cons (pe_slice sl_S (pv 0) (po_some pe_int) (po_some pe_int)) pa_nil)) pe_non (nomark _)))))
          (pss_one (ps_ret pe_non)) pss_nil)
      (pss_cons (ps_set (i := 1) scDeedOf.nd rfl (.inl rfl) (pe_call GP hr1 (by rfl) A8.g A8.F.kp A8.b .nil pass0 (pa_cons (pe_slice sl_S (pv 0) (po_some pe_int) (po_some pe_int)) pa_nil)))
      (pss_cons (ps_set (i := 2) scDeedOf.nd rfl (.inl rfl) (pe_slice sl_S (pv 0) (po_some pe_int) (po_some (pe_op op_add pe_int (pv 1)))))
      (pss_cons (ps_set (i := 3) scDeedOf.nd rfl (.inl rfl) (pe_slice sl_S (pv 0) (po_some (pe_op op_add pe_int (pv 1))) po_none))
      (pss_cons (ps_if (PW.pt (pw_or (pt_cmpR op_lt (pe_callB call_lenS (by rfl) T.len PySem.boot_len (pa_cons (pv 2) pa_nil)) (pv 1) (nomark _))
          (pw_or1 (pt_not (pt_val (pe_call GK hr (by rfl) A2.g A2.F.kp A2.b .nil pass0 (pa_cons (pv 2) pa_nil)))))))
          (pss_one (ps_ret pe_non)) pss_nil)
      (pss_cons (ps_if (PW.pt (pw_and (pt_cmpR op_eq (pe_ix ix_S (pv 0) pe_int (fun _ _ => rfl)) pe_str (nomark _)) (pw_and1 (pt_cmpR op_eq (pv 3) pe_str (nomark _)))))
          (pss_one (ps_ret (pe_tup (pa_cons pe_str (pa_cons (pv 2) pa_nil))))) pss_nil)
      (pss_cons (ps_if (PW.pt (pw_and (pt_cmpR op_eq (pe_ix ix_S (pv 0) pe_int (fun _ _ => rfl)) pe_str (nomark _)) (pw_and1 (pt_val (pe_call GV hr (by rfl) A3.g A3.F.kp A3.b .nil pass0 (pa_cons (pv 3) pa_nil))))))
          (pss_one (ps_ret (pe_tup (pa_cons pe_str (pa_cons (pv 2) (pa_cons (pv 3) pa_nil)))))) pss_nil)
      (pss_one (ps_ret pe_non))))))))), ?_⟩
    have hll := line_len ok
    cases d with
    | drop k =>
      have hk : okKey k := ok
      have hp := pad_len (w := 2) (n := k.length) (by omega) (by have := hk.2.1; omega)
      obtain ⟨e0, e1, e2, e3, e4⟩ := line_parts 103 _ k [] hp (lineOf (.drop k)) (by rw [List.append_nil]; rfl)
      generalize lineOf (.drop k) = L at hll e0 e1 e2 e3 e4 ⊢
      have c1 : cutS (S L) (some 1) (some 3) = S (pad 2 k.length) := (cut_mid _ 1 3).trans (by rw [e1])
      have en : (3 : Int) + (k.length : Int) = ((3 + k.length : Nat) : Int) := by omega
      have c2 : cutS (S L) (some 3) (some (3 + (k.length : Int))) = S k := by
        rw [en]
        exact (cut_mid _ 3 (3 + k.length)).trans (by rw [e2])
      have c3 : cutS (S L) (some (3 + (k.length : Int))) none = S [] := by
        rw [en]
        exact (cut_from _ (3 + k.length)).trans (by rw [e3])
      refine ⟨_, rfl, L, rfl, by omega, _, _, rfl, rfl, false, congrArg V.bl (decide_eq_false (by omega)), ?_⟩
      refine iteF ?_
      refine ⟨_, rfl, 1, rfl, 3, rfl, L, _, rfl, by omega, c1, 2, k.length, rfl, by omega, rfl, false, rfl, ?_⟩
      refine iteF ?_
      refine ⟨_, rfl, 1, rfl, 3, rfl, L, _, rfl, by omega, c1, 2, k.length, rfl, by omega, ?_⟩
      refine ⟨_, rfl, 3, rfl, _, rfl, _, _, rfl, rfl, _, rfl, L, k, rfl, by omega, c2, ?_⟩
      refine ⟨_, rfl, _, rfl, _, _, rfl, rfl, _, rfl, L, [], rfl, by omega, c3, ?_⟩
      refine ⟨_, rfl, k, rfl, by omega, _, rfl, _, _, rfl, rfl, false, congrArg V.bl (decide_eq_false (by omega)), ?_⟩
      refine iteF ?_
      refine ⟨_, rfl, k, rfl, hk, fun H1 s1 => ⟨true, rfl, ?_⟩⟩
      refine iteF ?_
      refine ⟨_, rfl, L, 0, 103, rfl, rfl, by omega, e4, rfl, true, by rw [s_g, decide_eq_true rfl], ?_⟩
      refine iteT ⟨_, rfl, rfl, true, by rw [s_e, decide_eq_true rfl], ?_⟩
      refine iteT ⟨_, rfl, by show 2 ≤ sizeLine; decide, fun p hp2 => ?_⟩
      refine q _ (.ref p) (s1.trans (same_new hp2)) (.tup (.inl (.inl ?_)) (.cons (.str _) (.cons (.str _) .nil)))
      exact nw_new (s1.free hp2)
    | put k u =>
      have hk : okKey k ∧ okVal u := ok
      have hp := pad_len (w := 2) (n := k.length) (by omega) (by have := hk.1.2.1; omega)
      obtain ⟨e0, e1, e2, e3, e4⟩ := line_parts 112 _ k u hp (lineOf (.put k u)) rfl
      generalize lineOf (.put k u) = L at hll e0 e1 e2 e3 e4 ⊢
      have c1 : cutS (S L) (some 1) (some 3) = S (pad 2 k.length) := (cut_mid _ 1 3).trans (by rw [e1])
      have en : (3 : Int) + (k.length : Int) = ((3 + k.length : Nat) : Int) := by omega
      have c2 : cutS (S L) (some 3) (some (3 + (k.length : Int))) = S k := by
        rw [en]
        exact (cut_mid _ 3 (3 + k.length)).trans (by rw [e2])
      have c3 : cutS (S L) (some (3 + (k.length : Int))) none = S u := by
        rw [en]
        exact (cut_from _ (3 + k.length)).trans (by rw [e3])
      refine ⟨_, rfl, L, rfl, by omega, _, _, rfl, rfl, false, congrArg V.bl (decide_eq_false (by omega)), ?_⟩
      refine iteF ?_
      refine ⟨_, rfl, 1, rfl, 3, rfl, L, _, rfl, by omega, c1, 2, k.length, rfl, by omega, rfl, false, rfl, ?_⟩
      refine iteF ?_
      refine ⟨_, rfl, 1, rfl, 3, rfl, L, _, rfl, by omega, c1, 2, k.length, rfl, by omega, ?_⟩
      refine ⟨_, rfl, 3, rfl, _, rfl, _, _, rfl, rfl, _, rfl, L, k, rfl, by omega, c2, ?_⟩
      refine ⟨_, rfl, _, rfl, _, _, rfl, rfl, _, rfl, L, u, rfl, by omega, c3, ?_⟩
      refine ⟨_, rfl, k, rfl, by omega, _, rfl, _, _, rfl, rfl, false, congrArg V.bl (decide_eq_false (by omega)), ?_⟩
      refine iteF ?_
      refine ⟨_, rfl, k, rfl, hk.1, fun H1 s1 => ⟨true, rfl, ?_⟩⟩
      refine iteF ?_
      refine ⟨_, rfl, L, 0, 112, rfl, rfl, by omega, e4, rfl, false, by decide +kernel, ?_⟩
      refine iteF ?_
      refine iteF ?_
      refine ⟨_, rfl, L, 0, 112, rfl, rfl, by omega, e4, rfl, true, by rw [s_p, decide_eq_true rfl], ?_⟩
      refine iteT ⟨_, rfl, u, rfl, hk.2, fun H2 s2 => ⟨true, rfl, ?_⟩⟩
      refine iteT ⟨_, rfl, _, rfl, by show 3 ≤ sizeLine; decide, fun p hp2 => ?_⟩
      refine q _ (.ref p) ((s1.trans s2).trans (same_new hp2)) (.tup (.inl (.inl ?_)) (.cons (.str _) (.cons (.str _) (.cons (.str _) .nil))))
      exact nw_new ((s1.trans s2).free hp2)
theorem split_body (ds : List Deed) (hne : ds ≠ []) (ok : ∀ d ∈ ds, d.ok) : Txt.split (S (joinL [10] (ds.map lineOf))) (Str.ofString "\n") = (ds.map lineOf).map S := by
  rw [s_nl, ← join_S]
  refine split_join (s := 10) (S := []) rfl (by decide +kernel) (fun e => hne (List.map_eq_nil_iff.mp (List.map_eq_nil_iff.mp e))) fun p hp => ?_
  obtain ⟨l, hl, rfl⟩ := List.mem_map.mp hp
  obtain ⟨d, hd, rfl⟩ := List.mem_map.mp hl
  exact line_nl (ok d hd)
theorem none_in : ∀ ds : List Deed, ((ds.map deedD).any fun z => PyData.eqv z .none) = false
  | [] => rfl
  | d :: ds => by
    rw [List.map_cons, List.any_cons, none_in ds]
    cases d <;> rfl
theorem ok_deeds {f fO fP fT fK fV : Addr} {fd fdO fdP fdT fdK fdV : FuncData} (F : FnP K "deeds_in" sDeeds f fd) (T : Txt mg) (A1 : At K mg "is_text" sText ["thing", "least", "most"] fT fdT)
    (A2 : At K mg "is_key" sKey ["thing"] fK fdK) (A3 : At K mg "is_value" sVal ["thing"] fV fdV) (A8 : At K mg "padded_number" sPad ["figures"] fP fdP) (A9 : At K mg "deed_of" sDeedOf ["line"] fO fdO) :
    FnOk P w K mg base CX0 4 f fd ["body"] (spDeeds K) := by
  have GO := ok_deedOf (P := P) (w := w) (base := base) A9.F T A1 A2 A3 A8
  refine F.ok scDeeds (fun vs H Q E h => ?_) (fun cdv A outer s H vs Q E hr h => ?_)
  · obtain ⟨ds, rfl, _⟩ := h
    rfl
  · obtain ⟨ds, rfl, hne, hl, ok, q⟩ := h
    have hu := hr.un
    have hu65 : (A.deeper (envOfC "deeds_in" (defScope sDeeds) s.heap.objs.size f cdv)).units + 65 < cLine := by omega
    refine ⟨_, PSs.nox (pss_cons (ps_if (pt_cmpR op_ne (pe_slice sl_S (pv 0) (po_some (pe_un un_neg pe_int)) po_none) pe_str (nomark _)) (pss_one (ps_ret pe_non)) pss_nil)
      (pss_cons (ps_setLc (i := 1) (own := [("line", 2)]) (g := gName 2) (tt := tYes) rfl scDeeds.nd rfl rfl (sw_true rfl rfl rfl (by decide +kernel)) (pi_list (pe_split (pe_slice sl_S (pv 0) po_none (po_some (pe_un un_neg pe_int))) pe_str))
          (blkOk_by (N := ["body", "deeds", "line"]) (sc := defScope sDeeds) (by decide +kernel)) (fun _ _ _ _ _ => pg_name (i := 2) scDeeds.nd rfl (Or.inl rfl)) (fun _ _ _ _ _ => pts_nil)
          (fun _ _ _ _ _ => pe_call GO hr (by rfl) A9.g A9.F.kp A9.b .nil pass0 (pa_cons (pv 2) pa_nil)))
      (pss_one (ps_ret (pe_ifExp (pt_cmpR (op_inD hu65) pe_non (pv 1) rfl) pe_non (pv 1)))))), ?_⟩
    have hb := body_len ds ok
    have ej := body_join ds hne
    have hJ := congrArg List.length ej
    rw [List.length_append, List.length_singleton] at hJ
    have c1 : cutS (S (bodyOf ds)) (some (-1)) none = S [10] := by
      rw [ej]
      exact cut_last _ 10
    have c2 : cutS (S (bodyOf ds)) none (some (-1)) = S (joinL [10] (ds.map lineOf)) := by
      rw [ej]
      exact cut_but _ 10
    refine ⟨_, rfl, 1, rfl, _, rfl, bodyOf ds, [10], rfl, by omega, c1, rfl, false, ?_, ?_⟩
    · rw [s_nl, decide_eq_true rfl]
      rfl
    refine iteF ?_
    refine ⟨_, rfl, 1, rfl, _, rfl, bodyOf ds, _, rfl, by omega, c2, ⟨_, rfl⟩, _, _, rfl, rfl, by decide +kernel, ?_, fun p hp => ?_⟩
    · rw [len_S]
      exact small (by omega)
    rw [split_body ds hne ok]
    have s1 := same_new (o := .lst (((ds.map lineOf).map S).map V.str)) hp
    refine ⟨p, rfl, ⟨_, .inl (.inl upd_same)⟩, fun D hD => ?_⟩
    refine lc_it (walk_list (xs := ((ds.map lineOf).map S).map V.str)) (PvN (upd H p (.lst (((ds.map lineOf).map S).map V.str))) D (fun i acc G => DpAll K G acc ((ds.take i).map deedD))) (PvN.start hD fun _ => .nil)
      (fun _ _ _ pp => .inl (.inl (pp.1 _ _ upd_same))) ?_ ?_
    · rintro i x H1 _ hi pp ⟨rfl, hx⟩
      rw [List.map_map, List.map_map, List.getElem?_map] at hx
      obtain ⟨d, e3, rfl⟩ := Option.map_eq_some_iff.mp hx
      refine ⟨rfl, _, rfl, d, rfl, ok d (List.mem_of_getElem? e3), fun H4 v s4 hv => ?_⟩
      have hi2 : i < ds.length := (List.getElem?_eq_some_iff.mp e3).1
      refine PvN.next hD pp s4 (by omega) fun acc _ e => ?_
      rw [take_snoc e3, List.map_append]
      exact DpAll.snoc (Dp.mono (nw_dom pp.dom) _ _ hv) (DpAll.mono (nw_mono s4) _ _ e)
    · intro H1 pp
      have ll : (((ds.map lineOf).map S).map V.str).length = ds.length := by rw [List.length_map, List.length_map, List.length_map]
      have pp2 := pp
      obtain ⟨s2, acc, e, hl2, r⟩ := pp
      rw [ll, List.take_length] at r
      have hf : Dp K (nw H H1) (.ref D) (.list (ds.map deedD)) := PvN.fin s1 hD pp2 e r
      refine ⟨_, rfl, .none, ds.map deedD, .non, Dp.mono (nw_sub _ _) _ _ hf, by decide +kernel, deedsD_shaped ok, false, congrArg V.bl (none_in ds), ?_⟩
      refine iteF ?_
      exact ⟨_, rfl, q _ _ (s1.trans s2) hf⟩
end
end K42

/-! journals.py: the whole records, what a journal tells, the place behind it. -/
namespace K42
open PySem PySem.Spec PyProof.Rows L2 TL
abbrev sWholeR : Stmt := top 24
abbrev sJour : Stmt := top 25
abbrev sEnd : Stmt := top 26
theorem scWholeR : FnScope ["text", "found", "at", "numbers", "end", "deeds"] ["text"] (defScope sWholeR) := ⟨rfl, rfl, rfl, by decide +kernel, rfl, by decide +kernel, by decide +kernel⟩
theorem scJour : FnScope ["text", "stamp", "deeds", "end"] ["text"] (defScope sJour) := ⟨rfl, rfl, rfl, by decide +kernel, rfl, by decide +kernel, by decide +kernel⟩
theorem scEnd : FnScope ["text", "stamp", "deeds", "end"] ["text"] (defScope sEnd) := ⟨rfl, rfl, rfl, by decide +kernel, rfl, by decide +kernel, by decide +kernel⟩
def trios (rs : List Rec) : List PyData := rs.mapIdx fun i r => trioD r (endAt rs (i + 1))
theorem trios_len (rs : List Rec) : (trios rs).length = rs.length := List.length_mapIdx
theorem trios_get {rs : List Rec} {i : Nat} {r : Rec} (h : rs[i]? = some r) : (trios rs)[i]? = some (trioD r (endAt rs (i + 1))) := by
  unfold trios
  rw [List.getElem?_mapIdx, h]
  rfl
def spWholeR (K : PySem.W.Frag) : Sp := fun vs H Q _ => ∃ (rs : List Rec) (rest : List Nat), vs = [.str (S (jour rs ++ rest))] ∧ (∀ r ∈ rs, r.ok) ∧ rs.length ≤ 20 ∧ Torn rest ∧
  ∀ H' v, Same H H' → Dp K (nw H H') v (.list (trios rs)) → Q v H'
theorem torn_len {rest : List Nat} (h : Torn rest) : rest.length ≤ 1299 := by
  rcases h with h | ⟨r, ok, k, hk, rfl⟩
  · omega
  · rw [List.length_take]
    have := ok.len
    have := ok.blen
    omega
section
variable {P : Program} {w : World} {K : PySem.W.Frag} {mg : Str → Option Value} {base : Heap}
theorem ok_wholeR {f fH fI fO fP fT fK fV fW fSt : Addr} {fd fdH fdI fdO fdP fdT fdK fdV fdW fdSt : FuncData} (F : FnP K "whole_records" sWholeR f fd) (T : Txt mg) (A1 : At K mg "is_text" sText ["thing", "least", "most"] fT fdT)
    (A2 : At K mg "is_key" sKey ["thing"] fK fdK) (A3 : At K mg "is_value" sVal ["thing"] fV fdV) (A4 : At K mg "is_whole" sWhole ["thing", "least", "most"] fW fdW) (A5 : At K mg "is_stamp" sStamp ["thing"] fSt fdSt)
    (A8 : At K mg "padded_number" sPad ["figures"] fP fdP) (A9 : At K mg "deed_of" sDeedOf ["line"] fO fdO) (A10 : At K mg "head_of" sHead ["head"] fH fdH) (A11 : At K mg "deeds_in" sDeeds ["body"] fI fdI) :
    FnOk P w K mg base CX0 5 f fd ["text"] (spWholeR K) := by
  have GH := ok_head (P := P) (w := w) (base := base) A10.F T A4 A5 A8
  have GI := ok_deeds (P := P) (w := w) (base := base) A11.F T A1 A2 A3 A8 A9
  obtain ⟨t, ht⟩ := T.head
  refine F.ok scWholeR (fun vs H Q E h => ?_) (fun cdv A outer s H vs Q E hr h => ?_)
  · obtain ⟨rs, rest, rfl, _⟩ := h
    rfl
  · obtain ⟨rs, rest, rfl, ok, hn, ht2, q⟩ := h
    have hr3 : Room 3 _ := hr.mono (by decide)
    refine ⟨_, PSs.nox (pss_cons (ps_set (i := 1) scWholeR.nd rfl (.inl rfl) (pe_lst pa_nil))
      (pss_cons (ps_set (i := 2) scWholeR.nd rfl (.inl rfl) pe_int)
      (pss_cons (ps_while PassesOwn.never (pt_cmpR op_le (pe_op op_addE (pv 2) (pe_glob (v := .int 19) (by rfl) ht ⟨_, rfl⟩)) (pe_callB call_lenS (by rfl) T.len PySem.boot_len (pa_cons (pv 0) pa_nil)) (nomark _))
        (pss_cons (ps_set (i := 3) scWholeR.nd rfl (.inl rfl) (pe_call GH hr3 (by rfl) A10.g A10.F.kp A10.b .nil pass0 (pa_cons (pe_slice sl_S (pv 0) (po_some (pv 2)) (po_some (pe_op op_addE (pv 2) (pe_glob (v := .int 19) (by rfl) ht ⟨_, rfl⟩)))) pa_nil)))
        (pss_cons (ps_if (pt_cmpR op_isN (pv 3) pe_non (nomark _)) (pss_one ps_never) pss_nil)
        (pss_cons (ps_set (i := 4) scWholeR.nd rfl (.inl rfl) (pe_op op_addE (pe_op op_addE (pv 2) (pe_glob (v := .int 19) (by rfl) ht ⟨_, rfl⟩)) (pe_ix ix_list (pv 3) pe_int (fun _ _ => rfl))))
        (pss_cons (ps_if (pt_cmpR op_gt (pv 4) (pe_callB call_lenS (by rfl) T.len PySem.boot_len (pa_cons (pv 0) pa_nil)) (nomark _)) (pss_one (ps_ret (pv 1))) pss_nil)
        (pss_cons (ps_set (i := 5) scWholeR.nd rfl (.inl rfl) (pe_call GI hr (by rfl) A11.g A11.F.kp A11.b .nil pass0 (pa_cons (pe_slice sl_S (pv 0) (po_some (pe_op op_addE (pv 2) (pe_glob (v := .int 19) (by rfl) ht ⟨_, rfl⟩))) (po_some (pv 4))) pa_nil)))
        (pss_cons (ps_if (PW.pt (pw_or (pt_cmpR op_isN (pv 5) pe_non (nomark _)) (pw_or1 (pt_cmpR op_ne (pe_callB call_len_seq (by rfl) T.len PySem.boot_len (pa_cons (pv 5) pa_nil)) (pe_ix ix_list (pv 3) pe_int (fun _ _ => rfl)) (nomark _))))) (pss_one ps_never) pss_nil)
        (pss_cons (ps_expr (pe_bm PySem.F.plainAttrs_list PySem.F.slot_list_append PySem.F.type_list_append mt_append (pv 1) (pa_cons (pe_tup (pa_cons (pe_ix ix_list (pv 3) pe_int (fun _ _ => rfl)) (pa_cons (pv 5) (pa_cons (pv 4) pa_nil)))) pa_nil)))
        (pss_one (ps_set (i := 2) scWholeR.nd rfl (.inl rfl) (pv 4)))))))))))
      (pss_one (ps_ret (pv 1)))))), ?_⟩
    have hj := jour_len_le rs ok
    have htl := torn_len ht2
    have hLl : (jour rs ++ rest).length = (jour rs).length + rest.length := List.length_append
    have hL : (jour rs ++ rest).length ≤ 100000 := by
      have : 1299 * rs.length ≤ 1299 * 20 := Nat.mul_le_mul_left _ hn
      omega
    refine ⟨Nat.zero_le _, fun p hp => ?_⟩
    have hfin : ∀ H1, PvN H p (fun i acc G => DpAll K G acc ((trios rs).take i)) rs.length H1 → Q (.ref p) H1 := by
      intro H1 pp
      obtain ⟨s2, acc, e, hl2, r⟩ := id pp
      rw [← trios_len rs, List.take_length] at r
      exact q H1 _ s2 (PvN.fin (Same.refl H) hp pp e r)
    refine ⟨fun m σ H1 => ∃ (i : Nat) (v3 v4 v5 : Option V), i ≤ rs.length ∧ m = rs.length - i ∧ σ = [some (.str (S (jour rs ++ rest))), some (.ref p), some (.int (endAt rs i : Nat)), v3, v4, v5] ∧ PvN H p (fun i acc G => DpAll K G acc ((trios rs).take i)) i H1,
      ⟨rs.length, 0, none, none, none, Nat.zero_le _, rfl, ?_, PvN.start hp fun _ => .nil⟩, ?_⟩
    · rw [endAt_zero]
      rfl
    rintro m σ H1 ⟨i, v3, v4, v5, hi, rfl, rfl, pp⟩
    have hle := endAt_le rs i
    by_cases hi2 : i < rs.length
    · obtain ⟨r, hri⟩ : ∃ r, rs[i]? = some r := ⟨rs[i], List.getElem?_eq_getElem hi2⟩
      have okr := ok r (List.mem_of_getElem? hri)
      have hes := endAt_succ hri
      have hrl := okr.len
      have hbl := okr.blen
      have hle2 := endAt_le rs (i + 1)
      have hda := drop_at hri rest
      refine ⟨_, rfl, _, _, ((endAt rs i + 19 : Nat) : Int), rfl, rfl, by omega, _, rfl, jour rs ++ rest, rfl, hL, _, _, rfl, rfl, true, congrArg V.bl (decide_eq_true (by omega)), ?_⟩
      refine iteT ⟨fun σ' H' => ∃ (v3 v4 v5 : Option V), σ' = [some (.str (S (jour rs ++ rest))), some (.ref p), some (.int (endAt rs (i + 1) : Nat)), v3, v4, v5] ∧ PvN H p (fun i acc G => DpAll K G acc ((trios rs).take i)) (i + 1) H', ?_, ?_⟩
      · rintro σ' H' ⟨v3, v4, v5, e, pp'⟩
        exact ⟨rs.length - (i + 1), by omega, i + 1, v3, v4, v5, by omega, rfl, e, pp'⟩
      have c1 : cutS (S (jour rs ++ rest)) (some ((endAt rs i : Nat) : Int)) (some ((endAt rs i + 19 : Nat) : Int)) = S (headOf r.1 r.2.length (bodyOf r.2).length) := by
        rw [cut_mid, hda, Nat.add_sub_cancel_left, rec_head okr]
      have c2 : cutS (S (jour rs ++ rest)) (some ((endAt rs i + 19 : Nat) : Int)) (some ((endAt rs (i + 1) : Nat) : Int)) = S (bodyOf r.2) := by
        rw [cut_mid, ← List.drop_drop, hda, show endAt rs (i + 1) - (endAt rs i + 19) = (bodyOf r.2).length by omega, rec_body okr]
      refine ⟨_, rfl, _, rfl, _, rfl, _, rfl, _, _, ((endAt rs i + 19 : Nat) : Int), rfl, rfl, by omega, _, rfl, jour rs ++ rest, _, rfl, hL, c1, r.1, r.2.length, (bodyOf r.2).length, rfl, okr.s1, okr.s2, okr.n1, okr.n2, by omega, fun H2 pn s2 hpn hH2 => ?_⟩
      -- numbers is None
      refine ⟨_, rfl, rfl, false, rfl, ?_⟩
      refine iteF ?_
      -- end
      refine ⟨_, rfl, _, _, ((endAt rs i + 19 : Nat) : Int), rfl, rfl, by omega, _, rfl, pn, _, 2, _, rfl, rfl, .inl (.inl hH2), atI_nat (j := 2) rfl, _, _, ((endAt rs (i + 1) : Nat) : Int), rfl, rfl, by omega, ?_⟩
      refine ⟨_, rfl, _, rfl, jour rs ++ rest, rfl, hL, _, _, rfl, rfl, false, congrArg V.bl (decide_eq_false (by omega)), ?_⟩
      refine iteF ?_
      -- deeds
      refine ⟨_, rfl, _, rfl, _, _, ((endAt rs i + 19 : Nat) : Int), rfl, rfl, by omega, _, rfl, _, rfl, _, rfl, jour rs ++ rest, _, rfl, hL, c2, r.2, rfl, (fun e => by have := okr.n1; rw [e] at this; exact absurd this (by decide)), okr.n2, okr.ds, fun H3 v s3 hv => ?_⟩
      obtain ⟨da, dxs, rfl, hdS, hdX⟩ := at_list (Dp.mono (nw_sub _ _) _ _ hv)
      have hdl : dxs.length = r.2.length := by rw [DpAll.len hdX, List.length_map]
      have hN : SqL K H3 pn [.int (r.1 : Int), .int (r.2.length : Int), .int ((bodyOf r.2).length : Int)] := s3.seq (.inl (.inl hH2))
      refine ⟨_, rfl, rfl, false, rfl, ?_⟩
      refine iteF ?_
      refine ⟨_, rfl, da, dxs, rfl, .inl hdS, _, rfl, pn, _, 1, _, rfl, rfl, hN, atI_nat (j := 1) rfl, rfl, false, ?_, ?_⟩
      · rw [hdl, decide_eq_true rfl]
        rfl
      refine iteF ?_
      -- found.append(..)
      have s13 := s2.trans s3
      obtain ⟨_, acc0, ha0, _⟩ := id pp
      refine ⟨_, rfl, .inl ⟨rfl, _, .inl (.inl (s13 _ _ ha0))⟩, _, rfl, pn, _, 0, _, rfl, rfl, hN, atI_nat (j := 0) rfl, _, rfl, _, rfl, by show 3 ≤ sizeLine; decide, fun tp htp => ?_⟩
      have hB : upd H p (.lst []) tp = none := pp.dom tp (s13.free htp)
      obtain ⟨acc, ha, hlt, pp'⟩ := PvN.next (y := .ref tp) (H4 := upd H3 tp (.tup [.int (r.1 : Int), .ref da, .int ((endAt rs (i + 1) : Nat) : Int)])) hp pp (s13.trans (same_new htp)) (by omega) (fun acc _ e => by
        rw [take_snoc (trios_get hri)]
        refine DpAll.snoc ?_ (DpAll.mono (nw_mono (s13.trans (same_new htp))) _ _ e)
        refine .tup (.inl (.inl (nw_new hB))) (.cons (.int _) (.cons ?_ (.cons (.int _) .nil)))
        exact Dp.mono (nw_mono (same_new htp)) _ _ (Dp.mono (nw_dom fun b hb => pp.dom b (s2.free hb)) _ _ hv))
      refine ⟨p, acc, .ref tp, rfl, rfl, ha, hlt, ?_⟩
      exact ⟨_, rfl, _, _, _, rfl, pp'⟩
    · have hin : i = rs.length := by omega
      subst hin
      have hda : (jour rs ++ rest).drop (endAt rs rs.length) = rest := by
        rw [jour_drop, List.drop_length]
        rfl
      have hea := endAt_all rs
      by_cases h19 : 19 ≤ rest.length
      · refine ⟨_, rfl, _, _, ((endAt rs rs.length + 19 : Nat) : Int), rfl, rfl, by omega, _, rfl, jour rs ++ rest, rfl, hL, _, _, rfl, rfl, true, congrArg V.bl (decide_eq_true (by omega)), ?_⟩
        refine iteT ⟨fun _ _ => False, fun _ _ z => z.elim, ?_⟩
        obtain ⟨r, okr, k, hk, hrest⟩ : ∃ r : Rec, r.ok ∧ ∃ k, k < (recOf r).length ∧ rest = (recOf r).take k := by
          rcases ht2 with z | z
          · omega
          · exact z
        have hrl := okr.len
        have hbl := okr.blen
        have hkl : rest.length = k := by
          rw [hrest, List.length_take]
          omega
        have c1 : cutS (S (jour rs ++ rest)) (some ((endAt rs rs.length : Nat) : Int)) (some ((endAt rs rs.length + 19 : Nat) : Int)) = S (headOf r.1 r.2.length (bodyOf r.2).length) := by
          rw [cut_mid, hda, Nat.add_sub_cancel_left, hrest, torn_head okr (by omega)]
        refine ⟨_, rfl, _, rfl, _, rfl, _, rfl, _, _, ((endAt rs rs.length + 19 : Nat) : Int), rfl, rfl, by omega, _, rfl, jour rs ++ rest, _, rfl, hL, c1, r.1, r.2.length, (bodyOf r.2).length, rfl, okr.s1, okr.s2, okr.n1, okr.n2, by omega, fun H2 pn s2 hpn hH2 => ?_⟩
        refine ⟨_, rfl, rfl, false, rfl, ?_⟩
        refine iteF ?_
        refine ⟨_, rfl, _, _, ((endAt rs rs.length + 19 : Nat) : Int), rfl, rfl, by omega, _, rfl, pn, _, 2, _, rfl, rfl, .inl (.inl hH2), atI_nat (j := 2) rfl, _, _, ((endAt rs rs.length + 19 + (bodyOf r.2).length : Nat) : Int), rfl, rfl, by omega, ?_⟩
        refine ⟨_, rfl, _, rfl, jour rs ++ rest, rfl, hL, _, _, rfl, rfl, true, congrArg V.bl (decide_eq_true (by omega)), ?_⟩
        refine iteT ⟨_, rfl, ?_⟩
        obtain ⟨s1, acc, ha, hl2, hD⟩ := pp
        exact hfin H2 ⟨s1.trans s2, acc, s2 _ _ ha, hl2, DpAll.mono (nw_mono s2) _ _ hD⟩
      · refine ⟨_, rfl, _, _, ((endAt rs rs.length + 19 : Nat) : Int), rfl, rfl, by omega, _, rfl, jour rs ++ rest, rfl, hL, _, _, rfl, rfl, false, congrArg V.bl (decide_eq_false (by omega)), ?_⟩
        refine iteF ?_
        exact ⟨_, rfl, hfin H1 pp⟩
end
/-! ### a comprehension over a base of its own -/
def PvB (H1 B : Hp) (D : Addr) (R : Nat → List V → Hp → Prop) (i : Nat) (H : Hp) : Prop :=
  Same H1 H ∧ ∃ acc, H D = some (.lst acc) ∧ acc.length = i ∧ R i acc (nw B H)
theorem PvB.start {H1 B : Hp} {D : Addr} {R : Nat → List V → Hp → Prop} (hD : H1 D = none) (r : ∀ G, R 0 [] G) : PvB H1 B D R 0 (upd H1 D (.lst [])) :=
  ⟨same_new hD, [], upd_same, rfl, r _⟩
theorem PvB.next {H1 B H H4 : Hp} {D : Addr} {R : Nat → List V → Hp → Prop} {i : Nat} {y : V} {u : HO} (hD : H1 D = none) (hB : B D = some u) (p : PvB H1 B D R i H) (s : Same H H4) (hi : i ≤ 100000)
    (r : ∀ acc, acc.length = i → R i acc (nw B H) → R (i + 1) (acc ++ [y]) (nw B H4)) :
    ∃ acc, H4 D = some (.lst acc) ∧ acc.length < sizeLine ∧ PvB H1 B D R (i + 1) (upd H4 D (.lst (acc ++ [y]))) := by
  obtain ⟨s1, acc, e, hl, q⟩ := p
  refine ⟨acc, s _ _ e, ?_, same_wr (s1.trans s) hD, acc ++ [y], upd_same, ?_, ?_⟩
  · rw [hl]
    exact Nat.lt_of_le_of_lt hi (by rw [sizeLine_eq]; decide)
  · rw [List.length_append, hl, List.length_singleton]
  · rw [nw_upd hB]
    exact r acc hl q
/-- what was new ahead of D is none of D -/
theorem nw_skip {H H1 : Hp} {D : Addr} {u : HO} (hD : H1 D = none) : Same (nw H H1) (nw (upd H D u) H1) := fun b o e => by
  have e1 := nw_sub H H1 b o e
  have hb : b ≠ D := ne_of_none e1 hD
  have h0 : H b = none := by
    cases q : H b with
    | none => rfl
    | some x =>
      rw [nw_no q] at e
      cases e
  rw [nw_eq (by rw [upd_ne hb]; exact h0)]
  exact e1
theorem at_trio {K : PySem.W.Frag} {H : Hp} {v : V} {r : Rec} {e : Nat} (h : Dp K H v (trioD r e)) : ∃ a d, v = .ref a ∧ SqT K H a [.int (r.1 : Int), d, .int (e : Int)] ∧ Dp K H d (.list (r.2.map deedD)) := by
  cases h with
  | tup h1 h2 =>
    cases h2 with
    | cons p q =>
      cases p
      cases q with
      | cons p q =>
        cases q with
        | cons p' q =>
          cases p'
          cases q
          exact ⟨_, _, rfl, h1, p⟩
theorem trio_of {rs : List Rec} {i : Nat} {d : PyData} (h : (trios rs)[i]? = some d) : ∃ r, rs[i]? = some r ∧ d = trioD r (endAt rs (i + 1)) := by
  unfold trios at h
  rw [List.getElem?_mapIdx] at h
  obtain ⟨r, h1, h2⟩ := Option.map_eq_some_iff.mp h
  exact ⟨r, h1, h2.symm⟩
def spJour (K : PySem.W.Frag) : Sp := fun vs H Q _ => ∃ (rs : List Rec) (rest : List Nat), vs = [.str (S (jour rs ++ rest))] ∧ (∀ r ∈ rs, r.ok) ∧ rs.length ≤ 20 ∧ Torn rest ∧
  ∀ H' v, Same H H' → Dp K (nw H H') v (.list (rs.map rowD)) → Q v H'
def spEnd : Sp := fun vs H Q _ => ∃ (rs : List Rec) (rest : List Nat), vs = [.str (S (jour rs ++ rest))] ∧ (∀ r ∈ rs, r.ok) ∧ rs.length ≤ 20 ∧ Torn rest ∧
  ∀ H', Same H H' → Q (.int ((jour rs).length : Nat)) H'
/-- max(a list of ints, default=0) -/
def rMaxD (K : PySem.W.Frag) : List V → List V → Hp → VK → Prop := fun xs zs H Q => ∃ (a : Addr) (ns : List Int), xs = [.ref a] ∧ zs = [.int 0] ∧ SqL K H a (ns.map V.int) ∧ (ns = [] → Q (.int 0) H) ∧
  ∀ y ys, ns = y :: ys → Q (.int (ys.foldl (fun a b => if a < b then b else a) y)) H
theorem dpInts {K : PySem.W.Frag} {H : Hp} : ∀ ns : List Int, DpAll K H (ns.map V.int) (ns.map PyData.int)
  | [] => .nil
  | n :: ns => .cons (.int n) (dpInts ns)
theorem ints_depth : ∀ ns : List Int, PyData.depthAll (ns.map PyData.int) = 0
  | [] => rfl
  | n :: ns => by
    simp only [List.map_cons, PyData.depthAll, PyData.depth, ints_depth ns]
    rfl
theorem maxD_ints : ∀ (ys : List Int) (y : Int), PySem.W.maxD (.int y) (ys.map PyData.int) = .int (ys.foldl (fun a b => if a < b then b else a) y)
  | [], _ => rfl
  | b :: ys, y => by
    show PySem.W.maxD (if PySem.W.dataLt (.int y) (.int b) then .int b else .int y) (ys.map PyData.int) = .int (ys.foldl _ (if y < b then b else y))
    rw [PySem.W.dataLt_int]
    by_cases h : y < b
    · rw [if_pos h, decide_eq_true h, if_pos rfl]
      exact maxD_ints ys b
    · rw [if_neg h, decide_eq_false h, if_neg Bool.false_ne_true]
      exact maxD_ints ys y
theorem cr_maxD {X : Cx} (hc : X.calm = true) (hu : X.A.units + 1 < cLine) : CallRK X (.builtin "max") [Str.ofString "default"] (rMaxD X.K) := by
  intro pins s σ H xs zs us ws Q I r rz h
  obtain ⟨a, ns, rfl, rfl, hs, q0, q⟩ := h
  obtain ⟨its, rv, hl, _⟩ := I.list hs
  rw [Vals.ref1 r]
  obtain ⟨u0, rfl, ru⟩ := vals1 rz
  obtain ⟨as, hr⟩ := Dp.readsAll I (ns.map PyData.int) _ its (dpInts ns) rv
  refine PySem.W.max_list_default (d := u0) (xs := ns.map PyData.int) (I.ok.hd hc) hl.isList (by simpa using hr) ⟨?_, ?_⟩ ?_ ?_ ?_
  · intro x hx y hy
    obtain ⟨i, _, rfl⟩ := List.mem_map.mp hx
    obtain ⟨j, _, rfl⟩ := List.mem_map.mp hy
    rfl
  · intro x hx
    obtain ⟨i, _, rfl⟩ := List.mem_map.mp hx
    exact fun z => nomatch z
  · rw [ints_depth]
    exact hu
  · intro e h' tk k
    exact ⟨.int 0, H, I.kept k, ru, q0 (List.map_eq_nil_iff.mp e)⟩
  · intro y ys i v h' tk bs e hv hrd k
    cases ns with
    | nil => cases e
    | cons n ns =>
      rw [List.map_cons] at e
      injection e with e1 e2
      subst e1 e2
      rw [maxD_ints] at hrd
      cases hrd with
      | int _ t => exact ⟨.int _, H, I.kept k, ⟨t, rfl⟩, q n ns rfl⟩
/-- what a def leans on: the readers beneath -/
structure Lower (K : PySem.W.Frag) (mg : Str → Option Value) (P : Program) (w : World) (base : Heap) (f : Addr) (fd : FuncData) : Prop where
  A : At K mg "whole_records" sWholeR ["text"] f fd
  G : FnOk P w K mg base CX0 5 f fd ["text"] (spWholeR K)
theorem ends_fold : ∀ (rs : List Rec) (k : Nat), k + 1 ≤ rs.length →
    ((List.range k).map fun j => ((endAt rs (j + 2) : Nat) : Int)).foldl (fun a b => if a < b then b else a) ((endAt rs 1 : Nat) : Int) = ((endAt rs (k + 1) : Nat) : Int)
  | rs, 0, _ => rfl
  | rs, k + 1, h => by
    have ih := ends_fold rs k (by omega)
    rw [List.range_succ, List.map_append, List.foldl_append, ih]
    have hr : rs[k + 1]? = some rs[k + 1] := List.getElem?_eq_getElem (by omega)
    have e := endAt_succ hr
    show (if ((endAt rs (k + 1) : Nat) : Int) < ((endAt rs (k + 2) : Nat) : Int) then ((endAt rs (k + 2) : Nat) : Int) else ((endAt rs (k + 1) : Nat) : Int)) = _
    by_cases q : ((endAt rs (k + 1) : Nat) : Int) < ((endAt rs (k + 2) : Nat) : Int)
    · rw [if_pos q]
    · rw [if_neg q]
      have : endAt rs (k + 1 + 1) = endAt rs (k + 2) := rfl
      omega
section
variable {P : Program} {w : World} {K : PySem.W.Frag} {mg : Str → Option Value} {base : Heap}
theorem ok_jour {f fR : Addr} {fd fdR : FuncData} (F : FnP K "read_journal" sJour f fd) (L : Lower K mg P w base fR fdR) : FnOk P w K mg base CX0 6 f fd ["text"] (spJour K) := by
  refine F.ok scJour (fun vs H Q E h => ?_) (fun cdv A outer s H vs Q E hr h => ?_)
  · obtain ⟨rs, rest, rfl, _⟩ := h
    rfl
  · obtain ⟨rs, rest, rfl, ok, hn, ht, q⟩ := h
    refine ⟨_, PSs.nox (pss_one (ps_ret (pe_lc (own := [("stamp", 1), ("deeds", 2), ("end", 3)]) (g := gTup K 3 (gCons (gName 1) (gCons (gName 2) (gCons (gName 3) gNil)))) (tt := tYes) rfl scJour.nd
        (pi_list (pe_call L.G hr (by rfl) L.A.g L.A.F.kp L.A.b .nil pass0 (pa_cons (pv 0) pa_nil)))
        (blkOk_by (N := ["text", "stamp", "deeds", "end"]) (sc := defScope sJour) (by decide +kernel))
        (fun _ _ _ _ _ => pg_tup rfl (pgs_cons (pg_name (i := 1) scJour.nd rfl (Or.inl rfl)) (pgs_cons (pg_name (i := 2) scJour.nd rfl (Or.inl rfl)) (pgs_cons (pg_name (i := 3) scJour.nd rfl (Or.inl rfl)) pgs_nil))))
        (fun _ _ _ _ _ => pts_nil) (fun _ _ _ _ _ => pe_tup (pa_cons (pv 1) (pa_cons (pv 2) pa_nil)))))), ?_⟩
    refine ⟨_, rfl, rs, rest, rfl, ok, hn, ht, fun H1 v s1 hv => ?_⟩
    obtain ⟨la, lxs, rfl, hS, hX⟩ := at_list hv
    have hl : lxs.length = rs.length := by rw [DpAll.len hX, trios_len]
    have hS1 : SqL K H1 la lxs := (nw_sub H H1 : Same _ _).seq hS
    refine ⟨la, rfl, ⟨_, hS1⟩, fun D hD => ?_⟩
    have hB : upd H D (.lst []) D = some (.lst []) := upd_same
    refine lc_it (walk_list (xs := lxs)) (PvB H1 (upd H D (.lst [])) D (fun i acc G => DpAll K G acc ((rs.take i).map rowD))) (PvB.start hD fun _ => .nil) (fun _ _ _ pp => pp.1.seq hS1) ?_ ?_
    · rintro i x H2 _ hi pp ⟨rfl, hx⟩
      obtain ⟨d, e1, e2⟩ := DpAll.getL hX hx
      obtain ⟨r, hri, rfl⟩ := trio_of e1
      obtain ⟨ta, dv, rfl, hT, hdv⟩ := at_trio e2
      have hT2 := same_tup pp.1 (same_tup (nw_sub H H1) hT)
      refine ⟨ta, _, rfl, hT2, rfl, _, _, rfl, _, _, rfl, _, _, rfl, rfl, rfl, ?_⟩
      refine ⟨_, rfl, _, rfl, by show 2 ≤ sizeLine; decide, fun tp htp => ?_⟩
      refine PvB.next (H4 := upd _ tp (.tup [.int (r.1 : Int), dv])) hD hB pp (same_new htp) (by omega) fun acc _ e => ?_
      rw [take_snoc hri, List.map_append]
      obtain ⟨_, acc', ha', _⟩ := id pp
      have htD : tp ≠ D := fun q => by
        rw [q, ha'] at htp
        cases htp
      have hBt : upd H D (.lst []) tp = none := by
        rw [upd_ne htD]
        exact s1.free (pp.1.free htp)
      refine DpAll.snoc (.tup (.inl (.inl (nw_new hBt))) (.cons (.int _) (.cons ?_ .nil))) (DpAll.mono (nw_mono (same_new htp)) _ _ e)
      exact Dp.mono (nw_mono (pp.1.trans (same_new htp))) _ _ (Dp.mono (nw_skip hD) _ _ hdv)
    · rintro H2 ⟨s2, acc, e, hl2, r⟩
      rw [hl, List.take_length] at r
      have hHD : H D = none := s1.free hD
      refine q H2 (.ref D) (s1.trans s2) (.lst (.inl (.inl ?_)) (DpAll.mono (nw_dom (same_dom (same_new hHD))) _ _ r))
      rw [nw_eq hHD]
      exact e
theorem ok_end {f fR : Addr} {fd fdR : FuncData} (F : FnP K "whole_end" sEnd f fd) (T : Txt mg) (L : Lower K mg P w base fR fdR) : FnOk P w K mg base CX0 6 f fd ["text"] spEnd := by
  refine F.ok scEnd (fun vs H Q E h => ?_) (fun cdv A outer s H vs Q E hr h => ?_)
  · obtain ⟨rs, rest, rfl, _⟩ := h
    rfl
  · obtain ⟨rs, rest, rfl, ok, hn, ht, q⟩ := h
    refine ⟨_, PSs.nox (pss_one (ps_ret (pe_callBK (cr_maxD rfl (hu_of hr)) (by rfl) T.max (by decide +kernel) (pa_cons
      (pe_lc (own := [("stamp", 1), ("deeds", 2), ("end", 3)]) (g := gTup K 3 (gCons (gName 1) (gCons (gName 2) (gCons (gName 3) gNil)))) (tt := tYes) rfl scEnd.nd
        (pi_list (pe_call L.G hr (by rfl) L.A.g L.A.F.kp L.A.b .nil pass0 (pa_cons (pv 0) pa_nil)))
        (blkOk_by (N := ["text", "stamp", "deeds", "end"]) (sc := defScope sEnd) (by decide +kernel))
        (fun _ _ _ _ _ => pg_tup rfl (pgs_cons (pg_name (i := 1) scEnd.nd rfl (Or.inl rfl)) (pgs_cons (pg_name (i := 2) scEnd.nd rfl (Or.inl rfl)) (pgs_cons (pg_name (i := 3) scEnd.nd rfl (Or.inl rfl)) pgs_nil))))
        (fun _ _ _ _ _ => pts_nil) (fun _ _ _ _ _ => pv 3)) pa_nil) (pk_cons pe_int pk_nil)))), ?_⟩
    refine ⟨_, rfl, rs, rest, rfl, ok, hn, ht, fun H1 v s1 hv => ?_⟩
    obtain ⟨la, lxs, rfl, hS, hX⟩ := at_list hv
    have hl : lxs.length = rs.length := by rw [DpAll.len hX, trios_len]
    have hS1 : SqL K H1 la lxs := (nw_sub H H1 : Same _ _).seq hS
    refine ⟨la, rfl, ⟨_, hS1⟩, fun D hD => ?_⟩
    refine lc_it (walk_list (xs := lxs)) (PvN H1 D (fun i acc _ => acc = ((List.range i).map fun j => ((endAt rs (j + 1) : Nat) : Int)).map V.int)) (PvN.start hD fun _ => rfl) (fun _ _ _ pp => pp.1.seq hS1) ?_ ?_
    · rintro i x H2 _ hi pp ⟨rfl, hx⟩
      obtain ⟨d, e1, e2⟩ := DpAll.getL hX hx
      obtain ⟨r, hri, rfl⟩ := trio_of e1
      obtain ⟨ta, dv, rfl, hT, hdv⟩ := at_trio e2
      have hT2 := same_tup pp.1 (same_tup (nw_sub H H1) hT)
      refine ⟨ta, _, rfl, hT2, rfl, _, _, rfl, _, _, rfl, _, _, rfl, rfl, rfl, ?_⟩
      refine ⟨_, rfl, ?_⟩
      refine PvN.next hD pp (Same.refl _) (by omega) fun acc _ e => ?_
      rw [e, List.range_succ, List.map_append, List.map_append]
      rfl
    · rintro H2 ⟨s2, acc, e, hl2, r⟩
      rw [hl] at r
      refine ⟨D, (List.range rs.length).map fun j => ((endAt rs (j + 1) : Nat) : Int), rfl, rfl, .inl (.inl (by rw [e, r])), ?_, ?_⟩
      · intro e0
        have e1 : rs = [] := by
          have := congrArg List.length e0
          rw [List.length_map, List.length_range] at this
          exact List.eq_nil_of_length_eq_zero this
        have := q H2 (s1.trans s2)
        rw [e1] at this
        exact this
      · intro y ys e0
        obtain ⟨k, hk⟩ : ∃ k, rs.length = k + 1 := by
          cases q : rs.length with
          | zero =>
            rw [q] at e0
            cases e0
          | succ k => exact ⟨k, rfl⟩
        rw [hk, List.range_succ_eq_map, List.map_cons, List.map_map] at e0
        injection e0 with e1 e2
        have := ends_fold rs k (by omega)
        have e3 : ((List.range k).map fun j => ((endAt rs (j + 2) : Nat) : Int)) = ys := e2
        rw [e3, show ((endAt rs 1 : Nat) : Int) = y from e1] at this
        rw [this, ← hk, endAt_all]
        exact q H2 (s1.trans s2)
end
end K42

/-! The law's own draws. -/
namespace K42
open PySem PySem.Spec PyProof.Rows L2 TL
abbrev sCell : Stmt := top 28
abbrev sStream : Stmt := top 29
abbrev sSign : Stmt := top 30
abbrev sTxt : Stmt := top 31
abbrev sDraw : Stmt := top 33
theorem scCell : FnScope ["_law_script", "_law_k"] ["_law_script", "_law_k"] (defScope sCell) := ⟨rfl, rfl, rfl, by decide +kernel, rfl, by decide +kernel, by decide +kernel⟩
theorem scStream : FnScope ["_law_cell", "_law_many", "_law_found", "_law_number", "_law_k"] ["_law_cell", "_law_many"] (defScope sStream) := ⟨rfl, rfl, rfl, by decide +kernel, rfl, by decide +kernel, by decide +kernel⟩
theorem scSign : FnScope ["_law_number", "_law_some"] ["_law_number"] (defScope sSign) := ⟨rfl, rfl, rfl, by decide +kernel, rfl, by decide +kernel, by decide +kernel⟩
theorem scTxt : FnScope ["_law_number", "_law_least", "_law_most", "_law_size", "_law_one"] ["_law_number", "_law_least", "_law_most"] (defScope sTxt) := ⟨rfl, rfl, rfl, by decide +kernel, rfl, by decide +kernel, by decide +kernel⟩
theorem scDraw : FnScope ["_law_number", "_law_key"] ["_law_number"] (defScope sDraw) := ⟨rfl, rfl, rfl, by decide +kernel, rfl, by decide +kernel, by decide +kernel⟩
def spCell (K : PySem.W.Frag) : Sp := fun vs H Q _ => ∃ (a : Addr) (ns : List Int) (k : Nat), vs = [.ref a, .int (k : Int)] ∧ SqL K H a (ns.map V.int) ∧ ∀ n : Int, Q (.int n) H
def spStream : Sp := fun vs H Q _ => ∃ (c : Int) (n : Nat), vs = [.int c, .int (n : Int)] ∧ n ≤ 1000 ∧
  ∀ H' p (ns : List Int), Same H H' → H p = none → H' p = some (.lst (ns.map V.int)) → ns.length = n → (∀ x ∈ ns, 0 ≤ x ∧ x ≤ 306783378) → Q (.ref p) H'
def spSign : Sp := fun vs H Q _ => ∃ n : Int, vs = [.int n] ∧ ∀ c : Nat, 32 ≤ c → c ≤ 126 → Q (.str (S [c])) H
def spTxt : Sp := fun vs H Q _ => ∃ (n : Int) (a b : Nat), vs = [.int n, .int (a : Int), .int (b : Int)] ∧ a ≤ b ∧ b ≤ 1000 ∧ ∀ H' l, Same H H' → a ≤ l.length → l.length ≤ b → okS l → Q (.str (S l)) H'
def spDraw (K : PySem.W.Frag) : Sp := fun vs H Q _ => ∃ n : Int, vs = [.int n] ∧ ∀ H' v (d : Deed), Same H H' → d.ok → Dp K (nw H H') v (deedD d) → Q v H'
section
variable {P : Program} {w : World} {K : PySem.W.Frag} {mg : Str → Option Value} {base : Heap}
theorem ok_cell {f : Addr} {fd : FuncData} (F : FnP K "_law_cell_at" sCell f fd) (T : Txt mg) : FnOk P w K mg base CX0 1 f fd ["_law_script", "_law_k"] (spCell K) := by
  refine F.ok scCell (fun vs H Q E h => ?_) (fun cdv A outer s H vs Q E hr h => ?_)
  · obtain ⟨a, ns, k, rfl, _⟩ := h
    rfl
  · obtain ⟨a, ns, k, rfl, hS, q⟩ := h
    refine ⟨_, PSs.nox (pss_cons (ps_if (pt_cmpR op_lt (pv 1) (pe_callB call_len_seq (by rfl) T.len PySem.boot_len (pa_cons (pv 0) pa_nil)) (nomark _)) (pss_one (ps_ret (pe_ix ix_list (pv 0) (pv 1) (fun _ _ => rfl)))) pss_nil)
      (pss_one (ps_ret pe_int))), ?_⟩
    refine ⟨_, rfl, _, rfl, a, _, rfl, .inl hS, _, _, rfl, rfl, ?_⟩
    by_cases hk : k < ns.length
    · refine ⟨true, congrArg V.bl (decide_eq_true (by rw [List.length_map]; omega)), ?_⟩
      refine iteT ⟨_, rfl, _, rfl, a, _, _, .int ns[k], rfl, rfl, hS, atI_nat (j := k) ?_, q _⟩
      rw [List.getElem?_map, List.getElem?_eq_getElem hk]
      rfl
    · refine ⟨false, congrArg V.bl (decide_eq_false (by rw [List.length_map]; omega)), ?_⟩
      exact iteF (q 0)
theorem ok_stream {f : Addr} {fd : FuncData} (F : FnP K "_law_stream" sStream f fd) (T : Txt mg) : FnOk P w K mg base CX0 1 f fd ["_law_cell", "_law_many"] spStream := by
  refine F.ok scStream (fun vs H Q E h => ?_) (fun cdv A outer s H vs Q E hr h => ?_)
  · obtain ⟨c, n, rfl, _⟩ := h
    rfl
  · obtain ⟨c, n, rfl, hn, q⟩ := h
    refine ⟨_, PSs.nox (pss_cons (ps_set (i := 2) scStream.nd rfl (.inl rfl) (pe_lst pa_nil))
      (pss_cons (ps_set (i := 3) scStream.nd rfl (.inl rfl) (pe_op op_mod (pe_op op_add (pe_op op_mul (pv 0) pe_int) pe_int) pe_int))
      (pss_cons (ps_for PassesOwn.never rfl (pi_range1 rfl T.range (pa_cons (pv 1) pa_nil)) (pg_name (i := 4) scStream.nd rfl (Or.inl rfl))
        (pss_cons (ps_set (i := 3) scStream.nd rfl (.inl rfl) (pe_op op_mod (pe_op op_add (pe_op op_add (pe_op op_mul (pv 3) pe_int) pe_int) (pv 4)) pe_int))
        (pss_one (ps_expr (pe_bm PySem.F.plainAttrs_list PySem.F.slot_list_append PySem.F.type_list_append mt_append (pv 2) (pa_cons (pe_op op_fdiv (pv 3) pe_int) pa_nil))))))
      (pss_one (ps_ret (pv 2)))))), ?_⟩
    refine ⟨Nat.zero_le _, fun p hp => ?_⟩
    have hc : CMul c 48271 := .inr ⟨by decide, by decide⟩
    refine ⟨_, rfl, _, _, rfl, rfl, hc, _, _, rfl, rfl, _, _, rfl, rfl, by show (0 : Int) < 2147483647; decide, ?_⟩
    refine ⟨_, rfl, (n : Int), rfl, by omega, by omega, ?_⟩
    refine for_range (lo := 0) (n := n) (fun i σ H' => ∃ (num : Int) (v4 : Option V) (ns : List Int), σ = [some (.int c), some (.int (n : Int)), some (.ref p), some (.int num), v4] ∧ Same H H' ∧ H' p = some (.lst (ns.map V.int)) ∧ ns.length = i ∧ ∀ x ∈ ns, 0 ≤ x ∧ x ≤ 306783378)
      ⟨_, none, [], rfl, same_new hp, upd_same, rfl, fun x hx => by cases hx⟩ ?_ ?_
    · rintro i σ H1 hi ⟨num, v4, ns, rfl, s1, e1, hl, hb⟩
      have hc2 : CMul num 48271 := .inr ⟨by decide, by decide⟩
      refine ⟨_, rfl, _, _, rfl, rfl, hc2, _, _, rfl, rfl, _, rfl, _, _, rfl, rfl, _, _, rfl, rfl, by show (0 : Int) < 2147483647; decide, ?_⟩
      refine ⟨_, rfl, .inl ⟨rfl, _, .inl (.inl e1)⟩, _, rfl, _, _, rfl, rfl, ⟨by decide, by decide⟩, p, _, _, rfl, rfl, e1, ?_, ?_⟩
      · rw [List.length_map]
        exact small1000 (by omega)
      · refine ⟨_, _, ns ++ [((num * 48271 + 11 + (0 + (i : Int))) % 2147483647) / 7], rfl, same_wr s1 hp, ?_, ?_, ?_⟩
        · rw [upd_same, List.map_append]
          rfl
        · rw [List.length_append, hl, List.length_singleton]
        · intro x hx
          rcases List.mem_append.mp hx with hx | hx
          · exact hb x hx
          · rw [List.mem_singleton.mp hx]
            omega
    · rintro σ H1 ⟨num, v4, ns, rfl, s1, e1, hl, hb⟩
      exact ⟨_, rfl, q H1 p ns s1 hp e1 hl hb⟩
theorem signs_ok : ((tl (Str.ofString " !\"#$&'()*+,-./0123456789:;<=>?@ABCDEFGHIJKLMNOPQRSTUVWXYZ[\\]^_`") ++ tl (Str.ofString "abcdefghijklmnopqrstuvwxyz{|}~")).length = 94) ∧
    ((tl (Str.ofString " !\"#$&'()*+,-./0123456789:;<=>?@ABCDEFGHIJKLMNOPQRSTUVWXYZ[\\]^_`") ++ tl (Str.ofString "abcdefghijklmnopqrstuvwxyz{|}~")).all fun c => decide (32 ≤ c) && decide (c ≤ 126)) = true := by decide +kernel
theorem ok_sign {f : Addr} {fd : FuncData} (F : FnP K "_law_sign" sSign f fd) : FnOk P w K mg base CX0 1 f fd ["_law_number"] spSign := by
  refine F.ok scSign (fun vs H Q E h => ?_) (fun cdv A outer s H vs Q E hr h => ?_)
  · obtain ⟨n, rfl, _⟩ := h
    rfl
  · obtain ⟨n, rfl, q⟩ := h
    refine ⟨_, PSs.nox (pss_cons (ps_set (i := 1) scSign.nd rfl (.inl rfl) pe_str)
      (pss_cons (ps_set (i := 1) scSign.nd rfl (.inl rfl) (pe_op op_addS (pv 1) pe_str))
      (pss_one (ps_ret (pe_ix ix_S (pv 1) (pe_op op_mod (pv 0) pe_int) (fun _ _ => rfl)))))), ?_⟩
    obtain ⟨h1, h2⟩ := signs_ok
    have h3 : n % 94 < 94 := Int.emod_lt_of_pos n (by decide)
    have h4 : 0 ≤ n % 94 := Int.emod_nonneg n (by decide)
    refine ⟨_, rfl, tl (Str.ofString " !\"#$&'()*+,-./0123456789:;<=>?@ABCDEFGHIJKLMNOPQRSTUVWXYZ[\\]^_`"), tl (Str.ofString "abcdefghijklmnopqrstuvwxyz{|}~"), congrArg V.str (mk_tl _).symm, congrArg V.str (mk_tl _).symm, ?_, ?_⟩
    · rw [List.length_append] at h1
      omega
    generalize tl (Str.ofString " !\"#$&'()*+,-./0123456789:;<=>?@ABCDEFGHIJKLMNOPQRSTUVWXYZ[\\]^_`") ++ tl (Str.ofString "abcdefghijklmnopqrstuvwxyz{|}~") = L at h1 h2 ⊢
    have hj : (n % 94).toNat < L.length := by omega
    have hc := List.all_eq_true.mp h2 L[(n % 94).toNat] (List.getElem_mem hj)
    simp only [Bool.and_eq_true, decide_eq_true_eq] at hc
    refine ⟨_, rfl, _, rfl, _, _, rfl, rfl, by show (0 : Int) < 94; decide, L, (n % 94).toNat, L[(n % 94).toNat], rfl, congrArg V.int (by omega), by omega, List.getElem?_eq_getElem hj, ?_⟩
    exact q _ hc.1 hc.2
theorem flat_one : ∀ l : List Nat, (l.map fun c => [c]).flatten = l
  | [] => rfl
  | c :: l => by
    rw [List.map_cons, List.flatten_cons, flat_one l]
    rfl
/-- ''.join([_law_sign(one) for one in ..]) behind the draw of its numbers -/
theorem text_tail {K : PySem.W.Frag} {σ : L2.St} {H H1 : Hp} {Q : VK} {p : Addr} {ns : List Int} {a b z : Nat} (q : ∀ H' l, Same H H' → a ≤ l.length → l.length ≤ b → okS l → Q (.str (S l)) H') (s1 : Same H H1) (hza : a ≤ z) (hzb : z ≤ b) (hb : b ≤ 1000)
    (e1 : H1 p = some (.lst (ns.map V.int))) (hl : ns.length = z) (hσ : σ.length = 5) :
    ∃ q1, V.ref p = .ref q1 ∧ (∃ xs, SqL K H1 q1 xs) ∧ ∀ D, H1 D = none → ∃ W : Nat → Nat → Hp → Prop, (∃ m, W 0 m (upd H1 D (.lst []))) ∧ ∀ i m H, W i m H →
      ((Itl K q1).stop i H ∧ rJoin K (.str (Str.ofString "")) [.ref D] H Q) ∨ ((Itl K q1).go i H ∧ ∃ Nx : Hp → Prop, (∀ H', Nx H' → ∃ m', m' < m ∧ W (i + 1) m' H') ∧ ∀ x H', (Itl K q1).yld i H x H' → gName 4 x (wipe σ [4]) H' fun σ2 H2 => wipe σ2 [4] = wipe σ [4] ∧ tYes σ2 H2 fun b H3 =>
        if b = true then (tCall spSign [] E0 (tCons (tVar 4) tNil)) σ2 H3 fun y H4 => ∃ acc, H4 D = some (.lst acc) ∧ acc.length < sizeLine ∧ Nx (upd H4 D (.lst (acc ++ [y]))) else Nx H3) := by
  obtain ⟨σ0, σ1, σ2, σ3, σ4, rfl⟩ : ∃ s0 s1 s2 s3 s4 : Option V, σ = [s0, s1, s2, s3, s4] :=
    match σ, hσ with
    | [s0, s1, s2, s3, s4], _ => ⟨s0, s1, s2, s3, s4, rfl⟩
  refine ⟨p, rfl, ⟨_, .inl (.inl e1)⟩, fun D hD => ?_⟩
  refine lc_it (walk_list (xs := ns.map V.int)) (PvN H1 D (fun i acc _ => ∃ cs : List Nat, acc = ((cs.map fun c => [c]).map S).map V.str ∧ cs.length = i ∧ okS cs)) (PvN.start hD fun _ => ⟨[], rfl, rfl, fun c hc => by cases hc⟩)
    (fun _ _ _ pp => .inl (.inl (pp.1 _ _ e1))) ?_ ?_
  · rintro i x H2 _ hi pp ⟨rfl, hx⟩
    rw [List.length_map] at hi
    rw [List.getElem?_map, List.getElem?_eq_getElem hi] at hx
    obtain rfl := Option.some.inj hx
    refine ⟨rfl, _, rfl, _, rfl, fun c h1 h2 => ?_⟩
    refine PvN.next hD pp (Same.refl _) (by omega) fun acc _ ⟨cs, g1, g2, g3⟩ => ⟨cs ++ [c], ?_, ?_, ?_⟩
    · rw [g1, List.map_append, List.map_append, List.map_append]
      rfl
    · rw [List.length_append, g2, List.length_singleton]
    · intro y hy
      rcases List.mem_append.mp hy with hy | hy
      · exact g3 y hy
      · rw [List.mem_singleton.mp hy]
        exact ⟨h1, h2⟩
  · rintro H2 ⟨s2, acc, e, hl2, cs, g1, g2, g3⟩
    rw [List.length_map, hl] at g2
    refine ⟨[], D, cs.map fun c => [c], congrArg V.str s_e, rfl, .inl (.inl (.inl (by rw [e, g1]))), ?_, ?_⟩
    · have hsum : ∀ l : List Nat, ((l.map fun c => [c]).map List.length).sum = l.length := by
        intro l
        induction l with
        | nil => rfl
        | cons c l ih =>
          simp only [List.map_cons, List.sum_cons, List.length_cons, List.length_nil, ih]
          omega
      rw [hsum]
      simp only [List.length_nil, Nat.mul_zero]
      omega
    · rw [joinL_nil, flat_one]
      exact q H2 cs (s1.trans s2) (by omega) (by omega) g3
theorem ok_txt {f fS fC : Addr} {fd fdS fdC : FuncData} (F : FnP K "_law_text" sTxt f fd) (T : Txt mg) (B1 : At K mg "_law_stream" sStream ["_law_cell", "_law_many"] fS fdS) (B2 : At K mg "_law_sign" sSign ["_law_number"] fC fdC) :
    FnOk P w K mg base CX0 2 f fd ["_law_number", "_law_least", "_law_most"] spTxt := by
  have GS := ok_stream (P := P) (w := w) (base := base) B1.F T
  have GC := ok_sign (P := P) (w := w) (mg := mg) (base := base) B2.F
  refine F.ok scTxt (fun vs H Q E h => ?_) (fun cdv A outer s H vs Q E hr h => ?_)
  · obtain ⟨n, a, b, rfl, _⟩ := h
    rfl
  · obtain ⟨n, a, b, rfl, hab, hb, q⟩ := h
    refine ⟨_, PSs.nox (pss_cons (ps_set (i := 3) scTxt.nd rfl (.inl rfl) (pe_op op_addE (pv 1) (pe_op op_mod (pv 0) (pe_op op_sub (pe_op op_add (pv 2) pe_int) (pv 1)))))
      (pss_cons (ps_if (pt_cmpR op_gt (pe_op op_mod (pe_op op_fdiv (pv 0) pe_int) pe_int) pe_int (nomark _))
        (pss_one (ps_set (i := 3) scTxt.nd rfl (.inl rfl) (pe_op op_addE (pv 1) (pe_op op_mod (pv 0) (pe_callB (call_min2 rfl) (by rfl) T.min (by decide +kernel) (pa_cons pe_int (pa_cons (pe_op op_sub (pe_op op_add (pv 2) pe_int) (pv 1)) pa_nil)))))))
        pss_nil)
      (pss_one (ps_ret (pe_m1 PySem.F.slot_str_join PySem.F.type_str_join mt_joinS pe_str
        (pe_lc (own := [("_law_one", 4)]) (g := gName 4) (tt := tYes) rfl scTxt.nd (pi_list (pe_call GS hr (by rfl) B1.g B1.F.kp B1.b .nil pass0 (pa_cons (pe_op op_fdiv (pv 0) pe_int) (pa_cons (pv 3) pa_nil))))
          (blkOk_by (N := ["_law_number", "_law_least", "_law_most", "_law_size", "_law_one"]) (sc := defScope sTxt) (by decide +kernel)) (fun _ _ _ _ _ => pg_name (i := 4) scTxt.nd rfl (Or.inl rfl)) (fun _ _ _ _ _ => pts_nil)
          (fun _ _ _ _ _ => pe_call GC hr (by rfl) B2.g B2.F.kp B2.b .nil pass0 (pa_cons (pv 4) pa_nil)))))))), ?_⟩
    have hd : (0 : Int) < (b : Int) + 1 - (a : Int) := by omega
    obtain ⟨z1, e1, h1a, h1b⟩ : ∃ z : Nat, (a : Int) + n % ((b : Int) + 1 - (a : Int)) = (z : Int) ∧ a ≤ z ∧ z ≤ b := by
      have u1 := Int.emod_nonneg n (show (b : Int) + 1 - (a : Int) ≠ 0 by omega)
      have u2 := Int.emod_lt_of_pos n hd
      exact ⟨((a : Int) + n % ((b : Int) + 1 - (a : Int))).toNat, by omega, by omega, by omega⟩
    refine ⟨_, rfl, _, rfl, _, rfl, _, _, rfl, rfl, _, rfl, _, _, rfl, rfl, _, _, rfl, rfl, hd, _, _, (z1 : Int), rfl, rfl, e1, ?_⟩
    refine ⟨_, rfl, _, _, rfl, rfl, ⟨by decide, by decide⟩, _, _, rfl, rfl, by show (0 : Int) < 3; decide, _, _, rfl, rfl, _, rfl, ?_⟩
    refine ite2 (fun _ => ?_) (fun _ => ?_)
    · have hm : (0 : Int) < (if (b : Int) + 1 - (a : Int) < 4 then (b : Int) + 1 - (a : Int) else 4) := by
        split <;> omega
      obtain ⟨z2, e2, h2a, h2b⟩ : ∃ z : Nat, (a : Int) + n % (if (b : Int) + 1 - (a : Int) < 4 then (b : Int) + 1 - (a : Int) else 4) = (z : Int) ∧ a ≤ z ∧ z ≤ b := by
        generalize hm2 : (if (b : Int) + 1 - (a : Int) < 4 then (b : Int) + 1 - (a : Int) else 4) = m at hm ⊢
        have hle : m ≤ (b : Int) + 1 - (a : Int) := by
          rw [← hm2]
          split <;> omega
        have u1 := Int.emod_nonneg n (show m ≠ 0 by omega)
        have u2 := Int.emod_lt_of_pos n hm
        exact ⟨((a : Int) + n % m).toNat, by omega, by omega, by omega⟩
      refine ⟨_, rfl, _, rfl, _, rfl, _, _, rfl, rfl, _, rfl, _, _, rfl, rfl, _, _, rfl, _, _, rfl, rfl, hm, _, _, (z2 : Int), rfl, rfl, e2, ?_⟩
      revert h2a h2b
      generalize z2 = z
      intro hza hzb
      refine ⟨⟨_, rfl⟩, _, rfl, _, _, rfl, rfl, ⟨by decide, by decide⟩, _, rfl, _, z, rfl, by omega, fun H1 p ns s1 hp e1 hl hbn => ?_⟩
      exact text_tail q s1 hza hzb hb e1 hl rfl
    · revert h1a h1b
      generalize z1 = z
      intro hza hzb
      refine ⟨⟨_, rfl⟩, _, rfl, _, _, rfl, rfl, ⟨by decide, by decide⟩, _, rfl, _, z, rfl, by omega, fun H1 p ns s1 hp e1 hl hbn => ?_⟩
      exact text_tail q s1 hza hzb hb e1 hl rfl
theorem ok_draw {f fX fS fC : Addr} {fd fdX fdS fdC : FuncData} (F : FnP K "_law_deed" sDraw f fd) (T : Txt mg) (B1 : At K mg "_law_stream" sStream ["_law_cell", "_law_many"] fS fdS) (B2 : At K mg "_law_sign" sSign ["_law_number"] fC fdC)
    (B3 : At K mg "_law_text" sTxt ["_law_number", "_law_least", "_law_most"] fX fdX) : FnOk P w K mg base CX0 3 f fd ["_law_number"] (spDraw K) := by
  have GX := ok_txt (P := P) (w := w) (base := base) B3.F T B1 B2
  refine F.ok scDraw (fun vs H Q E h => ?_) (fun cdv A outer s H vs Q E hr h => ?_)
  · obtain ⟨n, rfl, _⟩ := h
    rfl
  · obtain ⟨n, rfl, q⟩ := h
    refine ⟨_, PSs.nox (pss_cons (ps_set (i := 1) scDraw.nd rfl (.inl rfl) (pe_call GX hr (by rfl) B3.g B3.F.kp B3.b .nil pass0 (pa_cons (pe_op op_fdiv (pv 0) pe_int) (pa_cons pe_int (pa_cons pe_int pa_nil)))))
      (pss_cons (ps_if (pt_cmpR op_eq (pe_op op_mod (pv 0) pe_int) pe_int (nomark _)) (pss_one (ps_ret (pe_tup (pa_cons pe_str (pa_cons (pv 1) pa_nil))))) pss_nil)
      (pss_one (ps_ret (pe_tup (pa_cons pe_str (pa_cons (pv 1) (pa_cons (pe_call GX hr (by rfl) B3.g B3.F.kp B3.b .nil pass0 (pa_cons (pe_op op_fdiv (pv 0) pe_int) (pa_cons pe_int (pa_cons pe_int pa_nil)))) pa_nil)))))))), ?_⟩
    refine ⟨_, rfl, _, _, rfl, rfl, ⟨by decide, by decide⟩, _, 1, 20, rfl, by decide, by decide, fun H1 k s1 k1 k2 k3 => ?_⟩
    refine ⟨_, rfl, _, _, rfl, rfl, by show (0 : Int) < 3; decide, rfl, _, rfl, ?_⟩
    refine ite2 (fun _ => ?_) (fun _ => ?_)
    · refine ⟨_, rfl, by show 2 ≤ sizeLine; decide, fun p hp => ?_⟩
      refine q _ (.ref p) (.drop k) (s1.trans (same_new hp)) ⟨k1, k2, k3⟩ (.tup (.inl (.inl ?_)) (.cons (.str _) (.cons (.str _) .nil)))
      exact nw_new (s1.free hp)
    · refine ⟨_, rfl, _, rfl, _, _, rfl, rfl, ⟨by decide, by decide⟩, _, 0, 40, rfl, by decide, by decide, fun H2 u s2 u1 u2 u3 => ?_⟩
      refine ⟨by show 3 ≤ sizeLine; decide, fun p hp => ?_⟩
      refine q _ (.ref p) (.put k u) ((s1.trans s2).trans (same_new hp)) ⟨⟨k1, k2, k3⟩, u2, u3⟩ (.tup (.inl (.inl ?_)) (.cons (.str _) (.cons (.str _) (.cons (.str _) .nil))))
      exact nw_new ((s1.trans s2).free hp)
end
end K42

/-! The law's own body. -/
namespace K42
open PySem PySem.Spec PyProof.Rows L2 TL
abbrev sLaw : Stmt := top 34
abbrev nLaw : List Str := ["_law_script", "_law_rows", "_law_line", "_law_ends", "_law_at", "_law_cell", "_law_numbers", "_law_size", "_law_deeds", "_law_cut", "_law_whole", "_law_left", "_law_found", "_law_further", "_law_mended", "_law_number", "_law_end"]
theorem scLaw : FnScope nLaw ["_law_script"] (defScope sLaw) := ⟨rfl, rfl, rfl, by decide +kernel, rfl, by decide +kernel, by decide +kernel⟩
def spLaw (K : PySem.W.Frag) : Sp := fun vs H Q _ => ∃ (a : Addr) (ns : List Int), vs = [.ref a] ∧ SqL K H a (ns.map V.int) ∧ ∀ H', Q (.bl true) H'
/-- a - b, a % b, a // b, two ints, the answer told -/
def rSubE : R2 := fun x y H Q => ∃ i j k : Int, x = .int i ∧ y = .int j ∧ i - j = k ∧ Q (.int k) H
def rModE : R2 := fun x y H Q => ∃ i j k : Int, x = .int i ∧ y = .int j ∧ 0 < j ∧ i % j = k ∧ Q (.int k) H
section
variable {X : Cx}
theorem op_subE : OpR X (binaryOp .Sub) rSubE := fun pins s σ H x y v u Q I rx ry ⟨i, j, k, ex, ey, e, q⟩ =>
  op_sub pins s σ H x y v u Q I rx ry ⟨i, j, ex, ey, by show Q (.int (i - j)) H; rw [e]; exact q⟩
theorem op_modE : OpR X (binaryOp .Mod) rModE := fun pins s σ H x y v u Q I rx ry ⟨i, j, k, ex, ey, hj, e, q⟩ =>
  op_mod pins s σ H x y v u Q I rx ry ⟨i, j, ex, ey, hj, by show Q (.int (i % j)) H; rw [e]; exact q⟩
end
/-- the readers and the draws, where they stand and what they keep -/
structure Calls (K : PySem.W.Frag) (mg : Str → Option Value) (P : Program) (w : World) (base : Heap) (fS fD fC fR fJ fE : Addr) (fdS fdD fdC fdR fdJ fdE : FuncData) : Prop where
  aS : At K mg "_law_stream" sStream ["_law_cell", "_law_many"] fS fdS
  gS : FnOk P w K mg base CX0 1 fS fdS ["_law_cell", "_law_many"] spStream
  aD : At K mg "_law_deed" sDraw ["_law_number"] fD fdD
  gD : FnOk P w K mg base CX0 3 fD fdD ["_law_number"] (spDraw K)
  aC : At K mg "_law_cell_at" sCell ["_law_script", "_law_k"] fC fdC
  gC : FnOk P w K mg base CX0 1 fC fdC ["_law_script", "_law_k"] (spCell K)
  aR : At K mg "record" sRec ["stamp", "deeds"] fR fdR
  gR : FnOk P w K mg base CX0 4 fR fdR ["stamp", "deeds"] (spRec K)
  aJ : At K mg "read_journal" sJour ["text"] fJ fdJ
  gJ : FnOk P w K mg base CX0 6 fJ fdJ ["text"] (spJour K)
  aE : At K mg "whole_end" sEnd ["text"] fE fdE
  gE : FnOk P w K mg base CX0 6 fE fdE ["text"] spEnd
/-- the ends, as the list holds them -/
def endsV (rs : List Rec) : List V := (endsOf rs).map fun (e : Nat) => V.int ((e : Nat) : Int)
theorem endsV_app (rs : List Rec) (r : Rec) : endsV (rs ++ [r]) = endsV rs ++ [.int ((jour (rs ++ [r])).length : Nat)] := by
  unfold endsV
  rw [endsOf_app, List.map_append]
  rfl
theorem endsV_len (rs : List Rec) : (endsV rs).length = rs.length + 1 := by
  unfold endsV
  rw [List.length_map, endsOf_len]
theorem endsV_get (rs : List Rec) {i : Nat} (h : i ≤ rs.length) : (endsV rs)[i]? = some (.int ((endAt rs i : Nat) : Int)) := by
  unfold endsV
  rw [List.getElem?_map, endsOf_get rs h]
  rfl
/-- what stands between two turns of the law's loop: Hc the heap ahead of it, R the rows, eN the ends -/
structure Turn42 (K : PySem.W.Frag) (Hc : Hp) (R eN : Addr) (rs : List Rec) (H : Hp) : Prop where
  ok : ∀ r ∈ rs, r.ok
  keep : ∀ b o, Hc b = some o → b ≠ R → b ≠ eN → H b = some o
  ends : H eN = some (.lst (endsV rs))
  rows : ∃ vs, H R = some (.lst vs) ∧ DpAll K (nw Hc H) vs (rs.map rowD)
theorem Turn42.step {K : PySem.W.Frag} {Hc H H' : Hp} {R eN : Addr} {rs : List Rec} (I : Turn42 K Hc R eN rs H) (s : Same H H') : Turn42 K Hc R eN rs H' :=
  ⟨I.ok, fun b o e h1 h2 => s _ _ (I.keep b o e h1 h2), s _ _ I.ends, let ⟨vs, h1, h2⟩ := I.rows; ⟨vs, s _ _ h1, DpAll.mono (nw_mono s) _ _ h2⟩⟩
theorem Turn42.dom {K : PySem.W.Frag} {Hc H : Hp} {R eN : Addr} {rs : List Rec} (I : Turn42 K Hc R eN rs H) : Dom Hc H := fun b hb => by
  cases e : Hc b with
  | none => rfl
  | some o =>
    by_cases h1 : b = R
    · obtain ⟨vs, h, _⟩ := I.rows
      rw [h1, h] at hb
      cases hb
    · by_cases h2 : b = eN
      · rw [h2, I.ends] at hb
        cases hb
      · rw [I.keep b o e h1 h2] at hb
        cases hb
theorem Turn42.push {K : PySem.W.Frag} {Hc H7 H9 : Hp} {R eN : Addr} {rs : List Rec} {r : Rec} {vs : List V} {y : V} {u u' : HO} (I : Turn42 K Hc R eN rs H7) (hRc : Hc R = some u) (hEc : Hc eN = some u') (hne : R ≠ eN) (hv : H7 R = some (.lst vs))
    (hy : Dp K (nw Hc H7) y (rowD r)) (ok : r.ok) (s : Same (upd H7 R (.lst (vs ++ [y]))) H9) :
    H9 eN = some (.lst (endsV rs)) ∧ Turn42 K Hc R eN (rs ++ [r]) (upd H9 eN (.lst ((endsV rs) ++ [.int ((jour (rs ++ [r])).length : Nat)]))) := by
  obtain ⟨vs', h1, h2⟩ := I.rows
  rw [hv] at h1
  cases h1
  refine ⟨s _ _ (by rw [upd_ne hne.symm]; exact I.ends), ⟨fun x hx => ?_, fun b o e b1 b2 => ?_, ?_, vs ++ [y], ?_, ?_⟩⟩
  · rcases List.mem_append.mp hx with hx | hx
    · exact I.ok x hx
    · rw [List.mem_singleton.mp hx]
      exact ok
  · rw [upd_ne b2]
    exact s _ _ (by rw [upd_ne b1]; exact I.keep b o e b1 b2)
  · rw [upd_same, endsV_app]
  · rw [upd_ne hne]
    exact s _ _ upd_same
  · rw [nw_upd hEc, List.map_append]
    have m : Same (nw Hc H7) (nw Hc H9) := by
      rw [← nw_upd (H := H7) (o := .lst (vs ++ [y])) hRc]
      exact nw_mono s
    exact DpAll.snoc (Dp.mono m _ _ hy) (DpAll.mono m _ _ h2)
theorem pick3 {k m : Int} (h0 : 0 ≤ k) (h1 : k < 3) (m0 : 0 ≤ m) (m1 : m ≤ 19) : ∃ y : Int, atI [V.int 0, V.int 1, V.int m] k = some (.int y) ∧ 0 ≤ y ∧ y ≤ 19 := by
  have : k = 0 ∨ k = 1 ∨ k = 2 := by omega
  rcases this with rfl | rfl | rfl
  · exact ⟨0, atI_nat (j := 0) rfl, by decide, by decide⟩
  · exact ⟨1, atI_nat (j := 1) rfl, by decide, by decide⟩
  · exact ⟨m, atI_nat (j := 2) rfl, m0, m1⟩
theorem cut_script (ns : List Int) : ∃ ms : List Int, cutV (ns.map V.int) (some 2) (some 14) = ms.map V.int ∧ ms.length ≤ 12 := by
  refine ⟨(ns.drop (HT.sIx (ns.map V.int).length 0 (some 2))).take (HT.sIx (ns.map V.int).length (ns.map V.int).length (some 14) - HT.sIx (ns.map V.int).length 0 (some 2)), ?_, ?_⟩
  · unfold cutV
    rw [List.map_take, List.map_drop]
  · have h1 : HT.sIx (ns.map V.int).length 0 (some 2) = min 2 (ns.map V.int).length := HT.sIx_nat _ _ 2
    have h2 : HT.sIx (ns.map V.int).length (ns.map V.int).length (some 14) = min 14 (ns.map V.int).length := HT.sIx_nat _ _ 14
    rw [List.length_take, List.length_drop, h1, h2, List.length_map]
    omega
theorem pick6 {k : Int} (h0 : 0 ≤ k) (h1 : k < 6) : ∃ y : Int, atI [V.int (-1), V.int 0, V.int 1, V.int 18, V.int 19, V.int 20] k = some (.int y) := by
  have : k = 0 ∨ k = 1 ∨ k = 2 ∨ k = 3 ∨ k = 4 ∨ k = 5 := by omega
  rcases this with rfl | rfl | rfl | rfl | rfl | rfl
  · exact ⟨_, atI_nat (j := 0) rfl⟩
  · exact ⟨_, atI_nat (j := 1) rfl⟩
  · exact ⟨_, atI_nat (j := 2) rfl⟩
  · exact ⟨_, atI_nat (j := 3) rfl⟩
  · exact ⟨_, atI_nat (j := 4) rfl⟩
  · exact ⟨_, atI_nat (j := 5) rfl⟩
theorem cutV_to (vs : List V) {n : Nat} (h : n ≤ vs.length) : cutV vs none (some (n : Int)) = vs.take n := by
  unfold cutV
  rw [HT.sIx_none, HT.sIx_nat, List.drop_zero, Nat.sub_zero, Nat.min_eq_left h]
def kb : List Nat := [98, 101, 104, 105, 110, 100]
theorem s_kb : Str.ofString "behind" = S kb := by decide +kernel
theorem ok_kb : okKey kb := ⟨by decide, by decide, by unfold okS kb; decide⟩
section
variable {P : Program} {w : World} {K : PySem.W.Frag} {mg : Str → Option Value} {base : Heap}
theorem ok_law {f fS fD fC fR fJ fE : Addr} {fd fdS fdD fdC fdR fdJ fdE : FuncData} (F : FnP K "law" sLaw f fd) (T : Txt mg) (C : Calls K mg P w base fS fD fC fR fJ fE fdS fdD fdC fdR fdJ fdE) :
    FnOk P w K mg base CX0 7 f fd ["_law_script"] (spLaw K) := by
  refine F.ok scLaw (fun vs H Q E h => ?_) (fun cdv A outer s H vs Q E hr h => ?_)
  · obtain ⟨a, ns, rfl, _⟩ := h
    rfl
  · obtain ⟨a, ns, rfl, hS, q⟩ := h
    have hr1 : Room 1 _ := hr.mono (by decide)
    have hr3 : Room 3 _ := hr.mono (by decide)
    have hr4 : Room 4 _ := hr.mono (by decide)
    refine ⟨_, PSs.nox (pss_cons (ps_set (i := 1) scLaw.nd rfl (.inl rfl) (pe_lst pa_nil))
      (pss_cons (ps_set (i := 2) scLaw.nd rfl (.inl rfl) pe_str)
      (pss_cons (ps_set (i := 3) scLaw.nd rfl (.inl rfl) (pe_lst (pa_cons pe_int pa_nil)))
      -- for _law_at, _law_cell in enumerate(_law_script[2:14])
      (C8.pss_cut (ps_for PassesOwn.never rfl (pi_enum (by rfl) T.enum (pa_cons (pe_slice sl_list (pv 0) (po_some pe_int) (po_some pe_int)) pa_nil))
          (pg_tup rfl (pgs_cons (pg_name (i := 4) scLaw.nd rfl (Or.inl rfl)) (pgs_cons (pg_name (i := 5) scLaw.nd rfl (Or.inl rfl)) pgs_nil)))
        (pss_cons (ps_set (i := 6) scLaw.nd rfl (.inl rfl) (pe_call C.gS hr1 (by rfl) C.aS.g C.aS.F.kp C.aS.b .nil pass0 (pa_cons (pe_op op_add (pv 5) (pe_op op_mul pe_int (pv 4))) (pa_cons pe_int pa_nil))))
        (pss_cons (ps_set (i := 7) scLaw.nd rfl (.inl rfl) (pe_op op_addE pe_int (pe_ix ix_list (pe_lst (pa_cons pe_int (pa_cons pe_int (pa_cons (pe_op op_modE (pe_ix ix_list (pv 6) pe_int (fun _ _ => rfl)) pe_int) pa_nil))))
            (pe_op op_modE (pe_op op_fdiv (pe_ix ix_list (pv 6) pe_int (fun _ _ => rfl)) pe_int) pe_int) (fun _ _ => rfl))))
        (pss_cons (ps_setLc (i := 8) (own := [("_law_number", 15)]) (g := gName 15) (tt := tYes) rfl scLaw.nd rfl rfl (sw_true rfl rfl rfl (by decide +kernel))
            (pi_list (pe_call C.gS hr1 (by rfl) C.aS.g C.aS.F.kp C.aS.b .nil pass0 (pa_cons (pe_ix ix_list (pv 6) pe_int (fun _ _ => rfl)) (pa_cons (pv 7) pa_nil))))
            (blkOk_by (N := nLaw) (sc := defScope sLaw) (by decide +kernel)) (fun _ _ _ _ _ => pg_name (i := 15) scLaw.nd rfl (Or.inl rfl)) (fun _ _ _ _ _ => pts_nil)
            (fun _ _ _ _ _ => pe_call C.gD hr3 (by rfl) C.aD.g C.aD.F.kp C.aD.b .nil pass0 (pa_cons (pv 15) pa_nil)))
        (pss_cons (ps_expr (pe_bm PySem.F.plainAttrs_list PySem.F.slot_list_append PySem.F.type_list_append mt_append (pv 1) (pa_cons (pe_tup (pa_cons
            (pe_op op_addE pe_int (pe_op op_modE (pe_op op_fdiv (pe_ix ix_list (pv 6) pe_int (fun _ _ => rfl)) pe_int) pe_int)) (pa_cons (pv 8) pa_nil))) pa_nil)))
        (pss_cons (ps_set (i := 2) scLaw.nd rfl (.inl rfl) (pe_op op_addS (pv 2) (pe_call C.gR hr4 (by rfl) C.aR.g C.aR.F.kp C.aR.b .nil pass0
            (pa_cons (pe_ix ix_tup (pe_ix ix_list (pv 1) (pe_un un_neg pe_int) (fun _ _ => rfl)) pe_int (fun _ _ => rfl)) (pa_cons (pv 8) pa_nil)))))
        (pss_one (ps_expr (pe_bm PySem.F.plainAttrs_list PySem.F.slot_list_append PySem.F.type_list_append mt_append (pv 3) (pa_cons (pe_callB call_lenS (by rfl) T.len PySem.boot_len (pa_cons (pv 2) pa_nil)) pa_nil))))))))))
      -- the cut
      (pss_cons (ps_set (i := 6) scLaw.nd rfl (.inl rfl) (pe_call C.gS hr1 (by rfl) C.aS.g C.aS.F.kp C.aS.b .nil pass0 (pa_cons (pe_call C.gC hr1 (by rfl) C.aC.g C.aC.F.kp C.aC.b .nil pass0 (pa_cons (pv 0) (pa_cons pe_int pa_nil))) (pa_cons pe_int pa_nil))))
      (pss_cons (ps_set (i := 9) scLaw.nd rfl (.inr rfl) (pe_op op_modE (pe_ix ix_list (pv 6) pe_int (fun _ _ => rfl)) (pe_op op_add (pe_callB call_lenS (by rfl) T.len PySem.boot_len (pa_cons (pv 2) pa_nil)) pe_int)))
      (C8.pss_cut (ps_if (pt_cmpR op_eq (pe_op op_mod (pe_ix ix_list (pv 6) pe_int (fun _ _ => rfl)) pe_int) pe_int (nomark _))
        (pss_one (ps_set (i := 9) scLaw.nd rfl (.inr rfl) (pe_callB (call_max2 rfl) (by rfl) T.max (by decide +kernel) (pa_cons pe_int (pa_cons
          (pe_callB (call_min2 rfl) (by rfl) T.min (by decide +kernel) (pa_cons (pe_callB call_lenS (by rfl) T.len PySem.boot_len (pa_cons (pv 2) pa_nil)) (pa_cons
            (pe_op op_add (pe_ix ix_list (pv 3) (pe_op op_modE (pe_ix ix_list (pv 6) pe_int (fun _ _ => rfl)) (pe_callB call_len_seq (by rfl) T.len PySem.boot_len (pa_cons (pv 3) pa_nil))) (fun _ _ => rfl))
              (pe_ix ix_list (pe_lst (pa_cons (pe_un un_neg pe_int) (pa_cons pe_int (pa_cons pe_int (pa_cons pe_int (pa_cons pe_int (pa_cons pe_int pa_nil)))))))
                (pe_op op_modE (pe_op op_fdiv (pe_ix ix_list (pv 6) pe_int (fun _ _ => rfl)) pe_int) pe_int) (fun _ _ => rfl))) pa_nil))) pa_nil))))) pss_nil)
      (pss_cons (ps_set (i := 10) scLaw.nd rfl (.inl rfl) (pe_op op_subE (pe_callB call_len_seq (by rfl) T.len PySem.boot_len (pa_cons
          (pe_lc (own := [("_law_end", 16)]) (g := gName 16) rfl scLaw.nd (pi_list (pv 3)) (blkOk_by (N := nLaw) (sc := defScope sLaw) (by decide +kernel)) (fun _ _ _ _ _ => pg_name (i := 16) scLaw.nd rfl (Or.inl rfl))
            (fun _ _ _ _ _ => pts_one (pt_cmpR op_le (pv 16) (pv 9) (nomark _))) (fun _ _ _ _ _ => pv 16)) pa_nil)) pe_int))
      (pss_cons (ps_set (i := 11) scLaw.nd rfl (.inl rfl) (pe_slice sl_S (pv 2) po_none (po_some (pv 9))))
      (pss_cons (ps_set (i := 12) scLaw.nd rfl (.inl rfl) (pe_call C.gJ hr (by rfl) C.aJ.g C.aJ.F.kp C.aJ.b .nil pass0 (pa_cons (pv 11) pa_nil)))
      (pss_cons (ps_if (PW.pt (pw_or (pt_not (pt_val (pe_callB call_isi (by rfl) T.isi (by decide +kernel) (pa_cons (pv 12) (pa_cons (pe_bltn (v := .ty "list") (by rfl) T.list (by decide +kernel) rfl) pa_nil)))))
          (pw_or (pt_cmpR (op_neD hr.units) (pv 12) (pe_slice sl_list (pv 1) po_none (po_some (pv 10))) (nomark _))
            (pw_or1 (pt_cmpR op_ne (pe_call C.gE hr (by rfl) C.aE.g C.aE.F.kp C.aE.b .nil pass0 (pa_cons (pv 11) pa_nil)) (pe_ix ix_list (pv 3) (pv 10) (fun _ _ => rfl)) (nomark _)))))) (pss_one (ps_ret pe_bl)) pss_nil)
      (pss_cons (ps_set (i := 13) scLaw.nd rfl (.inl rfl) (pe_call C.gR hr4 (by rfl) C.aR.g C.aR.F.kp C.aR.b .nil pass0 (pa_cons (pe_op op_addE pe_int (pe_op op_modE (pe_ix ix_list (pv 6) pe_int (fun _ _ => rfl)) (pe_op op_pow pe_int pe_int)))
          (pa_cons (pe_lst (pa_cons (pe_tup (pa_cons pe_str (pa_cons pe_str pa_nil))) pa_nil)) pa_nil))))
      (pss_cons (ps_set (i := 14) scLaw.nd rfl (.inl rfl) (pe_op op_addS (pe_slice sl_S (pv 11) po_none (po_some (pe_call C.gE hr (by rfl) C.aE.g C.aE.F.kp C.aE.b .nil pass0 (pa_cons (pv 11) pa_nil)))) (pv 13)))
      (pss_cons (ps_if (pt_cmpR (op_neD hr.units) (pe_call C.gJ hr (by rfl) C.aJ.g C.aJ.F.kp C.aJ.b .nil pass0 (pa_cons (pv 14) pa_nil))
          (pe_op op_cat (pe_slice sl_list (pv 1) po_none (po_some (pv 10))) (pe_lst (pa_cons (pe_tup (pa_cons (pe_op op_addE pe_int (pe_op op_modE (pe_ix ix_list (pv 6) pe_int (fun _ _ => rfl)) (pe_op op_pow pe_int pe_int)))
            (pa_cons (pe_lst (pa_cons (pe_tup (pa_cons pe_str (pa_cons pe_str pa_nil))) pa_nil)) pa_nil))) pa_nil))) (nomark _)) (pss_one (ps_ret pe_bl)) pss_nil)
      (pss_one (ps_ret (pe_and (pe_cmpR op_eq (pe_call C.gE hr (by rfl) C.aE.g C.aE.F.kp C.aE.b .nil pass0 (pa_cons (pv 14) pa_nil)) (pe_callB call_lenS (by rfl) T.len PySem.boot_len (pa_cons (pv 14) pa_nil)) (nomark _))
        (pe_one (pe_cmpR (op_eqD hr.units) (pe_call C.gJ hr (by rfl) C.aJ.g C.aJ.F.kp C.aJ.b .nil pass0 (pa_cons (pv 11) pa_nil)) (pv 12) (nomark _)))))))))))))))))))), ?_⟩
    refine ⟨Nat.zero_le _, fun R hR => ?_⟩
    refine ⟨by show 1 ≤ sizeLine; decide, fun eN hE => ?_⟩
    obtain ⟨ms, hms, hml⟩ := cut_script ns
    have hRE : R ≠ eN := fun e => by
      rw [← e, upd_same] at hE
      cases hE
    have s2 : Same H (upd (upd H R (.lst [])) eN (.lst [.int 0])) := (same_new hR).trans (same_new hE)
    refine ⟨fun σ' H' => ∃ (Hc : Hp) (rs : List Rec) (v4 v5 v6 v7 v8 : Option V), rs.length ≤ 12 ∧ SqL K H' a (ns.map V.int) ∧ Turn42 K Hc R eN rs H' ∧
      σ' = [some (.ref a), some (.ref R), some (.str (S (jour rs))), some (.ref eN), v4, v5, v6, v7, v8, none, none, none, none, none, none, none, none], ?_, ?_⟩
    · refine ⟨_, rfl, 2, rfl, 14, rfl, a, _, rfl, s2.seq hS, fun Cc hC => ?_⟩
      rw [hms]
      generalize hHc : upd (upd (upd H R (.lst [])) eN (.lst [.int 0])) Cc (.lst (ms.map V.int)) = Hc
      have cC : Hc Cc = some (.lst (ms.map V.int)) := by
        rw [← hHc]
        exact upd_same
      have nCE : eN ≠ Cc := fun e => by
        rw [← e, upd_same] at hC
        cases hC
      have nCR : R ≠ Cc := fun e => by
        rw [← e, upd_ne hRE, upd_same] at hC
        cases hC
      have cR : Hc R = some (.lst []) := by
        rw [← hHc, upd_ne nCR, upd_ne hRE, upd_same]
      have cE : Hc eN = some (.lst [.int 0]) := by
        rw [← hHc, upd_ne nCE, upd_same]
      have sc : Same H Hc := by
        rw [← hHc]
        exact s2.trans (same_new hC)
      have aR : ∀ b o, H b = some o → b ≠ R ∧ b ≠ eN := fun b o e => ⟨ne_of_none e hR, fun z => by
        rw [z] at e
        rw [upd_ne hRE.symm] at hE
        rw [hE] at e
        cases e⟩
      have hA : ∀ H', (∀ b o, Hc b = some o → b ≠ R → b ≠ eN → H' b = some o) → Same H H' := fun H' k b o e => k b o (sc b o e) (aR b o e).1 (aR b o e).2
      refine ⟨Cc, _, rfl, .inl (.inl cC), ?_⟩
      refine for_it (walk_enum (xs := ms.map V.int)) (fun i σ H' => ∃ (rs : List Rec) (v4 v5 v6 v7 v8 : Option V), rs.length = i ∧ Turn42 K Hc R eN rs H' ∧
        σ = [some (.ref a), some (.ref R), some (.str (S (jour rs))), some (.ref eN), v4, v5, v6, v7, v8, none, none, none, none, none, none, none, none]) ?_ ?_ ?_ ?_
      · refine ⟨[], none, none, none, none, none, rfl, ⟨fun r hr => (by cases hr), fun b o e _ _ => e, cE, [], cR, .nil⟩, ?_⟩
        rw [show jour [] = [] from rfl, ← s_e]
        rfl
      · rintro i σ H1 _ ⟨rs, v4, v5, v6, v7, v8, _, I, _⟩
        exact .inl (.inl (I.keep _ _ cC nCR.symm nCE.symm))
      · rintro i v σ H1 H2 hi ⟨rs, v4, v5, v6, v7, v8, hrl, I, rfl⟩ ⟨Tp, x, y, rfl, hT, rfl, ex, ey⟩
        rw [List.length_map] at hi
        replace ey : (ms.map V.int)[i]? = some y := ey
        rw [List.getElem?_map, List.getElem?_eq_getElem hi] at ey
        obtain rfl := Option.some.inj ex
        obtain rfl := Option.some.inj ey
        have I2 := I.step (same_new (o := .tup [.int ((i : Nat) : Int), .int ms[i]]) hT)
        refine ⟨Tp, _, rfl, .inl (.inl upd_same), rfl, _, _, rfl, _, _, rfl, rfl, ?_⟩
        refine ⟨_, rfl, _, rfl, _, _, rfl, rfl, .inl ⟨by decide, by decide⟩, _, _, rfl, rfl, _, 2, rfl, by decide, fun H3 p6 nums s3 hp6 e6 hl6 hb6 => ?_⟩
        have I3 := I2.step s3
        obtain ⟨n0, n1, rfl⟩ : ∃ n0 n1, nums = [n0, n1] := by
          match nums, hl6 with
          | [n0, n1], _ => exact ⟨n0, n1, rfl⟩
        have hn1 := hb6 n1 (by simp)
        obtain ⟨y, hy, hy0, hy1⟩ := pick3 (k := n1 / 20 % 3) (m := n1 % 20) (by omega) (by omega) (by omega) (by omega)
        refine ⟨_, rfl, p6, _, 1, _, rfl, rfl, .inl (.inl e6), atI_nat (j := 1) rfl, _, _, _, rfl, rfl, by decide, rfl, by show 3 ≤ sizeLine; decide, fun l7 hl7 => ?_⟩
        have I4 := I3.step (same_new (o := .lst [.int 0, .int 1, .int (n1 % 20)]) hl7)
        have g4 : ∀ H', Same H3 H' → SqL K H' p6 ([n0, n1].map V.int) := fun H' s => .inl (.inl (s _ _ e6))
        have s34 := same_new (o := .lst [.int 0, .int 1, .int (n1 % 20)]) hl7
        obtain ⟨sz, hsz, z1, z2⟩ : ∃ sz : Nat, 1 + y = (sz : Int) ∧ 1 ≤ sz ∧ sz ≤ 20 := ⟨(1 + y).toNat, by omega, by omega, by omega⟩
        refine ⟨_, rfl, p6, _, 1, _, rfl, rfl, g4 _ s34, atI_nat (j := 1) rfl, _, _, rfl, rfl, ⟨by decide, by decide⟩, _, _, _, rfl, rfl, by decide, rfl, l7, _, _, .int y, rfl, rfl, .inl (.inl upd_same), hy, _, _, (sz : Int), rfl, rfl, hsz, ?_⟩
        -- the deeds
        refine ⟨_, rfl, p6, _, 0, _, rfl, rfl, g4 _ s34, atI_nat (j := 0) rfl, _, rfl, _, sz, rfl, by omega, fun H5 p5 ns5 s5 hp5 e5 hl5 hb5 => ?_⟩
        have I5 := I4.step s5
        refine ⟨p5, rfl, ⟨_, .inl (.inl e5)⟩, fun D hD => ?_⟩
        refine lc_it (walk_list (xs := ns5.map V.int)) (PvN H5 D (fun i acc G => ∃ ds : List Deed, ds.length = i ∧ (∀ d ∈ ds, d.ok) ∧ DpAll K G acc (ds.map deedD))) (PvN.start hD fun _ => ⟨[], rfl, fun d hd => (by cases hd), .nil⟩)
          (fun _ _ _ pp => .inl (.inl (pp.1 _ _ e5))) ?_ ?_
        · rintro j x H6 _ hj pp ⟨rfl, hx⟩
          rw [List.length_map] at hj
          rw [List.getElem?_map, List.getElem?_eq_getElem hj] at hx
          obtain rfl := Option.some.inj hx
          refine ⟨rfl, _, rfl, _, rfl, fun H7 v d s7 okd hv => ?_⟩
          refine PvN.next hD pp s7 (by omega) fun acc _ ⟨ds, q1, q2, q3⟩ => ⟨ds ++ [d], ?_, ?_, ?_⟩
          · rw [List.length_append, q1, List.length_singleton]
          · intro x hx
            rcases List.mem_append.mp hx with hx | hx
            · exact q2 x hx
            · rw [List.mem_singleton.mp hx]
              exact okd
          · rw [List.map_append]
            exact DpAll.snoc (Dp.mono (nw_dom pp.dom) _ _ hv) (DpAll.mono (nw_mono s7) _ _ q3)
        · rintro H6 pp
          obtain ⟨s6, acc, e6', hl6', ds, q1, q2, q3⟩ := id pp
          rw [List.length_map, hl5] at q1
          have hDd : Dp K (nw H5 H6) (.ref D) (.list (ds.map deedD)) := PvN.fin (Same.refl H5) hD pp e6' q3
          have I6 := I5.step s6
          have s36 := (s34.trans s5).trans s6
          obtain ⟨vs, hv6, _⟩ := id I6.rows
          obtain ⟨st, hst, t1, t2⟩ : ∃ st : Nat, 1 + n1 / 60 % 999 = (st : Int) ∧ 1 ≤ st ∧ st ≤ 999999999 := ⟨(1 + n1 / 60 % 999).toNat, by omega, by omega, by omega⟩
          have okr : Rec.ok (st, ds) := ⟨t1, t2, by show 1 ≤ ds.length; omega, by show ds.length ≤ 20; omega, q2⟩
          have hvl : vs.length ≤ 12 := by
            obtain ⟨vs', w1, w2⟩ := I6.rows
            rw [hv6] at w1
            cases w1
            rw [DpAll.len w2, List.length_map]
            omega
          -- _law_rows.append(..)
          refine ⟨_, rfl, .inl ⟨rfl, _, .inl (.inl hv6)⟩, _, rfl, p6, _, 1, _, rfl, rfl, g4 _ s36, atI_nat (j := 1) rfl, _, _, rfl, rfl, ⟨by decide, by decide⟩, _, _, _, rfl, rfl, by decide, rfl, _, _, (st : Int), rfl, rfl, hst, _, rfl, by show 2 ≤ sizeLine; decide, fun tp htp => ?_⟩
          have I7 := I6.step (same_new (o := .tup [.int (st : Int), .ref D]) htp)
          have s67 := same_new (o := .tup [.int (st : Int), .ref D]) htp
          have hv7 := s67 _ _ hv6
          refine ⟨R, vs, .ref tp, rfl, rfl, hv7, small1000 (by omega), ?_⟩
          have hct : Hc tp = none := I6.dom tp htp
          have hrow : Dp K (nw Hc (upd H6 tp (.tup [.int (st : Int), .ref D]))) (.ref tp) (rowD (st, ds)) :=
            .tup (.inl (.inl (nw_new hct))) (.cons (.int _) (.cons (Dp.mono (nw_mono s67) _ _ (Dp.mono (nw_dom I5.dom) _ _ hDd)) .nil))
          -- _law_line = _law_line + record(..)
          have tR : tp ≠ R := fun z => by
            rw [z, hv6] at htp
            cases htp
          have hrow8 : Dp K (upd (upd H6 tp (.tup [.int (st : Int), .ref D])) R (.lst (vs ++ [.ref tp]))) (.ref tp) (rowD (st, ds)) := by
            refine Dp.mono (nw_sub Hc _) _ _ ?_
            rw [nw_upd cR]
            exact hrow
          have hD8 : Dp K (upd (upd H6 tp (.tup [.int (st : Int), .ref D])) R (.lst (vs ++ [.ref tp]))) (.ref D) (.list (ds.map deedD)) := by
            refine Dp.mono (nw_sub Hc _) _ _ ?_
            rw [nw_upd cR]
            exact Dp.mono (nw_mono s67) _ _ (Dp.mono (nw_dom I5.dom) _ _ hDd)
          refine ⟨_, rfl, _, rfl, _, rfl, R, _, _, _, rfl, rfl, .inl (.inl upd_same), atI_last _ _, tp, _, 0, _, rfl, rfl, .inl (.inl (by rw [upd_ne tR, upd_same])), atI_nat (j := 0) rfl, _, rfl, st, _, ds, rfl, hD8, okr, fun H9 s9 => ?_⟩
          obtain ⟨hE9, I10⟩ := I7.push cR cE hRE hv7 hrow okr s9
          have hjl := jour_len_le (rs ++ [(st, ds)]) I10.ok
          have hje : jour rs ++ recOf (st, ds) = jour (rs ++ [(st, ds)]) := by rw [jour_app, jour_one]
          have hjs := congrArg List.length hje
          rw [List.length_append] at hjs hjl
          simp only [List.length_append, List.length_cons, List.length_nil] at hjl
          refine ⟨jour rs, recOf (st, ds), rfl, rfl, by omega, ?_⟩
          rw [hje]
          -- _law_ends.append(len(_law_line))
          refine ⟨_, rfl, .inl ⟨rfl, _, .inl (.inl hE9)⟩, _, rfl, jour (rs ++ [(st, ds)]), rfl, by omega, eN, _, _, rfl, rfl, hE9, by rw [endsV_len]; exact small1000 (by omega), ?_⟩
          exact ⟨rs ++ [(st, ds)], _, _, _, _, _, by rw [List.length_append, hrl]; rfl, I10, rfl⟩
      · rintro σ H1 ⟨rs, v4, v5, v6, v7, v8, hrl, I, rfl⟩
        rw [List.length_map] at hrl
        exact ⟨Hc, rs, _, _, _, _, _, by omega, (hA H1 I.keep).seq hS, I, rfl⟩
    · rintro _ H1 ⟨Hc, rs, v4, v5, v6, v7, v8, hrl, hS1, I, rfl⟩
      have hjl := jour_len_le rs I.ok
      have hJl : (jour rs).length ≤ 100000 := by
        have : 1299 * rs.length ≤ 1299 * 12 := Nat.mul_le_mul_left _ hrl
        omega
      refine ⟨_, rfl, a, ns, 0, rfl, hS1, fun cv => ⟨_, 3, rfl, by decide, fun H2 p6 nums s12 hp6 e6 hl6 hb6 => ?_⟩⟩
      obtain ⟨n0, n1, n2, rfl⟩ : ∃ n0 n1 n2, nums = [n0, n1, n2] := by
        match nums, hl6 with
        | [n0, n1, n2], _ => exact ⟨n0, n1, n2, rfl⟩
      have I2 := I.step s12
      have hn0 := hb6 n0 (by simp)
      have hn1 := hb6 n1 (by simp)
      have hn2 := hb6 n2 (by simp)
      have g6 : ∀ H', Same H2 H' → SqL K H' p6 ([n0, n1, n2].map V.int) := fun H' s => .inl (.inl (s _ _ e6))
      obtain ⟨z1, hz1, hz2⟩ : ∃ z : Nat, n0 % (((jour rs).length : Int) + 1) = (z : Int) ∧ z ≤ (jour rs).length := by
        have u1 := Int.emod_nonneg n0 (show ((jour rs).length : Int) + 1 ≠ 0 by omega)
        have u2 := Int.emod_lt_of_pos n0 (show (0 : Int) < ((jour rs).length : Int) + 1 by omega)
        exact ⟨(n0 % (((jour rs).length : Int) + 1)).toNat, by omega, by omega⟩
      refine ⟨_, rfl, p6, _, 0, _, rfl, rfl, g6 _ (Same.refl _), atI_nat (j := 0) rfl, _, rfl, jour rs, rfl, hJl, _, _, rfl, rfl, _, _, (z1 : Int), rfl, rfl, by omega, hz1, ?_⟩
      refine ⟨fun σ' H' => ∃ cv : Int, 0 ≤ cv ∧ cv ≤ ((jour rs).length : Int) ∧ Same H2 H' ∧
        σ' = [some (.ref a), some (.ref R), some (.str (S (jour rs))), some (.ref eN), v4, v5, some (.ref p6), v7, v8, some (.int cv), none, none, none, none, none, none, none], ?_, ?_⟩
      · refine ⟨_, rfl, p6, _, 1, _, rfl, rfl, g6 _ (Same.refl _), atI_nat (j := 1) rfl, _, _, rfl, rfl, by show (0 : Int) < 3; decide, rfl, _, rfl, ?_⟩
        refine ite2 (fun _ => ?_) (fun _ => ?_)
        · have hel := endsV_len rs
          obtain ⟨j, hj1, hj2⟩ : ∃ z : Nat, n0 % ((endsV rs).length : Int) = (z : Int) ∧ z ≤ rs.length := by
            have u1 := Int.emod_nonneg n0 (show ((endsV rs).length : Int) ≠ 0 by omega)
            have u2 := Int.emod_lt_of_pos n0 (show (0 : Int) < ((endsV rs).length : Int) by omega)
            exact ⟨(n0 % ((endsV rs).length : Int)).toNat, by omega, by omega⟩
          obtain ⟨y, hy⟩ := pick6 (k := n1 / 3 % 6) (by omega) (by omega)
          refine ⟨_, rfl, jour rs, rfl, hJl, _, rfl, _, rfl, p6, _, 0, _, rfl, rfl, g6 _ (Same.refl _), atI_nat (j := 0) rfl, _, rfl, eN, _, rfl, .inl (.inl (.inl I2.ends)), _, _, (j : Int), rfl, rfl, by omega, hj1, eN, _, _, _, rfl, rfl, .inl (.inl I2.ends), atI_nat (endsV_get rs hj2), ?_⟩
          refine ⟨_, rfl, by show 6 ≤ sizeLine; decide, fun l9 hl9 => ?_⟩
          have s9 := same_new (o := .lst [V.int (-1), V.int 0, V.int 1, V.int 18, V.int 19, V.int 20]) hl9
          refine ⟨_, rfl, p6, _, 1, _, rfl, rfl, g6 _ s9, atI_nat (j := 1) rfl, _, _, rfl, rfl, ⟨by decide, by decide⟩, _, _, _, rfl, rfl, by decide, rfl, l9, _, _, .int y, rfl, rfl, .inl (.inl upd_same), hy, _, _, rfl, rfl, _, _, rfl, _, _, rfl, ?_⟩
          refine ⟨_, ?_, ?_, s9, rfl⟩
          · split <;> omega
          · split
            · split <;> omega
            · omega
        · exact ⟨(z1 : Int), by omega, by omega, Same.refl _, rfl⟩
      · rintro _ H3 ⟨cv, hc0, hc1, s23, rfl⟩
        obtain ⟨c, rfl⟩ := Int.eq_ofNat_of_zero_le hc0
        have I3 := I2.step s23
        obtain ⟨w, rest, hw1, hw2, hw3, hw4⟩ := cut_law rs c I.ok (by omega)
        have hok : ∀ r ∈ rs.take w, r.ok := fun r h => I.ok r (List.mem_of_mem_take h)
        have htl : (rs.take w).length ≤ 20 := by
          rw [List.length_take]
          omega
        -- _law_whole
        refine ⟨_, rfl, eN, rfl, ⟨_, .inl (.inl I3.ends)⟩, fun D hD => ?_⟩
        refine lc_it (walk_list (xs := endsV rs)) (fun i H' => Same H3 H' ∧ H' D = some (.lst ((((endsOf rs).take i).filter fun e => decide (e ≤ c)).map fun (e : Nat) => V.int ((e : Nat) : Int)))) ⟨same_new hD, upd_same⟩
          (fun _ _ _ pp => .inl (.inl (pp.1 _ _ I3.ends))) ?_ ?_
        · rintro j x H4 _ hj ⟨s4, e4⟩ ⟨rfl, hx⟩
          rw [endsV_len] at hj
          have hej := endsOf_get rs (show j ≤ rs.length by omega)
          rw [endsV_get rs (by omega)] at hx
          obtain rfl := Option.some.inj hx
          refine ⟨rfl, _, rfl, _, rfl, _, _, rfl, rfl, ?_⟩
          by_cases hle : endAt rs j ≤ c
          · refine ⟨true, congrArg V.bl (decide_eq_true (by omega)), ?_⟩
            refine iteT ⟨_, rfl, _, e4, ?_, same_wr s4 hD, ?_⟩
            · rw [List.length_map]
              refine Nat.lt_of_le_of_lt (List.length_filter_le _ _) (small1000 ?_)
              rw [List.length_take]
              omega
            · rw [upd_same, take_snoc hej, List.filter_append, List.filter_cons_of_pos (by simpa using hle), List.filter_nil, List.map_append]
              rfl
          · refine ⟨false, congrArg V.bl (decide_eq_false (by omega)), ?_⟩
            refine iteF ⟨s4, ?_⟩
            rw [e4, take_snoc hej, List.filter_append, List.filter_cons_of_neg (by simpa using (show c < endAt rs j by omega)), List.filter_nil, List.append_nil]
        · rintro H4 ⟨s34, e4⟩
          rw [endsV_len, ← endsOf_len, List.take_length] at e4
          have hwl : (((endsOf rs).filter fun e => decide (e ≤ c)).map fun (e : Nat) => V.int ((e : Nat) : Int)).length = w + 1 := by
            rw [List.length_map]
            exact hw1
          refine ⟨D, _, rfl, .inl (.inl (.inl e4)), _, _, (w : Int), rfl, rfl, by rw [hwl]; omega, ?_⟩
          -- _law_left, _law_found
          have c1 : cutS (S (jour rs)) none (some (c : Int)) = S (jour (rs.take w) ++ rest) := (cut_to _ c).trans (by rw [hw3])
          refine ⟨_, rfl, _, rfl, _, rfl, jour rs, _, rfl, hJl, c1, ?_⟩
          refine ⟨_, rfl, rs.take w, rest, rfl, hok, htl, hw4, fun H5 v s45 hv => ?_⟩
          have s25 := (s23.trans s34).trans s45
          have I5 := I2.step s25
          obtain ⟨fa, fxs, rfl, hfS, hfX⟩ := at_list (Dp.mono (nw_sub _ _) _ _ hv)
          have hfD : Dp K H5 (.ref fa) (.list ((rs.take w).map rowD)) := .lst hfS hfX
          obtain ⟨vs, hvs, hvX⟩ := I5.rows
          have hvl : vs.length = rs.length := by rw [DpAll.len hvX, List.length_map]
          have hcv : cutV vs none (some (w : Int)) = vs.take w := cutV_to vs (by omega)
          have hcX : DpAll K (nw Hc H5) (vs.take w) ((rs.take w).map rowD) := by
            rw [List.map_take]
            exact DpAll.takeD w hvX
          have heq := rowsD_eqv hok
          have hshp := rowsD_shaped hok
          -- not isinstance(..) or ..
          refine ⟨_, rfl, _, .ty "list", .type "list", .type "list", true, rfl, .ty _, ty_lst hfS, kit_ty (by decide +kernel), true, rfl, ?_⟩
          refine iteF ?_
          refine ⟨_, rfl, _, rfl, _, rfl, _, rfl, R, vs, rfl, .inl (.inl hvs), fun p hp => ?_⟩
          rw [hcv]
          have s56 := same_new (o := .lst (vs.take w)) hp
          refine ⟨_, _, Dp.mono s56 _ _ hfD, .lst (.inl (.inl upd_same)) (DpAll.mono s56 _ _ (DpAll.mono (nw_sub _ _) _ _ hcX)), hshp, hshp, false, congrArg V.bl (by rw [heq]; rfl), ?_⟩
          refine iteF ?_
          have I6 := I5.step s56
          refine ⟨_, rfl, rs.take w, rest, rfl, hok, htl, hw4, fun H7 s67 => ?_⟩
          have I7 := I6.step s67
          have s27 := (s25.trans s56).trans s67
          refine ⟨_, rfl, _, rfl, eN, _, _, _, rfl, rfl, .inl (.inl I7.ends), atI_nat (endsV_get rs hw2), rfl, false, ?_, ?_⟩
          · rw [show endAt rs w = (jour (rs.take w)).length from rfl, decide_eq_true rfl]
            rfl
          refine iteF ?_
          -- _law_further
          obtain ⟨st, hst, t1, t2⟩ : ∃ st : Nat, 1 + n2 % 100000000 = (st : Int) ∧ 1 ≤ st ∧ st ≤ 999999999 := ⟨(1 + n2 % 100000000).toNat, by omega, by omega, by omega⟩
          have okn : Rec.ok (st, [.drop kb]) := ⟨t1, t2, by show 1 ≤ 1; decide, by show 1 ≤ 20; decide, fun d hd => by rw [List.mem_singleton.mp hd]; exact ok_kb⟩
          have hpw : (10 : Int) ^ (8 : Int).toNat = 100000000 := by decide
          have hcp : CPow 10 8 := ⟨by decide, by decide, by decide⟩
          refine ⟨_, rfl, p6, _, 2, _, rfl, rfl, g6 _ s27, atI_nat (j := 2) rfl, _, _, rfl, rfl, hcp, _, _, n2 % 100000000, rfl, rfl, by rw [hpw]; decide, by rw [hpw], _, _, (st : Int), rfl, rfl, hst, by show 2 ≤ sizeLine; decide, fun tb htb => ⟨by show 1 ≤ sizeLine; decide, fun lb hlb => ?_⟩⟩
          have s78 : Same H7 (upd (upd H7 tb (.tup [.str "drop", .str "behind"])) lb (.lst [.ref tb])) := (same_new htb).trans (same_new hlb)
          have hbd : ∀ (G : Hp) (t l : Addr), G t = none → upd G t (.tup [.str "drop", .str "behind"]) l = none → Dp K (upd (upd G t (.tup [.str "drop", .str "behind"])) l (.lst [.ref t])) (.ref l) (.list ([Deed.drop kb].map deedD)) := fun G t l h1 h2 => by
            have htl : t ≠ l := fun z => by
              rw [← z, upd_same] at h2
              cases h2
            refine .lst (.inl (.inl upd_same)) (.cons (.tup (.inl (.inl ?_)) (.cons (.str _) (.cons (.str _) .nil))) .nil)
            rw [upd_ne htl, upd_same, s_kb]
          refine ⟨st, _, [.drop kb], rfl, hbd H7 tb lb htb hlb, okn, fun H9 s89 => ?_⟩
          have s29 := (s27.trans s78).trans s89
          have I9 := (I7.step s78).step s89
          -- _law_mended
          have hrl2 := okn.len
          have hbl2 := okn.blen
          have hje : jour (rs.take w) ++ recOf (st, [.drop kb]) = jour (rs.take w ++ [(st, [.drop kb])]) := by rw [jour_app, jour_one]
          have hok2 : ∀ r ∈ rs.take w ++ [(st, [Deed.drop kb])], r.ok := fun r h => by
            rcases List.mem_append.mp h with h | h
            · exact hok r h
            · rw [List.mem_singleton.mp h]
              exact okn
          have htl2 : (rs.take w ++ [(st, [Deed.drop kb])]).length ≤ 20 := by
            rw [List.length_append, List.length_take, List.length_singleton]
            omega
          have hjl2 := jour_len_le _ hok2
          have hJl2 : (jour (rs.take w ++ [(st, [Deed.drop kb])])).length ≤ 100000 := by
            have := Nat.mul_le_mul_left 1299 htl2
            omega
          have hJl3 : (jour (rs.take w)).length + (recOf (st, [Deed.drop kb])).length ≤ 100000 := by
            rw [← List.length_append, hje]
            exact hJl2
          have hll : (jour (rs.take w) ++ rest).length ≤ 100000 := by
            rw [← hw3, List.length_take]
            omega
          have c2 : cutS (S (jour (rs.take w) ++ rest)) none (some ((jour (rs.take w)).length : Int)) = S (jour (rs.take w)) := (cut_to _ _).trans (by rw [List.take_left])
          refine ⟨_, rfl, _, rfl, rs.take w, rest, rfl, hok, htl, hw4, fun H10 s910 => ⟨_, rfl, _, jour (rs.take w), rfl, hll, c2, _, rfl, jour (rs.take w), recOf (st, [.drop kb]), rfl, rfl, hJl3, ?_⟩⟩
          rw [hje]
          have s210 := s29.trans s910
          have I10 := I9.step s910
          -- read_journal(_law_mended) != ..
          refine ⟨_, rfl, rs.take w ++ [(st, [Deed.drop kb])], [], congrArg (fun l => [V.str (S l)]) (List.append_nil _).symm, hok2, htl2, torn_nil, fun H11 v2 s1011 hv2 => ?_⟩
          have I11 := I10.step s1011
          have s211 := s210.trans s1011
          obtain ⟨vs2, hvs2, hvX2⟩ := I11.rows
          have hvl2 : vs2.length = rs.length := by rw [DpAll.len hvX2, List.length_map]
          have hcX2 : DpAll K H11 (vs2.take w) ((rs.take w).map rowD) := by
            rw [List.map_take]
            exact DpAll.takeD w (DpAll.mono (nw_sub _ _) _ _ hvX2)
          refine ⟨_, rfl, _, rfl, _, rfl, R, vs2, rfl, .inl (.inl hvs2), fun p3 hp3 => ?_⟩
          rw [cutV_to vs2 (by omega)]
          have s12 := same_new (o := .lst (vs2.take w)) hp3
          refine ⟨_, rfl, p6, _, 2, _, rfl, rfl, g6 _ (s211.trans s12), atI_nat (j := 2) rfl, _, _, rfl, rfl, hcp, _, _, n2 % 100000000, rfl, rfl, by rw [hpw]; decide, by rw [hpw], _, _, (st : Int), rfl, rfl, hst, by show 2 ≤ sizeLine; decide, fun t2 ht2 =>
            ⟨by show 1 ≤ sizeLine; decide, fun l2 hl2 => ⟨by show 2 ≤ sizeLine; decide, fun tr htr => ⟨by show 1 ≤ sizeLine; decide, fun lr hlr => ?_⟩⟩⟩⟩
          have hD2 := hbd _ t2 l2 ht2 hl2
          have s13 := (same_new (o := .tup [.str "drop", .str "behind"]) ht2).trans (same_new (o := .lst [.ref t2]) hl2)
          have s14 := same_new (o := .tup [.int (st : Int), .ref l2]) htr
          have s15 := same_new (o := .lst [.ref tr]) hlr
          refine ⟨p3, lr, _, _, rfl, rfl, s15 _ _ (s14 _ _ (s13 _ _ upd_same)), upd_same, ?_, fun p4 hp4 => ?_⟩
          · rw [List.length_take, List.length_singleton]
            exact small (by omega)
          have s16 := same_new (o := .lst (vs2.take w ++ [.ref tr])) hp4
          have s1116 := (((s12.trans s13).trans s14).trans s15).trans s16
          have hshp2 := rowsD_shaped hok2
          refine ⟨_, .list ((rs.take w ++ [(st, [Deed.drop kb])]).map rowD), Dp.mono s1116 _ _ (Dp.mono (nw_sub _ _) _ _ hv2), .lst (.inl (.inl upd_same)) ?_, hshp2, hshp2, false, congrArg V.bl (by rw [rowsD_eqv hok2]; rfl), ?_⟩
          · rw [List.map_append]
            refine DpAll.appD (DpAll.mono s1116 _ _ hcX2) (.cons (Dp.mono (s15.trans s16) _ _ (.tup (.inl (.inl upd_same)) (.cons (.int _) (.cons (Dp.mono s14 _ _ hD2) .nil)))) .nil)
          refine iteF ?_
          -- return ..
          refine ⟨_, rfl, rs.take w ++ [(st, [Deed.drop kb])], [], congrArg (fun l => [V.str (S l)]) (List.append_nil _).symm, hok2, htl2, torn_nil, fun H17 s1617 => ⟨_, rfl, _, rfl, hJl2, rfl, true, congrArg V.bl (decide_eq_true rfl), ?_⟩⟩
          refine iteT ?_
          refine ⟨_, rfl, rs.take w, rest, rfl, hok, htl, hw4, fun H18 v3 s1718 hv3 => ⟨_, rfl, _, _, Dp.mono (nw_sub _ _) _ _ hv3, Dp.mono (((((((s56.trans s67).trans s78).trans s89).trans s910).trans s1011).trans s1116).trans (s1617.trans s1718)) _ _ hfD, hshp, hshp, ?_⟩⟩
          rw [heq]
          exact q _
end
end K42

/-! The head by facts, the end. -/
namespace K42
open PySem PySem.Spec PyProof.Rows L2
def dOf (x : Str) (i : Nat) : He.DefD := ⟨(x, none), x, x, defArgs (top i), defBody (top i), defScope (top i), [], []⟩
def fn : List He.DefD := [dOf "is_text" 9, dOf "is_key" 10, dOf "is_value" 11, dOf "is_whole" 12, dOf "is_stamp" 13, dOf "is_deed" 14, dOf "deed_line" 18, dOf "record" 19, dOf "padded_number" 20, dOf "head_of" 21, dOf "deed_of" 22, dOf "deeds_in" 23,
  dOf "whole_records" 24, dOf "read_journal" 25, dOf "whole_end" 26, dOf "_law_cell_at" 28, dOf "_law_stream" 29, dOf "_law_sign" 30, dOf "_law_text" 31, dOf "_law_deed" 33, dOf "law" 34]
def fa : List He.Fa := [.glo "is_text", .glo "is_key", .glo "is_value", .glo "is_whole", .glo "is_stamp", .glo "is_deed", .glo "deed_line", .glo "record", .glo "padded_number", .glo "head_of", .glo "deed_of", .glo "deeds_in",
  .glo "whole_records", .glo "read_journal", .glo "whole_end", .glo "_law_cell_at", .glo "_law_stream", .glo "_law_sign", .glo "_law_text", .glo "_law_deed", .glo "law",
  .free "isinstance", .free "str", .free "len", .free "all", .free "int", .free "bool", .free "tuple", .free "list", .free "range", .free "min", .free "max", .free "enumerate",
  .int "MOST_KEY" 20, .int "MOST_VALUE" 40, .int "MOST_STAMP" 999999999, .int "HEAD" 19, .int "MOST_DEEDS" 20]
def loose : List Str := ["TierError", "BadDeed", "BadStamp", "BadJournal", "MOST_KEY", "MOST_VALUE", "MOST_STAMP", "is_text", "is_key", "is_value", "is_whole", "is_stamp", "is_deed", "HEAD", "MOST_DEEDS", "deed_line", "record", "padded_number", "head_of",
  "deed_of", "deeds_in", "whole_records", "read_journal", "whole_end", "_law_cell_at", "_law_stream", "_law_sign", "_law_text", "_law_keys", "_law_deed"]
abbrev theRow : PySem.W.OpenRow := PySem.W.OpenLaw.row PySem.Challenge.rw_tierstore_k42_whole_cut_anywhere
abbrev hk : PySem.W.Hook := He.hookD 4 fa fn
def ob (s : PySem.W.SharedT) : He.AlD := He.obsDG 4 fa fn (HandSHeadRun.getT s)
theorem ob_eq (s : PySem.W.SharedT) : ob s = hk.obs s.abs := He.obsDG_eq (HandSHeadRun.getT_eq s)
theorem run (w : World) : HandSHeadRun.RunEq theRow (PySem.W.view theRow.prog [34]) hk ob 3000 loose w := by
  intro os
  kernel_rfl
theorem facts {P : Program} {w : World} {K : PySem.W.Frag} {h : Heap} {mg : Str → Option Value} {f : Addr} (X : K.In h) (G : h.Ns mainGlobals mg) (hfa : mg ("law" : Str) = some (.ref f)) (c : He.SaysD fa fn K) :
    ∃ fd : FuncData, (∀ (s : Shared) (v : Value), BindsTo s fd ⟨[v], []⟩ [("_law_script", v)]) ∧ ∀ base : Heap, K.In base → base.Ns mainGlobals mg → FnOk P w K mg base CX0 7 f fd ["_law_script"] (spLaw K) := by
  obtain ⟨fd0, F0⟩ := c.def_ 0 (d := dOf "is_text" 9) rfl
  have A0 : At K mg "is_text" sText ["thing", "least", "most"] (He.ga K "is_text") fd0 := ⟨F0, He.glo_ok X G (c.fact 0 (f := .glo "is_text") rfl), FunD.bindsN (ps := ["thing", "least", "most"]) F0 fun _ _ _ _ _ _ us hl => match us, hl with | [_, _, _], _ => rfl⟩
  obtain ⟨fd1, F1⟩ := c.def_ 1 (d := dOf "is_key" 10) rfl
  have A1 : At K mg "is_key" sKey ["thing"] (He.ga K "is_key") fd1 := ⟨F1, He.glo_ok X G (c.fact 1 (f := .glo "is_key") rfl), FunD.bindsN (ps := ["thing"]) F1 fun _ _ _ _ _ _ us hl => match us, hl with | [_], _ => rfl⟩
  obtain ⟨fd2, F2⟩ := c.def_ 2 (d := dOf "is_value" 11) rfl
  have A2 : At K mg "is_value" sVal ["thing"] (He.ga K "is_value") fd2 := ⟨F2, He.glo_ok X G (c.fact 2 (f := .glo "is_value") rfl), FunD.bindsN (ps := ["thing"]) F2 fun _ _ _ _ _ _ us hl => match us, hl with | [_], _ => rfl⟩
  obtain ⟨fd3, F3⟩ := c.def_ 3 (d := dOf "is_whole" 12) rfl
  have A3 : At K mg "is_whole" sWhole ["thing", "least", "most"] (He.ga K "is_whole") fd3 := ⟨F3, He.glo_ok X G (c.fact 3 (f := .glo "is_whole") rfl), FunD.bindsN (ps := ["thing", "least", "most"]) F3 fun _ _ _ _ _ _ us hl => match us, hl with | [_, _, _], _ => rfl⟩
  obtain ⟨fd4, F4⟩ := c.def_ 4 (d := dOf "is_stamp" 13) rfl
  have A4 : At K mg "is_stamp" sStamp ["thing"] (He.ga K "is_stamp") fd4 := ⟨F4, He.glo_ok X G (c.fact 4 (f := .glo "is_stamp") rfl), FunD.bindsN (ps := ["thing"]) F4 fun _ _ _ _ _ _ us hl => match us, hl with | [_], _ => rfl⟩
  obtain ⟨fd5, F5⟩ := c.def_ 5 (d := dOf "is_deed" 14) rfl
  have A5 : At K mg "is_deed" sDeed ["thing"] (He.ga K "is_deed") fd5 := ⟨F5, He.glo_ok X G (c.fact 5 (f := .glo "is_deed") rfl), FunD.bindsN (ps := ["thing"]) F5 fun _ _ _ _ _ _ us hl => match us, hl with | [_], _ => rfl⟩
  obtain ⟨fd6, F6⟩ := c.def_ 6 (d := dOf "deed_line" 18) rfl
  have A6 : At K mg "deed_line" sLine ["deed"] (He.ga K "deed_line") fd6 := ⟨F6, He.glo_ok X G (c.fact 6 (f := .glo "deed_line") rfl), FunD.bindsN (ps := ["deed"]) F6 fun _ _ _ _ _ _ us hl => match us, hl with | [_], _ => rfl⟩
  obtain ⟨fd7, F7⟩ := c.def_ 7 (d := dOf "record" 19) rfl
  have A7 : At K mg "record" sRec ["stamp", "deeds"] (He.ga K "record") fd7 := ⟨F7, He.glo_ok X G (c.fact 7 (f := .glo "record") rfl), FunD.bindsN (ps := ["stamp", "deeds"]) F7 fun _ _ _ _ _ _ us hl => match us, hl with | [_, _], _ => rfl⟩
  obtain ⟨fd8, F8⟩ := c.def_ 8 (d := dOf "padded_number" 20) rfl
  have A8 : At K mg "padded_number" sPad ["figures"] (He.ga K "padded_number") fd8 := ⟨F8, He.glo_ok X G (c.fact 8 (f := .glo "padded_number") rfl), FunD.bindsN (ps := ["figures"]) F8 fun _ _ _ _ _ _ us hl => match us, hl with | [_], _ => rfl⟩
  obtain ⟨fd9, F9⟩ := c.def_ 9 (d := dOf "head_of" 21) rfl
  have A9 : At K mg "head_of" sHead ["head"] (He.ga K "head_of") fd9 := ⟨F9, He.glo_ok X G (c.fact 9 (f := .glo "head_of") rfl), FunD.bindsN (ps := ["head"]) F9 fun _ _ _ _ _ _ us hl => match us, hl with | [_], _ => rfl⟩
  obtain ⟨fd10, F10⟩ := c.def_ 10 (d := dOf "deed_of" 22) rfl
  have A10 : At K mg "deed_of" sDeedOf ["line"] (He.ga K "deed_of") fd10 := ⟨F10, He.glo_ok X G (c.fact 10 (f := .glo "deed_of") rfl), FunD.bindsN (ps := ["line"]) F10 fun _ _ _ _ _ _ us hl => match us, hl with | [_], _ => rfl⟩
  obtain ⟨fd11, F11⟩ := c.def_ 11 (d := dOf "deeds_in" 23) rfl
  have A11 : At K mg "deeds_in" sDeeds ["body"] (He.ga K "deeds_in") fd11 := ⟨F11, He.glo_ok X G (c.fact 11 (f := .glo "deeds_in") rfl), FunD.bindsN (ps := ["body"]) F11 fun _ _ _ _ _ _ us hl => match us, hl with | [_], _ => rfl⟩
  obtain ⟨fd12, F12⟩ := c.def_ 12 (d := dOf "whole_records" 24) rfl
  have A12 : At K mg "whole_records" sWholeR ["text"] (He.ga K "whole_records") fd12 := ⟨F12, He.glo_ok X G (c.fact 12 (f := .glo "whole_records") rfl), FunD.bindsN (ps := ["text"]) F12 fun _ _ _ _ _ _ us hl => match us, hl with | [_], _ => rfl⟩
  obtain ⟨fd13, F13⟩ := c.def_ 13 (d := dOf "read_journal" 25) rfl
  have A13 : At K mg "read_journal" sJour ["text"] (He.ga K "read_journal") fd13 := ⟨F13, He.glo_ok X G (c.fact 13 (f := .glo "read_journal") rfl), FunD.bindsN (ps := ["text"]) F13 fun _ _ _ _ _ _ us hl => match us, hl with | [_], _ => rfl⟩
  obtain ⟨fd14, F14⟩ := c.def_ 14 (d := dOf "whole_end" 26) rfl
  have A14 : At K mg "whole_end" sEnd ["text"] (He.ga K "whole_end") fd14 := ⟨F14, He.glo_ok X G (c.fact 14 (f := .glo "whole_end") rfl), FunD.bindsN (ps := ["text"]) F14 fun _ _ _ _ _ _ us hl => match us, hl with | [_], _ => rfl⟩
  obtain ⟨fd15, F15⟩ := c.def_ 15 (d := dOf "_law_cell_at" 28) rfl
  have A15 : At K mg "_law_cell_at" sCell ["_law_script", "_law_k"] (He.ga K "_law_cell_at") fd15 := ⟨F15, He.glo_ok X G (c.fact 15 (f := .glo "_law_cell_at") rfl), FunD.bindsN (ps := ["_law_script", "_law_k"]) F15 fun _ _ _ _ _ _ us hl => match us, hl with | [_, _], _ => rfl⟩
  obtain ⟨fd16, F16⟩ := c.def_ 16 (d := dOf "_law_stream" 29) rfl
  have A16 : At K mg "_law_stream" sStream ["_law_cell", "_law_many"] (He.ga K "_law_stream") fd16 := ⟨F16, He.glo_ok X G (c.fact 16 (f := .glo "_law_stream") rfl), FunD.bindsN (ps := ["_law_cell", "_law_many"]) F16 fun _ _ _ _ _ _ us hl => match us, hl with | [_, _], _ => rfl⟩
  obtain ⟨fd17, F17⟩ := c.def_ 17 (d := dOf "_law_sign" 30) rfl
  have A17 : At K mg "_law_sign" sSign ["_law_number"] (He.ga K "_law_sign") fd17 := ⟨F17, He.glo_ok X G (c.fact 17 (f := .glo "_law_sign") rfl), FunD.bindsN (ps := ["_law_number"]) F17 fun _ _ _ _ _ _ us hl => match us, hl with | [_], _ => rfl⟩
  obtain ⟨fd18, F18⟩ := c.def_ 18 (d := dOf "_law_text" 31) rfl
  have A18 : At K mg "_law_text" sTxt ["_law_number", "_law_least", "_law_most"] (He.ga K "_law_text") fd18 := ⟨F18, He.glo_ok X G (c.fact 18 (f := .glo "_law_text") rfl), FunD.bindsN (ps := ["_law_number", "_law_least", "_law_most"]) F18 fun _ _ _ _ _ _ us hl => match us, hl with | [_, _, _], _ => rfl⟩
  obtain ⟨fd19, F19⟩ := c.def_ 19 (d := dOf "_law_deed" 33) rfl
  have A19 : At K mg "_law_deed" sDraw ["_law_number"] (He.ga K "_law_deed") fd19 := ⟨F19, He.glo_ok X G (c.fact 19 (f := .glo "_law_deed") rfl), FunD.bindsN (ps := ["_law_number"]) F19 fun _ _ _ _ _ _ us hl => match us, hl with | [_], _ => rfl⟩
  obtain ⟨fd, F⟩ := c.def_ 20 (d := dOf "law" 34) rfl
  have T : Txt mg := ⟨He.free_ok X G (c.fact 21 (f := .free "isinstance") rfl), He.free_ok X G (c.fact 22 (f := .free "str") rfl), He.free_ok X G (c.fact 23 (f := .free "len") rfl), He.free_ok X G (c.fact 24 (f := .free "all") rfl), He.free_ok X G (c.fact 25 (f := .free "int") rfl),
    He.free_ok X G (c.fact 26 (f := .free "bool") rfl), He.free_ok X G (c.fact 27 (f := .free "tuple") rfl), He.free_ok X G (c.fact 28 (f := .free "list") rfl), He.free_ok X G (c.fact 29 (f := .free "range") rfl), He.free_ok X G (c.fact 30 (f := .free "min") rfl), He.free_ok X G (c.fact 31 (f := .free "max") rfl),
    He.free_ok X G (c.fact 32 (f := .free "enumerate") rfl), He.int_ok X G (c.fact 33 (f := .int "MOST_KEY" 20) rfl), He.int_ok X G (c.fact 34 (f := .int "MOST_VALUE" 40) rfl), He.int_ok X G (c.fact 35 (f := .int "MOST_STAMP" 999999999) rfl), He.int_ok X G (c.fact 36 (f := .int "HEAD" 19) rfl), He.int_ok X G (c.fact 37 (f := .int "MOST_DEEDS" 20) rfl)⟩
  have e := hfa.symm.trans (He.glo_ok X G (c.fact 20 (f := .glo "law") rfl))
  cases e
  have b := FunD.bindsA (ps := ["_law_script"]) F fun _ _ _ _ _ _ us hl => match us, hl with | [_], _ => rfl
  refine ⟨fd, fun s v => b s [v] rfl, fun base _ _ => ?_⟩
  have L : Lower K mg P w base _ _ := ⟨A12, ok_wholeR (P := P) (w := w) (base := base) A12.F T A0 A1 A2 A3 A4 A8 A10 A9 A11⟩
  exact ok_law F T ⟨A16, ok_stream A16.F T, A19, ok_draw A19.F T A16 A17 A18, A15, ok_cell A15.F T, A7, ok_rec A7.F T A0 A1 A2 A3 A4 A5 A6, A13, ok_jour A13.F L, A14, ok_end A14.F T L⟩
end K42
open PySem PySem.W PySem.Calls PyProof.Rows
theorem PySem.Challenge.cw_tierstore_k42_whole_cut_anywhere_holds : PySem.Challenge.rw_tierstore_k42_whole_cut_anywhere.Holds := by
  w_on; o_law
  refine HandSHeadRun.head_any (r := OpenLaw.row PySem.Challenge.rw_tierstore_k42_whole_cut_anywhere) (q := view (OpenLaw.row PySem.Challenge.rw_tierstore_k42_whole_cut_anywhere).prog [34]) (H := K42.hk) (ob := K42.ob) (M := 3000) (loose := K42.loose) (d := HandSHeadRun.topDef (OpenLaw.row PySem.Challenge.rw_tierstore_k42_whole_cut_anywhere).prog 34) (kwd := []) K42.ob_eq
    (by kernel_rfl) (fun s => by kernel_rfl) K42.run (by kernel_rfl) (by kernel_rfl) (by kernel_rfl) (by rfl) (by first | assumption | decide +kernel) (by decide +kernel) ⟨rfl, rfl, rfl, rfl, rfl, by decide +kernel⟩ ?hw ?hc
  case hw => w_witness2
  case hc =>
    refine L2.walk_ofE (l := PySem.Challenge.rw_tierstore_k42_whole_cut_anywhere) (n := 63) (k := 7) (x := "_law_script") (CX := L2.CX0) rfl (by decide) (by kernel_rfl) ⟨rfl, by decide, by decide⟩ ?F (fun _ _ _ _ z => z)
    intro w mg fa h Y G hmg0
    obtain ⟨K, KX, c⟩ := Y
    have hmg : mg ("law" : PySem.Str) = some (.ref fa) := by
      have e : (HandSHeadRun.topDef (OpenLaw.row PySem.Challenge.rw_tierstore_k42_whole_cut_anywhere).prog 34).name = ("law" : PySem.Str) := by kernel_rfl
      rw [← e]
      exact hmg0
    obtain ⟨fd, hb, hF⟩ := K42.facts (P := (PySem.Challenge.rw_tierstore_k42_whole_cut_anywhere).prog) (w := w) KX G hmg c
    exact ⟨K, fd, K42.spLaw K, KX, hb, fun H a ns hl _ hS => ⟨a, ns, rfl, hS, fun _ => rfl⟩, hF⟩
