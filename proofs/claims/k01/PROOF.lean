import PyProof.Rows.All
import HandS.Codes
import Wide.All
import OpenK.AllK
import Wide.FinOn
import HandS.ForMost
import HandS.Flow
import HandS.FStr
import HandS.Wide
import HandS.IsInst
import HandS.More
import HandS.Slots
import HandS.SlotsOwn
import HandS.ClsMeth
import HandS.Defaults
import HandS.MakeKwOnly
import HandS.DictComp
import HandS.ListItems
import HandS.TupSets
import HandS.Star
import HandS.Style
import HandS.RaiseMore
import HandS.Exc
import HandS.ExcInit
import HandS.DictEq
import KE.KCallOwn
import OpenK.KOps
import OpenK.KMeth
import KE.KOwnIter
import HandS.Walk
import HandS.AnyAll
import KE.KDictZip
import HandS.Zip
import HandS.SortKw
import KE.DataMinMax
import KE.KSuper
import KE.KExcSuper
import HandS.Spec
import HandS.ExcOwn
import HandS.WordsExc
import HandS.IterVal
import HandS.Words
import PyProof.ListStr
import PyProof.ReprHeads
import HandS.Ends
import KE.OsRunLaw
import PySem.Challenge.RW_crosswebs_k01_whole_rows_and_texts
set_option Elab.async false
set_option linter.all false
set_option maxRecDepth 100000
set_option maxHeartbeats 4000000
/-! The plain law: rows of pairs (exponent, integer), their text, the program's reading and the law's reading. No program in sight. -/
namespace Wb
open PySem SX TL

abbrev Rw := List (Int × Int)
abbrev dv := NumText.digitsVal
def dig (c : Nat) : Bool := decide (48 ≤ c) && decide (c ≤ 57)
/-! ### the text of a row -/
def intT (e : Int) : List Nat := if e < 0 then 45 :: numL e.natAbs else numL e.natAbs
def powT (e : Int) : List Nat := if e = 0 then [] else if e = 1 then [120] else 120 :: 94 :: intT e
def termT (e v : Int) : List Nat := if v.natAbs = 1 ∧ e ≠ 0 then powT e else numL v.natAbs ++ powT e
def lead (t : List Nat) (v : Int) : List Nat := if t = [] then (if v < 0 then [45] else []) else (if v < 0 then [32, 45, 32] else [32, 43, 32])
def step (t : List Nat) (p : Int × Int) : List Nat := t ++ lead t p.2 ++ termT p.1 p.2
def body (r : Rw) : List Nat := r.foldl step []
def rend (r : Rw) : List Nat := if body r = [] then [48] else body r
/-! ### the program's reading -/
def figs (l : List Nat) : Bool := decide (0 < l.length) && decide (l.length ≤ 60) && l.all dig
def expTold (b : List Nat) : Option Int :=
  if b = [] then some 1
  else if b.head? ≠ some 94 ∨ figs (if b.take 2 = [94, 45] then b.drop 2 else b.drop 1) = false then none
  else some (if b.take 2 = [94, 45] then -((dv (if b.take 2 = [94, 45] then b.drop 2 else b.drop 1) : Nat) : Int) else ((dv (if b.take 2 = [94, 45] then b.drop 2 else b.drop 1) : Nat) : Int))
def termTold (t : List Nat) : Option (Int × Int) :=
  match TL.par [120] [] t with
  | none => if t ≠ [] ∧ figs t = true then some (0, ((dv t : Nat) : Int)) else none
  | some (a, b) => if a ≠ [] ∧ figs a = false then none else (expTold b).map fun e => (e, if a = [] then 1 else ((dv a : Nat) : Int))
def words (t : List Nat) : List (List Nat) := TL.spl [32] 0 [] t
def pairUp : List (List Nat) → List (List Nat × List Nat)
  | a :: b :: r => (a, b) :: pairUp r
  | _ => []
def firstOf (w : List Nat) : List Nat × List Nat := if w.take 1 = [45] then ([45], w.drop 1) else ([43], w)
def signed (t : List Nat) : Option (List (List Nat × List Nat)) :=
  if (words t).length % 2 = 0 then none else some (firstOf ((words t).headD []) :: pairUp (words t).tail)
/-- d[e] = v -/
def putI (d : Rw) (e v : Int) : Rw := if (d.any fun p => decide (p.1 = e)) = true then d.map (fun p => if p.1 = e then (p.1, v) else p) else d ++ [(e, v)]
def tell (d : Rw) (p : List Nat × List Nat) : Option Rw :=
  match termTold p.2 with
  | none => none
  | some q => if p.1 = [43] ∨ p.1 = [45] then some (putI d q.1 (if p.1 = [43] then q.2 else -q.2)) else none
def tellAll : Rw → List (List Nat × List Nat) → Option Rw
  | d, [] => some d
  | d, p :: r => match tell d p with | none => none | some d' => tellAll d' r
def told (t : List Nat) : Option Rw := if t = [48] then some [] else match signed t with | none => none | some ps => tellAll [] ps
/-! ### the law's reading -/
def termRead (t : List Nat) : Option (Int × Int) :=
  if 70 < (t.takeWhile dig).length ∨ (t.takeWhile dig = [] ∧ t.dropWhile dig = []) then none
  else if t.dropWhile dig = [] ∨ t.dropWhile dig = [120] then some (((t.dropWhile dig).length : Int), if t.takeWhile dig = [] then 1 else ((dv (t.takeWhile dig) : Nat) : Int))
  else if (t.dropWhile dig).take 2 ≠ [120, 94] ∨ ¬ ((if ((t.dropWhile dig).drop 2).take 1 = [45] then (t.dropWhile dig).drop 3 else (t.dropWhile dig).drop 2) ≠ [] ∧ (if ((t.dropWhile dig).drop 2).take 1 = [45] then (t.dropWhile dig).drop 3 else (t.dropWhile dig).drop 2).all dig = true) ∨
    6 < (if ((t.dropWhile dig).drop 2).take 1 = [45] then (t.dropWhile dig).drop 3 else (t.dropWhile dig).drop 2).length then none
  else some (if ((t.dropWhile dig).drop 2).take 1 = [45] then -((dv ((t.dropWhile dig).drop 3) : Nat) : Int) else ((dv ((t.dropWhile dig).drop 2) : Nat) : Int), if t.takeWhile dig = [] then 1 else ((dv (t.takeWhile dig) : Nat) : Int))
def wordOf (i : Nat) (w : List Nat) : List Nat := if i = 0 ∧ w.take 1 = [45] then w.drop 1 else w
def readFrom : Nat → Int → Rw → List (List Nat) → Option Rw
  | _, _, d, [] => some d
  | i, sg, d, w :: r =>
    if i % 2 = 1 then readFrom (i + 1) (if w = [43] then 1 else -1) d r
    else match termRead (wordOf i w) with
      | none => none
      | some q => readFrom (i + 1) sg (putI d q.1 (sg * q.2)) r
def readAll (t : List Nat) : Option Rw := readFrom 0 (if ((words t).headD []).take 1 = [45] then -1 else 1) [] (words t)
/-! ### rows -/
/-- the exponents ascend -/
def Asc (r : Rw) : Prop := r.Pairwise fun a b => a.1 < b.1
structure Ok (r : Rw) : Prop where
  asc : Asc r
  ne0 : ∀ p ∈ r, p.2 ≠ 0
  ex : ∀ p ∈ r, p.1.natAbs ≤ 10000
  num : ∀ p ∈ r, p.2.natAbs < 10 ^ 60
/-- r holds the pairs of d that are not 0, ascending -/
structure Srt (d r : Rw) : Prop where
  asc : Asc r
  mem : ∀ p, p ∈ r ↔ p ∈ d ∧ p.2 ≠ 0
theorem asc_ext : ∀ {r q : Rw}, Asc r → Asc q → (∀ p, p ∈ r ↔ p ∈ q) → r = q
  | [], [], _, _, _ => rfl
  | [], p :: q, _, _, h => by have := (h p).mpr (List.mem_cons_self ..); simp at this
  | p :: r, [], _, _, h => by have := (h p).mp (List.mem_cons_self ..); simp at this
  | p :: r, p' :: q, hr, hq, h => by
    have hr' := List.pairwise_cons.mp hr
    have hq' := List.pairwise_cons.mp hq
    have e : p = p' := by
      rcases List.mem_cons.mp ((h p).mp (List.mem_cons_self ..)) with e | m1
      · exact e
      · rcases List.mem_cons.mp ((h p').mpr (List.mem_cons_self ..)) with e | m2
        · exact e.symm
        · have a := hq'.1 p m1
          have b := hr'.1 p' m2
          omega
    subst e
    have : r = q := asc_ext hr'.2 hq'.2 fun z => by
      constructor
      · intro hz
        rcases List.mem_cons.mp ((h z).mp (List.mem_cons_of_mem _ hz)) with e | m
        · have a := hr'.1 z hz
          rw [e] at a
          omega
        · exact m
      · intro hz
        rcases List.mem_cons.mp ((h z).mpr (List.mem_cons_of_mem _ hz)) with e | m
        · have a := hq'.1 z hz
          rw [e] at a
          omega
        · exact m
    rw [this]
theorem Srt.uniq {d r q : Rw} (h : Srt d r) (k : Srt d q) : r = q := asc_ext h.asc k.asc fun p => (h.mem p).trans (k.mem p).symm
theorem Srt.self {r : Rw} (h : Asc r) (h0 : ∀ p ∈ r, p.2 ≠ 0) : Srt r r := ⟨h, fun p => ⟨fun m => ⟨m, h0 p m⟩, fun m => m.1⟩⟩
theorem Srt.ne0 {d r : Rw} (h : Srt d r) : ∀ p ∈ r, p.2 ≠ 0 := fun p m => ((h.mem p).mp m).2

/-! ### the text's words -/
theorem dv_num (n : Nat) : dv (numL n) = n := numL_val n
theorem numL_all (n : Nat) : (numL n).all dig = true := List.all_eq_true.mpr fun c hc => by
  have r := numL_digits n c hc
  unfold dig
  simp only [Bool.and_eq_true, decide_eq_true_eq]
  exact r
theorem termT_ne (e v : Int) : termT e v ≠ [] := by
  unfold termT
  split
  · rename_i h
    unfold powT
    rw [if_neg h.2]
    split <;> simp
  · simp [numL_ne]
theorem intT_free {s : Nat} (h : s ≠ 45) (h' : s < 48 ∨ 57 < s) (e : Int) : s ∉ intT e := by
  unfold intT
  split
  · intro m
    rcases List.mem_cons.mp m with m | m
    · exact h m
    · exact numL_free h' m
  · exact numL_free h'
theorem powT_free {e : Int} : 32 ∉ powT e := by
  unfold powT
  split
  · simp
  · split
    · simp
    · intro m
      simp only [List.mem_cons] at m
      rcases m with m | m | m
      · omega
      · omega
      · exact intT_free (by omega) (by omega) e m
theorem termT_free {e v : Int} : 32 ∉ termT e v := by
  unfold termT
  split
  · exact powT_free
  · intro m
    rcases List.mem_append.mp m with m | m
    · exact numL_free (by omega) m
    · exact powT_free m
def sg1 (v : Int) : List Nat := if v < 0 then [45] else []
def sgn (v : Int) : List Nat := if v < 0 then [45] else [43]
def tailT (r : Rw) : List Nat := r.flatMap fun p => 32 :: (sgn p.2 ++ 32 :: termT p.1 p.2)
theorem lead_ne {t : List Nat} (h : t ≠ []) (v : Int) : lead t v = 32 :: (sgn v ++ [32]) := by
  unfold lead sgn
  rw [if_neg h]
  split <;> rfl
theorem fold_ne : ∀ (r : Rw) {t : List Nat}, t ≠ [] → r.foldl step t = t ++ tailT r
  | [], t, _ => by simp [tailT]
  | p :: r, t, h => by
    have e : step t p = t ++ (32 :: (sgn p.2 ++ 32 :: termT p.1 p.2)) := by
      unfold step
      rw [lead_ne h]
      simp
    have hn : step t p ≠ [] := by rw [e]; simp
    rw [List.foldl_cons, fold_ne r hn, e]
    show _ = t ++ ((32 :: (sgn p.2 ++ 32 :: termT p.1 p.2)) ++ tailT r)
    simp
theorem body_cons (p : Int × Int) (r : Rw) : body (p :: r) = (sg1 p.2 ++ termT p.1 p.2) ++ tailT r := by
  have e : step [] p = sg1 p.2 ++ termT p.1 p.2 := rfl
  show r.foldl step (step [] p) = _
  rw [e]
  exact fold_ne r (by simp [termT_ne])
theorem rend_cons (p : Int × Int) (r : Rw) : rend (p :: r) = (sg1 p.2 ++ termT p.1 p.2) ++ tailT r := by
  unfold rend
  rw [body_cons]
  exact if_neg (by simp [termT_ne])
theorem rend_nil : rend [] = [48] := rfl
def wl (r : Rw) : List (List Nat) := r.flatMap fun p => [sgn p.2, termT p.1 p.2]
theorem join_wl : ∀ (r : Rw) (w : List Nat), joinL [32] (w :: wl r) = w ++ tailT r
  | [], w => by simp [wl, tailT, joinL]
  | p :: r, w => by
    have ih := join_wl r (termT p.1 p.2)
    show w ++ ([32] ++ (sgn p.2 ++ ([32] ++ joinL [32] (termT p.1 p.2 :: wl r)))) = _
    rw [ih]
    show _ = w ++ ((32 :: (sgn p.2 ++ 32 :: termT p.1 p.2)) ++ tailT r)
    simp
theorem wl_free {r : Rw} : ∀ w ∈ wl r, 32 ∉ w := fun w hw => by
  obtain ⟨p, _, hm⟩ := List.mem_flatMap.mp hw
  simp only [List.mem_cons, List.not_mem_nil, or_false] at hm
  rcases hm with e | e
  · rw [e]
    unfold sgn
    split <;> simp
  · rw [e]
    exact termT_free
theorem words_rend (p : Int × Int) (r : Rw) : words (rend (p :: r)) = (sg1 p.2 ++ termT p.1 p.2) :: wl r := by
  rw [rend_cons, ← join_wl]
  refine TL.spl_join (by simp) fun w hw => ?_
  rcases List.mem_cons.mp hw with e | hw
  · rw [e]
    intro m
    rcases List.mem_append.mp m with m | m
    · unfold sg1 at m
      split at m <;> simp at m
    · exact termT_free m
  · exact wl_free w hw
theorem wl_len (r : Rw) : (wl r).length = 2 * r.length := by
  induction r with
  | nil => rfl
  | cons p r ih =>
    show (sgn p.2 :: termT p.1 p.2 :: wl r).length = _
    rw [List.length_cons, List.length_cons, ih, List.length_cons]
    omega
theorem pair_wl : ∀ r : Rw, pairUp (wl r) = r.map fun p => (sgn p.2, termT p.1 p.2)
  | [] => rfl
  | p :: r => by
    show (sgn p.2, termT p.1 p.2) :: pairUp (wl r) = _
    rw [pair_wl r]
    rfl
/-- the sign ahead of a term's text -/
theorem term_head {e v : Int} (h : v ≠ 0) : (termT e v).take 1 ≠ [45] := by
  have key : ∀ c l, termT e v = c :: l → c ≠ 45 := by
    intro c l hl
    have hc : c ∈ (termT e v).take 1 := by rw [hl]; simp
    unfold termT at hl
    split at hl
    · unfold powT at hl
      split at hl
      · cases hl
      · split at hl
        · injection hl with a _
          omega
        · injection hl with a _
          omega
    · obtain ⟨d, m, hd⟩ := List.exists_cons_of_ne_nil (numL_ne v.natAbs)
      rw [hd] at hl
      injection hl with a _
      have z := numL_digits v.natAbs d (by rw [hd]; exact List.mem_cons_self ..)
      omega
  cases ht : termT e v with
  | nil => simp
  | cons c l =>
    have := key c l ht
    simp
    omega
theorem first_of {e v : Int} (h : v ≠ 0) : firstOf (sg1 v ++ termT e v) = (sgn v, termT e v) := by
  unfold firstOf sg1 sgn
  by_cases hv : v < 0
  · rw [if_pos hv, if_pos hv, if_pos (by simp)]
    rfl
  · rw [if_neg hv, if_neg hv, List.nil_append, if_neg (term_head h)]
theorem signed_rend {p : Int × Int} (r : Rw) (h : p.2 ≠ 0) : signed (rend (p :: r)) = some ((sgn p.2, termT p.1 p.2) :: r.map fun p => (sgn p.2, termT p.1 p.2)) := by
  unfold signed
  rw [words_rend, List.length_cons, wl_len, if_neg (by omega), List.headD_cons, List.tail_cons, first_of h, pair_wl]
/-! ### the program reads a term back -/
theorem figs_num {n : Nat} (h : n < 10 ^ 60) : figs (numL n) = true := by
  unfold figs
  have h1 : 0 < (numL n).length := List.length_pos_iff.mpr (numL_ne n)
  have h2 := numL_len (n := n) (k := 60) (by omega) h
  rw [decide_eq_true h1, decide_eq_true h2, numL_all]
  rfl
theorem head_num {n : Nat} : ∃ d m, numL n = d :: m ∧ 48 ≤ d ∧ d ≤ 57 := by
  obtain ⟨d, m, hd⟩ := List.exists_cons_of_ne_nil (numL_ne n)
  exact ⟨d, m, hd, numL_digits n d (by rw [hd]; exact List.mem_cons_self ..)⟩
theorem exp_int {e : Int} (h : e.natAbs < 10 ^ 60) : expTold (94 :: intT e) = some e := by
  unfold expTold intT
  by_cases he : e < 0
  · rw [if_pos he]
    rw [if_neg (by simp)]
    have e1 : (94 :: 45 :: numL e.natAbs).take 2 = [94, 45] := rfl
    rw [if_pos e1, if_pos e1]
    have e2 : (94 :: 45 :: numL e.natAbs).drop 2 = numL e.natAbs := rfl
    rw [e2, figs_num h, if_neg (by simp), dv_num]
    congr 1
    omega
  · rw [if_neg he]
    rw [if_neg (by simp)]
    obtain ⟨d, m, hd, h1, h2⟩ := head_num (n := e.natAbs)
    have e1 : ¬ (94 :: numL e.natAbs).take 2 = [94, 45] := by
      rw [hd]
      intro z
      simp at z
      omega
    rw [if_neg e1, if_neg e1]
    have e2 : (94 :: numL e.natAbs).drop 1 = numL e.natAbs := rfl
    rw [e2, figs_num h, if_neg (by simp), dv_num]
    congr 1
    omega
theorem par_x {a b : List Nat} (h : 120 ∉ a) : TL.par [120] [] (a ++ 120 :: b) = some (a, b) := par_head (c := 120) (sep := []) b h
theorem par_no {a : List Nat} (h : 120 ∉ a) : TL.par [120] [] a = none := par_head_none h
theorem term_back {e v : Int} (h0 : v ≠ 0) (he : e.natAbs ≤ 10000) (hv : v.natAbs < 10 ^ 60) : termTold (termT e v) = some (e, (v.natAbs : Int)) := by
  have hx : ∀ a b : List Nat, a ≠ [] ∧ figs a = false ∨ True := fun _ _ => .inr trivial
  have eb : e.natAbs < 10 ^ 60 := Nat.lt_of_le_of_lt he (by decide)
  have nx : 120 ∉ numL v.natAbs := numL_free (by omega)
  -- what stands behind the integer's signs
  have pow : ∀ a : List Nat, 120 ∉ a → (a = [] ∨ figs a = true) → e ≠ 0 → termTold (a ++ powT e) = some (e, if a = [] then 1 else ((dv a : Nat) : Int)) := by
    intro a ha hf h1
    unfold termTold powT
    rw [if_neg h1]
    have hnf : ¬ (a ≠ [] ∧ figs a = false) := by
      rintro ⟨n1, n2⟩
      rcases hf with f | f
      · exact n1 f
      · rw [f] at n2
        cases n2
    by_cases h2 : e = 1
    · rw [if_pos h2, par_x ha]
      show (if a ≠ [] ∧ figs a = false then none else _) = _
      rw [if_neg hnf]
      subst h2
      rfl
    · rw [if_neg h2, par_x ha]
      show (if a ≠ [] ∧ figs a = false then none else _) = _
      rw [if_neg hnf, exp_int eb]
      rfl
  unfold termT
  by_cases h1 : v.natAbs = 1 ∧ e ≠ 0
  · rw [if_pos h1]
    have z := pow [] (by simp) (.inl rfl) h1.2
    rw [List.nil_append] at z
    rw [z, if_pos rfl, h1.1]
    rfl
  · rw [if_neg h1]
    by_cases h2 : e = 0
    · subst h2
      have ep : powT 0 = [] := rfl
      rw [ep, List.append_nil]
      unfold termTold
      rw [par_no nx]
      show (if numL v.natAbs ≠ [] ∧ figs (numL v.natAbs) = true then _ else _) = _
      rw [if_pos ⟨numL_ne _, figs_num hv⟩, dv_num]
    · rw [pow _ nx (.inr (figs_num hv)) h2, if_neg (numL_ne _), dv_num]
theorem put_new {d : Rw} {e v : Int} (h : ∀ p ∈ d, p.1 ≠ e) : putI d e v = d ++ [(e, v)] := by
  unfold putI
  rw [if_neg]
  simp only [List.any_eq_true, decide_eq_true_eq, not_exists, not_and]
  exact h
theorem tell_term {d : Rw} {p : Int × Int} (h : ∀ q ∈ d, q.1 ≠ p.1) (h0 : p.2 ≠ 0) (he : p.1.natAbs ≤ 10000) (hv : p.2.natAbs < 10 ^ 60) :
    tell d (sgn p.2, termT p.1 p.2) = some (d ++ [p]) := by
  unfold tell
  simp only [term_back h0 he hv]
  unfold sgn
  by_cases hs : p.2 < 0
  · rw [if_pos hs, if_pos (by simp), if_neg (by simp), put_new h]
    congr 3
    have : -(p.2.natAbs : Int) = p.2 := by omega
    rw [this]
  · rw [if_neg hs, if_pos (by simp), if_pos rfl, put_new h]
    congr 3
    have : (p.2.natAbs : Int) = p.2 := by omega
    rw [this]
theorem tell_all : ∀ (r d : Rw), Asc (d ++ r) → (∀ p ∈ r, p.2 ≠ 0) → (∀ p ∈ r, p.1.natAbs ≤ 10000) → (∀ p ∈ r, p.2.natAbs < 10 ^ 60) →
    tellAll d (r.map fun p => (sgn p.2, termT p.1 p.2)) = some (d ++ r)
  | [], d, _, _, _, _ => by rw [List.append_nil]; rfl
  | p :: r, d, ha, h0, he, hv => by
    have hd : ∀ q ∈ d, q.1 ≠ p.1 := fun q hq => by
      have := (List.pairwise_append.mp ha).2.2 q hq p (List.mem_cons_self ..)
      omega
    have t := tell_term (d := d) hd (h0 p (List.mem_cons_self ..)) (he p (List.mem_cons_self ..)) (hv p (List.mem_cons_self ..))
    show (match tell d (sgn p.2, termT p.1 p.2) with | none => none | some d' => tellAll d' (r.map fun (p : Int × Int) => (sgn p.2, termT p.1 p.2))) = _
    rw [t]
    have ih := tell_all r (d ++ [p]) (by rw [List.append_assoc]; exact ha) (fun q m => h0 q (List.mem_cons_of_mem _ m)) (fun q m => he q (List.mem_cons_of_mem _ m)) (fun q m => hv q (List.mem_cons_of_mem _ m))
    rw [List.append_assoc] at ih
    exact ih
theorem rend_ne0 {p : Int × Int} {r : Rw} (h : p.2 ≠ 0) : rend (p :: r) ≠ [48] := by
  intro e
  have w := congrArg words e
  rw [words_rend] at w
  have w0 : words [48] = [[48]] := by decide
  rw [w0] at w
  injection w with w1 w2
  have hr : r = [] := by
    have := congrArg List.length w2
    rw [wl_len] at this
    simp only [List.length_nil] at this
    exact List.length_eq_zero_iff.mp (by omega)
  subst hr
  -- the term's text is 0
  have f := first_of (e := p.1) h
  rw [w1] at f
  have f0 : firstOf [48] = ([43], [48]) := by decide
  rw [f0] at f
  have ft : termT p.1 p.2 = [48] := (congrArg Prod.snd f).symm
  unfold termT at ft
  split at ft
  · rename_i hh
    unfold powT at ft
    rw [if_neg hh.2] at ft
    split at ft
    · simp at ft
    · simp at ft
  · by_cases h2 : p.1 = 0
    · rw [h2] at ft
      have ep : powT 0 = [] := rfl
      rw [ep, List.append_nil] at ft
      have v := dv_num p.2.natAbs
      rw [ft] at v
      have z : dv [48] = 0 := by decide
      have : p.2.natAbs = 0 := by rw [← v]; exact z
      omega
    · have := congrArg List.length ft
      rw [List.length_append] at this
      have h1 : 0 < (numL p.2.natAbs).length := List.length_pos_iff.mpr (numL_ne _)
      have h3 : 0 < (powT p.1).length := by
        unfold powT
        rw [if_neg h2]
        split <;> simp
      simp at this
      omega
/-- THE PROGRAM READS A ROW'S TEXT BACK -/
theorem told_rend {r : Rw} (h : Ok r) : told (rend r) = some r := by
  cases r with
  | nil => rfl
  | cons p r =>
    have h0 := h.ne0 p (List.mem_cons_self ..)
    unfold told
    rw [if_neg (rend_ne0 h0), signed_rend r h0]
    exact tell_all (p :: r) [] h.asc h.ne0 h.ex h.num
/-! ### the law reads a term back -/
theorem tw_num {n : Nat} {b : List Nat} (hb : ∀ c, b.head? = some c → dig c = false) : (numL n ++ b).takeWhile dig = numL n ∧ (numL n ++ b).dropWhile dig = b := by
  have hall : ∀ c ∈ numL n, dig c = true := fun c hc => List.all_eq_true.mp (numL_all n) c hc
  have hb1 : b.takeWhile dig = [] ∧ b.dropWhile dig = b := by
    cases b with
    | nil => exact ⟨rfl, rfl⟩
    | cons c l =>
      have z := hb c rfl
      constructor
      · rw [List.takeWhile_cons, z]; rfl
      · rw [List.dropWhile_cons, z]; rfl
  constructor
  · rw [List.takeWhile_append_of_pos hall, hb1.1, List.append_nil]
  · rw [List.dropWhile_append_of_pos hall, hb1.2]
theorem pow_head (e : Int) : ∀ c, (powT e).head? = some c → dig c = false := by
  unfold powT
  intro c hc
  split at hc
  · cases hc
  · split at hc
    · cases hc; decide
    · cases hc; decide
theorem len6 {n : Nat} (h : n ≤ 10000) : (numL n).length ≤ 6 := numL_len (by omega) (by omega)
/-- what is read behind the integer's signs -/
theorem read_of {t a : List Nat} {e : Int} (ha : t.takeWhile dig = a) (hb : t.dropWhile dig = powT e) (hl : a.length ≤ 70) (hn : a ≠ [] ∨ e ≠ 0) (he : e.natAbs ≤ 10000) :
    termRead t = some (e, if a = [] then 1 else ((dv a : Nat) : Int)) := by
  unfold termRead
  rw [ha, hb]
  have np : e ≠ 0 → powT e ≠ [] := fun h => by
    unfold powT
    rw [if_neg h]
    split <;> simp
  rw [if_neg (by
    rintro (z | ⟨z1, z2⟩)
    · omega
    · rcases hn with h | h
      · exact h z1
      · exact np h z2)]
  by_cases h0 : e = 0
  · subst h0
    rw [if_pos (.inl rfl)]
    rfl
  · by_cases h1 : e = 1
    · subst h1
      rw [if_pos (.inr rfl)]
      rfl
    · have ep : powT e = 120 :: 94 :: intT e := by
        unfold powT
        rw [if_neg h0, if_neg h1]
      rw [ep]
      rw [if_neg (by simp)]
      have d2 : (120 :: 94 :: intT e).drop 2 = intT e := rfl
      have d3 : (120 :: 94 :: intT e).drop 3 = (intT e).drop 1 := rfl
      have t2 : (120 :: 94 :: intT e).take 2 = [120, 94] := rfl
      rw [d2, d3, t2]
      unfold intT
      by_cases hs : e < 0
      · rw [if_pos hs]
        have e1 : (45 :: numL e.natAbs).take 1 = [45] := rfl
        have e2 : (45 :: numL e.natAbs).drop 1 = numL e.natAbs := rfl
        rw [if_pos e1, if_pos e1, e2]
        have l6 := len6 he
        rw [if_neg (by
          rintro (z | z | z)
          · exact z rfl
          · exact z ⟨numL_ne _, numL_all _⟩
          · omega), dv_num]
        congr 2
        omega
      · rw [if_neg hs]
        obtain ⟨d, m, hd, h3, h4⟩ := head_num (n := e.natAbs)
        have e1 : ¬ (numL e.natAbs).take 1 = [45] := by
          rw [hd]
          intro z
          simp at z
          omega
        rw [if_neg e1, if_neg e1]
        have l6 := len6 he
        rw [if_neg (by
          rintro (z | z | z)
          · exact z rfl
          · exact z ⟨numL_ne _, numL_all _⟩
          · omega), dv_num]
        congr 2
        omega
theorem term_read {e v : Int} (h0 : v ≠ 0) (he : e.natAbs ≤ 10000) (hv : v.natAbs < 10 ^ 60) : termRead (termT e v) = some (e, (v.natAbs : Int)) := by
  unfold termT
  by_cases h1 : v.natAbs = 1 ∧ e ≠ 0
  · rw [if_pos h1]
    have z : (powT e).takeWhile dig = [] ∧ (powT e).dropWhile dig = powT e := by
      cases hp : powT e with
      | nil => exact ⟨rfl, rfl⟩
      | cons c l =>
        have q := pow_head e c (by rw [hp]; rfl)
        constructor
        · rw [List.takeWhile_cons, q]; rfl
        · rw [List.dropWhile_cons, q]; rfl
    rw [read_of z.1 z.2 (by simp) (.inr h1.2) he, if_pos rfl, h1.1]
    rfl
  · rw [if_neg h1]
    have z := tw_num (n := v.natAbs) (pow_head e)
    have l := numL_len (n := v.natAbs) (k := 60) (by omega) hv
    rw [read_of z.1 z.2 (by omega) (.inl (numL_ne _)) he, if_neg (numL_ne _), dv_num]
theorem read_tail : ∀ (r d : Rw) (i : Nat) (s : Int), i % 2 = 1 → Asc (d ++ r) → (∀ p ∈ r, p.2 ≠ 0) → (∀ p ∈ r, p.1.natAbs ≤ 10000) → (∀ p ∈ r, p.2.natAbs < 10 ^ 60) → readFrom i s d (wl r) = some (d ++ r)
  | [], d, i, s, _, _, _, _, _ => by
    rw [List.append_nil]
    show readFrom i s d [] = some d
    rfl
  | p :: r, d, i, s, hi, ha, h0, he, hv => by
    have hd : ∀ q ∈ d, q.1 ≠ p.1 := fun q hq => by
      have := (List.pairwise_append.mp ha).2.2 q hq p (List.mem_cons_self ..)
      omega
    have p0 := h0 p (List.mem_cons_self ..)
    have ih := fun s => read_tail r (d ++ [p]) (i + 1 + 1) s (by omega) (by rw [List.append_assoc]; exact ha) (fun q m => h0 q (List.mem_cons_of_mem _ m)) (fun q m => he q (List.mem_cons_of_mem _ m)) (fun q m => hv q (List.mem_cons_of_mem _ m))
    show readFrom i s d (sgn p.2 :: termT p.1 p.2 :: wl r) = _
    rw [readFrom, if_pos hi, readFrom, if_neg (by omega)]
    have wo : wordOf (i + 1) (termT p.1 p.2) = termT p.1 p.2 := by
      unfold wordOf
      exact if_neg (by omega)
    rw [wo, term_read p0 (he p (List.mem_cons_self ..)) (hv p (List.mem_cons_self ..))]
    show readFrom (i + 1 + 1) _ (putI d p.1 ((if sgn p.2 = [43] then 1 else -1) * (p.2.natAbs : Int))) (wl r) = _
    have es : (if sgn p.2 = [43] then (1 : Int) else -1) * (p.2.natAbs : Int) = p.2 := by
      unfold sgn
      by_cases hs : p.2 < 0
      · rw [if_pos hs, if_neg (by simp)]
        omega
      · rw [if_neg hs, if_pos rfl]
        omega
    rw [es, put_new hd, ih, List.append_assoc]
    rfl
/-- THE LAW READS A ROW'S TEXT BACK -/
theorem read_rend {r : Rw} (h : Ok r) (hne : r ≠ []) : readAll (rend r) = some r := by
  cases r with
  | nil => exact absurd rfl hne
  | cons p r =>
    have p0 := h.ne0 p (List.mem_cons_self ..)
    have pe := h.ex p (List.mem_cons_self ..)
    have pv := h.num p (List.mem_cons_self ..)
    unfold readAll
    rw [words_rend, List.headD_cons, readFrom, if_neg (by decide)]
    have wo : wordOf 0 (sg1 p.2 ++ termT p.1 p.2) = termT p.1 p.2 := by
      unfold wordOf sg1
      by_cases hs : p.2 < 0
      · rw [if_pos hs, if_pos ⟨rfl, rfl⟩]
        rfl
      · rw [if_neg hs, List.nil_append, if_neg fun z => term_head p0 z.2]
    rw [wo, term_read p0 pe pv]
    show readFrom (0 + 1) _ (putI [] p.1 ((if (sg1 p.2 ++ termT p.1 p.2).take 1 = [45] then -1 else 1) * (p.2.natAbs : Int))) (wl r) = _
    have es : (if (sg1 p.2 ++ termT p.1 p.2).take 1 = [45] then (-1 : Int) else 1) * (p.2.natAbs : Int) = p.2 := by
      unfold sg1
      by_cases hs : p.2 < 0
      · rw [if_pos hs, if_pos (by rfl)]
        omega
      · rw [if_neg hs, List.nil_append, if_neg (term_head p0)]
        omega
    rw [es, put_new (by simp)]
    exact read_tail r [p] 1 _ (by decide) h.asc (fun q m => h.ne0 q (List.mem_cons_of_mem _ m)) (fun q m => h.ex q (List.mem_cons_of_mem _ m)) (fun q m => h.num q (List.mem_cons_of_mem _ m))
theorem read_zero : readAll [48] = some [(0, 0)] := by decide
end Wb

/-! Places in the text, names by slot, what the top leaves (printed by mkbase.py). -/
namespace Wb
open PySem PySem.Spec PyProof.Rows L2
def top (i : Nat) : Stmt := PySem.Challenge.pw_crosswebs_k01_whole_rows_and_texts.main.body.getD i (.Pass ⟨0, 0, 0, 0⟩)
abbrev s_is_integer : Stmt := top 4
theorem sc_is_integer : FnScope ["value"] ["value"] (defScope s_is_integer) := ⟨rfl, rfl, rfl, by decide +kernel, rfl, by decide +kernel, by decide +kernel⟩
abbrev s_is_power : Stmt := top 15
theorem sc_is_power : FnScope ["value"] ["value"] (defScope s_is_power) := ⟨rfl, rfl, rfl, by decide +kernel, rfl, by decide +kernel, by decide +kernel⟩
abbrev s_are_terms : Stmt := top 16
theorem sc_are_terms : FnScope ["value", "exponent", "factor"] ["value"] (defScope s_are_terms) := ⟨rfl, rfl, rfl, by decide +kernel, rfl, by decide +kernel, by decide +kernel⟩
abbrev s_power_text : Stmt := top 17
theorem sc_power_text : FnScope ["exponent"] ["exponent"] (defScope s_power_text) := ⟨rfl, rfl, rfl, by decide +kernel, rfl, by decide +kernel, by decide +kernel⟩
abbrev s_term_text : Stmt := top 18
theorem sc_term_text : FnScope ["exponent", "factor"] ["exponent", "factor"] (defScope s_term_text) := ⟨rfl, rfl, rfl, by decide +kernel, rfl, by decide +kernel, by decide +kernel⟩
abbrev s_terms_text : Stmt := top 19
theorem sc_terms_text : FnScope ["terms", "text", "exponent", "factor", "sign", "ahead"] ["terms"] (defScope s_terms_text) := ⟨rfl, rfl, rfl, by decide +kernel, rfl, by decide +kernel, by decide +kernel⟩
abbrev s_are_figures : Stmt := top 20
theorem sc_are_figures : FnScope ["text", "sign"] ["text"] (defScope s_are_figures) := ⟨rfl, rfl, rfl, by decide +kernel, rfl, by decide +kernel, by decide +kernel⟩
abbrev s_exponent_told : Stmt := top 21
theorem sc_exponent_told : FnScope ["text", "figures"] ["text"] (defScope s_exponent_told) := ⟨rfl, rfl, rfl, by decide +kernel, rfl, by decide +kernel, by decide +kernel⟩
abbrev s_term_told : Stmt := top 22
theorem sc_term_told : FnScope ["text", "ahead", "letter", "behind", "exponent"] ["text"] (defScope s_term_told) := ⟨rfl, rfl, rfl, by decide +kernel, rfl, by decide +kernel, by decide +kernel⟩
abbrev s_signed_terms : Stmt := top 23
theorem sc_signed_terms : FnScope ["text", "words", "first"] ["text"] (defScope s_signed_terms) := ⟨rfl, rfl, rfl, by decide +kernel, rfl, by decide +kernel, by decide +kernel⟩
abbrev s_terms_told : Stmt := top 24
theorem sc_terms_told : FnScope ["text", "pairs", "found", "sign", "term", "told"] ["text"] (defScope s_terms_told) := ⟨rfl, rfl, rfl, by decide +kernel, rfl, by decide +kernel, by decide +kernel⟩
abbrev s_sorted_terms : Stmt := top 25
theorem sc_sorted_terms : FnScope ["terms", "found", "exponent"] ["terms"] (defScope s_sorted_terms) := ⟨rfl, rfl, rfl, by decide +kernel, rfl, by decide +kernel, by decide +kernel⟩
abbrev s_Row___init__ : Stmt := inClass (top 29) 1
theorem sc_Row___init__ : FnScope ["self", "terms", "is_known"] ["self", "terms", "is_known"] (defScope s_Row___init__) := ⟨rfl, rfl, rfl, by decide +kernel, rfl, by decide +kernel, by decide +kernel⟩
abbrev s_Row_power : Stmt := inClass (top 29) 2
theorem sc_Row_power : FnScope ["cls", "exponent", "many"] ["cls", "exponent", "many"] (defScope s_Row_power) := ⟨rfl, rfl, rfl, by decide +kernel, rfl, by decide +kernel, by decide +kernel⟩
abbrev s_Row_none : Stmt := inClass (top 29) 3
theorem sc_Row_none : FnScope ["cls"] ["cls"] (defScope s_Row_none) := ⟨rfl, rfl, rfl, by decide +kernel, rfl, by decide +kernel, by decide +kernel⟩
abbrev s_Row_of_text : Stmt := inClass (top 29) 4
theorem sc_Row_of_text : FnScope ["cls", "text", "found"] ["cls", "text"] (defScope s_Row_of_text) := ⟨rfl, rfl, rfl, by decide +kernel, rfl, by decide +kernel, by decide +kernel⟩
abbrev s_Row_terms : Stmt := inClass (top 29) 5
theorem sc_Row_terms : FnScope ["self"] ["self"] (defScope s_Row_terms) := ⟨rfl, rfl, rfl, by decide +kernel, rfl, by decide +kernel, by decide +kernel⟩
abbrev s_Row_low : Stmt := inClass (top 29) 6
theorem sc_Row_low : FnScope ["self"] ["self"] (defScope s_Row_low) := ⟨rfl, rfl, rfl, by decide +kernel, rfl, by decide +kernel, by decide +kernel⟩
abbrev s_Row_high : Stmt := inClass (top 29) 7
theorem sc_Row_high : FnScope ["self"] ["self"] (defScope s_Row_high) := ⟨rfl, rfl, rfl, by decide +kernel, rfl, by decide +kernel, by decide +kernel⟩
abbrev s_Row_span : Stmt := inClass (top 29) 8
theorem sc_Row_span : FnScope ["self"] ["self"] (defScope s_Row_span) := ⟨rfl, rfl, rfl, by decide +kernel, rfl, by decide +kernel, by decide +kernel⟩
abbrev s_Row___getitem__ : Stmt := inClass (top 29) 14
theorem sc_Row___getitem__ : FnScope ["self", "exponent"] ["self", "exponent"] (defScope s_Row___getitem__) := ⟨rfl, rfl, rfl, by decide +kernel, rfl, by decide +kernel, by decide +kernel⟩
abbrev s_Row___contains__ : Stmt := inClass (top 29) 20
theorem sc_Row___contains__ : FnScope ["self", "value"] ["self", "value"] (defScope s_Row___contains__) := ⟨rfl, rfl, rfl, by decide +kernel, rfl, by decide +kernel, by decide +kernel⟩
abbrev s_Row___len__ : Stmt := inClass (top 29) 21
theorem sc_Row___len__ : FnScope ["self"] ["self"] (defScope s_Row___len__) := ⟨rfl, rfl, rfl, by decide +kernel, rfl, by decide +kernel, by decide +kernel⟩
abbrev s_Row___iter__ : Stmt := inClass (top 29) 22
theorem sc_Row___iter__ : FnScope ["self"] ["self"] (defScope s_Row___iter__) := ⟨rfl, rfl, rfl, by decide +kernel, rfl, by decide +kernel, by decide +kernel⟩
abbrev s_Row___eq__ : Stmt := inClass (top 29) 23
theorem sc_Row___eq__ : FnScope ["self", "value"] ["self", "value"] (defScope s_Row___eq__) := ⟨rfl, rfl, rfl, by decide +kernel, rfl, by decide +kernel, by decide +kernel⟩
abbrev s_Row___str__ : Stmt := inClass (top 29) 24
theorem sc_Row___str__ : FnScope ["self"] ["self"] (defScope s_Row___str__) := ⟨rfl, rfl, rfl, by decide +kernel, rfl, by decide +kernel, by decide +kernel⟩
abbrev s_law_dice : Stmt := top 31
theorem sc_law_dice : FnScope ["_law_script", "_law_spot", "_law_cell", "_law_left"] ["_law_script", "_law_spot"] (defScope s_law_dice) := ⟨rfl, rfl, rfl, by decide +kernel, rfl, by decide +kernel, by decide +kernel⟩
abbrev s_law_roll : Stmt := top 32
theorem sc_law_roll : FnScope ["_law_dice_here", "_law_total", "_law_found", "_law_one", "_law_two"] ["_law_dice_here", "_law_total"] (defScope s_law_roll) := ⟨rfl, rfl, rfl, by decide +kernel, rfl, by decide +kernel, by decide +kernel⟩
abbrev s_law_pick : Stmt := top 33
theorem sc_law_pick : FnScope ["_law_dice_here", "_law_items"] ["_law_dice_here", "_law_items"] (defScope s_law_pick) := ⟨rfl, rfl, rfl, by decide +kernel, rfl, by decide +kernel, by decide +kernel⟩
abbrev s_law_row : Stmt := top 34
theorem sc_law_row : FnScope ["_law_terms", "_law_exponent"] ["_law_terms"] (defScope s_law_row) := ⟨rfl, rfl, rfl, by decide +kernel, rfl, by decide +kernel, by decide +kernel⟩
abbrev s_law_added : Stmt := top 35
theorem sc_law_added : FnScope ["_law_one", "_law_other", "_law_times", "_law_found", "_law_exponent"] ["_law_one", "_law_other", "_law_times"] (defScope s_law_added) := ⟨rfl, rfl, rfl, by decide +kernel, rfl, by decide +kernel, by decide +kernel⟩
abbrev s_law_is_row : Stmt := top 36
theorem sc_law_is_row : FnScope ["_law_told", "_law_terms"] ["_law_told", "_law_terms"] (defScope s_law_is_row) := ⟨rfl, rfl, rfl, by decide +kernel, rfl, by decide +kernel, by decide +kernel⟩
abbrev s_law_drawn_row : Stmt := top 37
theorem sc_law_drawn_row : FnScope ["_law_dice_here", "_law_terms", "_law_most", "_law_found", "_law_turn", "_law_number"] ["_law_dice_here", "_law_terms", "_law_most"] (defScope s_law_drawn_row) := ⟨rfl, rfl, rfl, by decide +kernel, rfl, by decide +kernel, by decide +kernel⟩
abbrev s_law_row_text : Stmt := top 38
theorem sc_law_row_text : FnScope ["_law_terms", "_law_found", "_law_exponent", "_law_number", "_law_power", "_law_shown", "_law_lead"] ["_law_terms"] (defScope s_law_row_text) := ⟨rfl, rfl, rfl, by decide +kernel, rfl, by decide +kernel, by decide +kernel⟩
abbrev s_law_term_read : Stmt := top 39
theorem sc_law_term_read : FnScope ["_law_text", "_law_cut", "_law_number", "_law_rest", "_law_many", "_law_digits", "_law_at", "_law_sign"] ["_law_text"] (defScope s_law_term_read) := ⟨rfl, rfl, rfl, by decide +kernel, rfl, by decide +kernel, by decide +kernel⟩
abbrev s_law_text_read : Stmt := top 40
theorem sc_law_text_read : FnScope ["_law_text", "_law_words", "_law_found", "_law_sign", "_law_at", "_law_word", "_law_term", "_law_terms", "_law_great", "_law_one"] ["_law_text"] (defScope s_law_text_read) := ⟨rfl, rfl, rfl, by decide +kernel, rfl, by decide +kernel, by decide +kernel⟩
abbrev s_law_of_text : Stmt := top 41
theorem sc_law_of_text : FnScope ["_law_text", "e"] ["_law_text"] (defScope s_law_of_text) := ⟨rfl, rfl, rfl, by decide +kernel, rfl, by decide +kernel, by decide +kernel⟩
abbrev s_law_bent : Stmt := top 42
theorem sc_law_bent : FnScope ["_law_dice_here", "_law_text", "_law_at", "_law_way", "_law_sign"] ["_law_dice_here", "_law_text"] (defScope s_law_bent) := ⟨rfl, rfl, rfl, by decide +kernel, rfl, by decide +kernel, by decide +kernel⟩
abbrev s_law_told_right : Stmt := top 43
theorem sc_law_told_right : FnScope ["_law_dice_here", "_law_terms", "_law_row_here", "_law_exponents", "_law_low", "_law_high", "_law_span", "_law_some", "_law_odd", "_law_other", "_law_one", "_law_value"] ["_law_dice_here", "_law_terms", "_law_row_here"] (defScope s_law_told_right) := ⟨rfl, rfl, rfl, by decide +kernel, rfl, by decide +kernel, by decide +kernel⟩
abbrev s_law_texts_right : Stmt := top 44
theorem sc_law_texts_right : FnScope ["_law_dice_here", "_law_terms", "_law_row_here", "_law_text", "_law_turn", "_law_bent_here", "_law_due", "_law_told"] ["_law_dice_here", "_law_terms", "_law_row_here"] (defScope s_law_texts_right) := ⟨rfl, rfl, rfl, by decide +kernel, rfl, by decide +kernel, by decide +kernel⟩
abbrev s_law : Stmt := top 45
theorem sc_law : FnScope ["_law_script", "_law_spot", "_law_dice_here", "_law_most", "_law_terms", "_law_odd", "_law_told", "_law_value"] ["_law_script"] (defScope s_law) := ⟨rfl, rfl, rfl, by decide +kernel, rfl, by decide +kernel, by decide +kernel⟩
/-- addresses -/
structure Ad where
  is_integer : Addr
  is_power : Addr
  are_terms : Addr
  power_text : Addr
  term_text : Addr
  terms_text : Addr
  are_figures : Addr
  exponent_told : Addr
  term_told : Addr
  signed_terms : Addr
  terms_told : Addr
  sorted_terms : Addr
  _law_dice : Addr
  _law_roll : Addr
  _law_pick : Addr
  _law_row : Addr
  _law_added : Addr
  _law_is_row : Addr
  _law_drawn_row : Addr
  _law_row_text : Addr
  _law_term_read : Addr
  _law_text_read : Addr
  _law_of_text : Addr
  _law_bent : Addr
  _law_told_right : Addr
  _law_texts_right : Addr
  law : Addr
  R_init : Addr
  R_power : Addr
  R_none : Addr
  R_of_text : Addr
  R_terms : Addr
  R_low : Addr
  R_high : Addr
  R_span : Addr
  R_getitem : Addr
  R_contains : Addr
  R_len : Addr
  R_iter : Addr
  R_eq : Addr
  R_str : Addr
  p_terms : Addr
  p_low : Addr
  p_high : Addr
  p_span : Addr
  p_power : Addr
  p_none : Addr
  p_of_text : Addr
  p_own : Addr
  Row : Addr
  PErr : Addr
  PErr_init : Addr
/-- what the top leaves -/
structure Txt (K : PySem.W.Frag) (mg : Str → Option Value) (A : Ad) : Prop where
  f_isinstance : mg "isinstance" = none
  f_abs : mg "abs" = none
  f_len : mg "len" = none
  f_all : mg "all" = none
  f_any : mg "any" = none
  f_int : mg "int" = none
  f_bool : mg "bool" = none
  f_dict : mg "dict" = none
  f_str : mg "str" = none
  f_list : mg "list" = none
  f_zip : mg "zip" = none
  f_sorted : mg "sorted" = none
  f_min : mg "min" = none
  f_max : mg "max" = none
  f_iter : mg "iter" = none
  f_repr : mg "repr" = none
  f_range : mg "range" = none
  f_enumerate : mg "enumerate" = none
  v_BOUND : ∃ u, mg "BOUND" = some u ∧ RelV (.int (10 ^ 60)) u
  v_MAX_POWER : ∃ u, mg "MAX_POWER" = some u ∧ RelV (.int 10000) u
  v_MAX_FIGURES : ∃ u, mg "MAX_FIGURES" = some u ∧ RelV (.int 60) u
  v_LETTER : ∃ u, mg "LETTER" = some u ∧ RelV (.str "x") u
  v_FIGURES : ∃ u, mg "FIGURES" = some u ∧ RelV (.str "0123456789") u
  v_Row : ∃ u, mg "Row" = some u ∧ RelV (.ref A.Row) u
  g_is_integer : mg "is_integer" = some (.ref A.is_integer)
  k_is_integer : PySem.W.keepIn K (.ref A.is_integer) = true
  d_is_integer : ∃ fd, Fun K "is_integer" "is_integer" s_is_integer A.is_integer fd
  g_is_power : mg "is_power" = some (.ref A.is_power)
  k_is_power : PySem.W.keepIn K (.ref A.is_power) = true
  d_is_power : ∃ fd, Fun K "is_power" "is_power" s_is_power A.is_power fd
  g_are_terms : mg "are_terms" = some (.ref A.are_terms)
  k_are_terms : PySem.W.keepIn K (.ref A.are_terms) = true
  d_are_terms : ∃ fd, Fun K "are_terms" "are_terms" s_are_terms A.are_terms fd
  g_power_text : mg "power_text" = some (.ref A.power_text)
  k_power_text : PySem.W.keepIn K (.ref A.power_text) = true
  d_power_text : ∃ fd, Fun K "power_text" "power_text" s_power_text A.power_text fd
  g_term_text : mg "term_text" = some (.ref A.term_text)
  k_term_text : PySem.W.keepIn K (.ref A.term_text) = true
  d_term_text : ∃ fd, Fun K "term_text" "term_text" s_term_text A.term_text fd
  g_terms_text : mg "terms_text" = some (.ref A.terms_text)
  k_terms_text : PySem.W.keepIn K (.ref A.terms_text) = true
  d_terms_text : ∃ fd, Fun K "terms_text" "terms_text" s_terms_text A.terms_text fd
  g_are_figures : mg "are_figures" = some (.ref A.are_figures)
  k_are_figures : PySem.W.keepIn K (.ref A.are_figures) = true
  d_are_figures : ∃ fd, Fun K "are_figures" "are_figures" s_are_figures A.are_figures fd
  g_exponent_told : mg "exponent_told" = some (.ref A.exponent_told)
  k_exponent_told : PySem.W.keepIn K (.ref A.exponent_told) = true
  d_exponent_told : ∃ fd, Fun K "exponent_told" "exponent_told" s_exponent_told A.exponent_told fd
  g_term_told : mg "term_told" = some (.ref A.term_told)
  k_term_told : PySem.W.keepIn K (.ref A.term_told) = true
  d_term_told : ∃ fd, Fun K "term_told" "term_told" s_term_told A.term_told fd
  g_signed_terms : mg "signed_terms" = some (.ref A.signed_terms)
  k_signed_terms : PySem.W.keepIn K (.ref A.signed_terms) = true
  d_signed_terms : ∃ fd, Fun K "signed_terms" "signed_terms" s_signed_terms A.signed_terms fd
  g_terms_told : mg "terms_told" = some (.ref A.terms_told)
  k_terms_told : PySem.W.keepIn K (.ref A.terms_told) = true
  d_terms_told : ∃ fd, Fun K "terms_told" "terms_told" s_terms_told A.terms_told fd
  g_sorted_terms : mg "sorted_terms" = some (.ref A.sorted_terms)
  k_sorted_terms : PySem.W.keepIn K (.ref A.sorted_terms) = true
  d_sorted_terms : ∃ fd, Fun K "sorted_terms" "sorted_terms" s_sorted_terms A.sorted_terms fd
  g__law_dice : mg "_law_dice" = some (.ref A._law_dice)
  k__law_dice : PySem.W.keepIn K (.ref A._law_dice) = true
  d__law_dice : ∃ fd, Fun K "_law_dice" "_law_dice" s_law_dice A._law_dice fd
  g__law_roll : mg "_law_roll" = some (.ref A._law_roll)
  k__law_roll : PySem.W.keepIn K (.ref A._law_roll) = true
  d__law_roll : ∃ fd, Fun K "_law_roll" "_law_roll" s_law_roll A._law_roll fd
  g__law_pick : mg "_law_pick" = some (.ref A._law_pick)
  k__law_pick : PySem.W.keepIn K (.ref A._law_pick) = true
  d__law_pick : ∃ fd, Fun K "_law_pick" "_law_pick" s_law_pick A._law_pick fd
  g__law_row : mg "_law_row" = some (.ref A._law_row)
  k__law_row : PySem.W.keepIn K (.ref A._law_row) = true
  d__law_row : ∃ fd, Fun K "_law_row" "_law_row" s_law_row A._law_row fd
  g__law_added : mg "_law_added" = some (.ref A._law_added)
  k__law_added : PySem.W.keepIn K (.ref A._law_added) = true
  d__law_added : ∃ fd, Fun K "_law_added" "_law_added" s_law_added A._law_added fd
  g__law_is_row : mg "_law_is_row" = some (.ref A._law_is_row)
  k__law_is_row : PySem.W.keepIn K (.ref A._law_is_row) = true
  d__law_is_row : ∃ fd, Fun K "_law_is_row" "_law_is_row" s_law_is_row A._law_is_row fd
  g__law_drawn_row : mg "_law_drawn_row" = some (.ref A._law_drawn_row)
  k__law_drawn_row : PySem.W.keepIn K (.ref A._law_drawn_row) = true
  d__law_drawn_row : ∃ fd, Fun K "_law_drawn_row" "_law_drawn_row" s_law_drawn_row A._law_drawn_row fd
  g__law_row_text : mg "_law_row_text" = some (.ref A._law_row_text)
  k__law_row_text : PySem.W.keepIn K (.ref A._law_row_text) = true
  d__law_row_text : ∃ fd, Fun K "_law_row_text" "_law_row_text" s_law_row_text A._law_row_text fd
  g__law_term_read : mg "_law_term_read" = some (.ref A._law_term_read)
  k__law_term_read : PySem.W.keepIn K (.ref A._law_term_read) = true
  d__law_term_read : ∃ fd, Fun K "_law_term_read" "_law_term_read" s_law_term_read A._law_term_read fd
  g__law_text_read : mg "_law_text_read" = some (.ref A._law_text_read)
  k__law_text_read : PySem.W.keepIn K (.ref A._law_text_read) = true
  d__law_text_read : ∃ fd, Fun K "_law_text_read" "_law_text_read" s_law_text_read A._law_text_read fd
  g__law_of_text : mg "_law_of_text" = some (.ref A._law_of_text)
  k__law_of_text : PySem.W.keepIn K (.ref A._law_of_text) = true
  d__law_of_text : ∃ fd, Fun K "_law_of_text" "_law_of_text" s_law_of_text A._law_of_text fd
  g__law_bent : mg "_law_bent" = some (.ref A._law_bent)
  k__law_bent : PySem.W.keepIn K (.ref A._law_bent) = true
  d__law_bent : ∃ fd, Fun K "_law_bent" "_law_bent" s_law_bent A._law_bent fd
  g__law_told_right : mg "_law_told_right" = some (.ref A._law_told_right)
  k__law_told_right : PySem.W.keepIn K (.ref A._law_told_right) = true
  d__law_told_right : ∃ fd, Fun K "_law_told_right" "_law_told_right" s_law_told_right A._law_told_right fd
  g__law_texts_right : mg "_law_texts_right" = some (.ref A._law_texts_right)
  k__law_texts_right : PySem.W.keepIn K (.ref A._law_texts_right) = true
  d__law_texts_right : ∃ fd, Fun K "_law_texts_right" "_law_texts_right" s_law_texts_right A._law_texts_right fd
  g_law : mg "law" = some (.ref A.law)
  k_law : PySem.W.keepIn K (.ref A.law) = true
  d_law : ∃ fd, Fun K "law" "law" s_law A.law fd
  d_R_init : ∃ fd, FunD K "__init__" "Row.__init__" (defArgs s_Row___init__) (defBody s_Row___init__) (defScope s_Row___init__) [] [("is_known", .bl false)] A.R_init fd
  d_R_power : ∃ fd, FunD K "power" "Row.power" (defArgs s_Row_power) (defBody s_Row_power) (defScope s_Row_power) [] [("many", .int 1)] A.R_power fd
  d_R_none : ∃ fd, Fun K "none" "Row.none" s_Row_none A.R_none fd
  d_R_of_text : ∃ fd, Fun K "of_text" "Row.of_text" s_Row_of_text A.R_of_text fd
  d_R_terms : ∃ fd, Fun K "terms" "Row.terms" s_Row_terms A.R_terms fd
  d_R_low : ∃ fd, Fun K "low" "Row.low" s_Row_low A.R_low fd
  d_R_high : ∃ fd, Fun K "high" "Row.high" s_Row_high A.R_high fd
  d_R_span : ∃ fd, Fun K "span" "Row.span" s_Row_span A.R_span fd
  d_R_getitem : ∃ fd, Fun K "__getitem__" "Row.__getitem__" s_Row___getitem__ A.R_getitem fd
  d_R_contains : ∃ fd, Fun K "__contains__" "Row.__contains__" s_Row___contains__ A.R_contains fd
  d_R_len : ∃ fd, Fun K "__len__" "Row.__len__" s_Row___len__ A.R_len fd
  d_R_iter : ∃ fd, Fun K "__iter__" "Row.__iter__" s_Row___iter__ A.R_iter fd
  d_R_eq : ∃ fd, Fun K "__eq__" "Row.__eq__" s_Row___eq__ A.R_eq fd
  d_R_str : ∃ fd, Fun K "__str__" "Row.__str__" s_Row___str__ A.R_str fd
  a_terms : PySem.W.findIn K (.ref A.Row) "terms" = some (some (.ref A.p_terms))
  b_terms : PySem.W.specialIn K (.ref A.p_terms) "__get__" = some (some (.builtin "property.__get__"))
  t_terms : PySem.W.takesIn K (.ref A.p_terms) = some true
  r_terms : ∃ rest, PySem.W.recIn K A.p_terms "property" = some (.ref A.R_terms :: rest)
  a_low : PySem.W.findIn K (.ref A.Row) "low" = some (some (.ref A.p_low))
  b_low : PySem.W.specialIn K (.ref A.p_low) "__get__" = some (some (.builtin "property.__get__"))
  t_low : PySem.W.takesIn K (.ref A.p_low) = some true
  r_low : ∃ rest, PySem.W.recIn K A.p_low "property" = some (.ref A.R_low :: rest)
  a_high : PySem.W.findIn K (.ref A.Row) "high" = some (some (.ref A.p_high))
  b_high : PySem.W.specialIn K (.ref A.p_high) "__get__" = some (some (.builtin "property.__get__"))
  t_high : PySem.W.takesIn K (.ref A.p_high) = some true
  r_high : ∃ rest, PySem.W.recIn K A.p_high "property" = some (.ref A.R_high :: rest)
  a_span : PySem.W.findIn K (.ref A.Row) "span" = some (some (.ref A.p_span))
  b_span : PySem.W.specialIn K (.ref A.p_span) "__get__" = some (some (.builtin "property.__get__"))
  t_span : PySem.W.takesIn K (.ref A.p_span) = some true
  r_span : ∃ rest, PySem.W.recIn K A.p_span "property" = some (.ref A.R_span :: rest)
  c_power : ClX.CMet K A.Row (.type "type") "power" A.p_power A.R_power
  c_none : ClX.CMet K A.Row (.type "type") "none" A.p_none A.R_none
  c_of_text : ClX.CMet K A.Row (.type "type") "of_text" A.p_of_text A.R_of_text
  m_len : PySem.W.findIn K (.ref A.Row) "__len__" = some (some (.ref A.R_len))
  i_len : PySem.W.isFn K (.ref A.R_len) = true
  m_getitem : PySem.W.findIn K (.ref A.Row) "__getitem__" = some (some (.ref A.R_getitem))
  i_getitem : PySem.W.isFn K (.ref A.R_getitem) = true
  m_contains : PySem.W.findIn K (.ref A.Row) "__contains__" = some (some (.ref A.R_contains))
  i_contains : PySem.W.isFn K (.ref A.R_contains) = true
  m_iter : PySem.W.findIn K (.ref A.Row) "__iter__" = some (some (.ref A.R_iter))
  i_iter : PySem.W.isFn K (.ref A.R_iter) = true
  m_str : PySem.W.findIn K (.ref A.Row) "__str__" = some (some (.ref A.R_str))
  i_str : PySem.W.isFn K (.ref A.R_str) = true
  m_eq : PySem.W.findIn K (.ref A.Row) "__eq__" = some (some (.ref A.R_eq))
  i_eq : PySem.W.isFn K (.ref A.R_eq) = true
  cread : ClX.CRead K A.Row (.type "type")
  scls : SlX.SCls K A.Row
  sisi : SlX.SIsi K A.Row
  slot : SlX.Slot1 K A.Row "own_terms" A.p_own 0
  made : Mk K A.Row A.R_init
  rowrow : PySem.W.kitOne K (.ref A.Row) (.ref A.Row) = some true
  noseq : PySem.W.noSeq K A.Row = true
  notf : PySem.W.notFirst K A.Row (.ref A.Row) = true
  mne : PySem.W.findIn K (.ref A.Row) "__ne__" = some (some (.builtin "object.__ne__"))
  rowint : PySem.W.kitOne K (.ref A.Row) (.type "int") = some false
  dictrow : PySem.W.kitOne K (.type "dict") (.ref A.Row) = some false
  strrow : PySem.W.kitOne K (.type "str") (.ref A.Row) = some false
  notf_dict : PySem.W.notFirst K A.Row (.type "dict") = true
  notf_str : PySem.W.notFirst K A.Row (.type "str") = true
  fi_getitem : PySem.W.fnIn K A.R_getitem = true
end Wb

/-! Rules that the layer lacks, 1: defs by positional promises; len, str, in, [], ==, != of an instance with slots whose class says them. -/
namespace Wb
open PySem PySem.Spec PyProof.Rows L2

theorem fnr {P : Program} {w : World} {K : PySem.W.Frag} {mg : Str → Option Value} {base : Heap} {x qual : Str} {st : Stmt} {f : Addr} {N ps : List Str} {k : Nat} {sp : Sp} (F : ∃ fd, Fun K x qual st f fd) (S : FnScope N ps (defScope st))
    (hb : ∀ (kV doc pm : Value) (an : Option Addr) (cdv ct : Value) (us : List Value), us.length = ps.length → bindArgs (PySem.W.fnOf x qual (defArgs st) (defBody st) (defScope st) .none kV doc pm an cdv ct) ⟨us, []⟩ = pure (ps.zip us))
    (len : ∀ vs H Q E, sp vs H Q E → vs.length = ps.length)
    (hbody : ∀ (fd : FuncData) (cdv : Value) (A : Around) (outer : List Env) (s : Shared) (H : Hp) (vs : List V) (Q : VK) (E : XK), Room k (A.deeper (envOfC qual (defScope st) s.heap.objs.size f cdv)) → sp vs H Q E →
      ∃ t, PSs (cxOf CX0 P w K mg base N qual (defScope st) f cdv A outer s H E).nox (defBody st) t ∧ t { nx := fun _ H' => Q .non H', rt := Q } (start N vs) H) : FnR P w K mg base CX0 (k + 1) f sp := by
  obtain ⟨fd, F⟩ := F
  exact ((F.ok S len (hbody fd)).raw (F.binds hb) .nil).imp fun vs H Q E h => by rw [List.append_nil]; exact h
/-- f(e, ..), f a def of the module -/
def tF (sp : Sp) (t : TA) : TE := fun σ H Q => t σ H fun vs H1 => sp vs H1 Q E0
section
variable {X : Cx} {k j : Nat} {f : Addr} {sp : Sp} {x : Str} {p pos : Pos} {e : Expr} {es : List Expr} {t : TA}
theorem pe_f (F : FnR X.prog X.w X.K X.mg X.base CX0 k f sp) (hr : Room j X.A) (hk : k ≤ j) (hg : Gl X x) (hm : X.mg x = some (.ref f)) (hkp : PySem.W.keepIn X.K (.ref f) = true) (ha : PA X (e :: es) t)
    (hdb : (x == ("__debug__" : Str)) = false := by decide) (he : starEach (e :: es) X.env = (false, eval e X.env) :: starEach es X.env := by rfl) (hpl : (backTo pos (starEach es X.env)).any (·.1) = false := by rfl) :
    PE X (.Call (.Name x p) (e :: es) [] pos) (tF sp t) := by
  refine ⟨fun pins s σ H Q I h => ?_⟩
  refine Call_ (ld_glob I hg hm ?_ hdb)
  refine PySem.W.callWith_K (h₀ := X.base) I.ok.mod.kin hkp (thn (ha.run pos pins s σ H _ I h) fun us s1 ⟨vs, H1, I1, r, q⟩ => ⟨I1.kIn, ?_⟩) he hpl
  exact wpAny_call (run_fnR F (hr.mono hk) pass0 I1 r q)
end

/-! ### an instance with slots -/
section
variable {X : Cx} {n : Nat} {C g : Addr} {sp : Sp}
/-- len(x) -/
def rLenO (C : Addr) (sp : Sp) : List V → Hp → VK → Prop := fun xs H Q => ∃ a dx vs, xs = [V.ref a] ∧ SlX.Slt H a C dx vs ∧ sp [.ref a] H (fun z H' => ∃ i : Int, z = .int i ∧ 0 ≤ i ∧ i < 2 ^ 63 ∧ Q (.int i) H') E0
theorem call_lenO (hs : PySem.W.findIn X.K (.ref C) "__len__" = some (some (.ref g))) (hf : PySem.W.isFn X.K (.ref g) = true) (F : FnR X.prog X.w X.K X.mg X.base CX0 n g sp) (hr : Room (n + 1) X.A) : CallR X (.builtin "len") (rLenO C sp) := by
  intro pins s σ H xs us Q I r h
  obtain ⟨a, dx, vs, rfl, hsl, q⟩ := h
  obtain ⟨u, rfl, ru⟩ := r.one
  cases (show u = Value.ref a from ru)
  obtain ⟨sl, od, _, J, _⟩ := SlX.slt_inst I hsl
  obtain ⟨m, fr⟩ := I.fr
  refine PySem.W.len_K fr I.ok.mod.kin J hs hf (wpAny_mono (wpAny_call (SlX.run_at (us := [.ref a]) (ws := [.ref a]) F hr.in1 I.env0.in1 pass0 I (.cons rfl .nil) q)) (fun w s' z => ?_) fun _ _ x => x)
  obtain ⟨z', H', I', rz, i, ei, h0, h1, qz⟩ := z
  subst ei
  obtain ⟨t, rfl⟩ := rz
  exact ⟨⟨h0, h1⟩, .int i, H', I'.tok _, ⟨_, rfl⟩, qz⟩
/-- str(x) -/
def rStrO (C : Addr) (sp : Sp) : List V → Hp → VK → Prop := fun xs H Q => ∃ a dx vs, xs = [V.ref a] ∧ SlX.Slt H a C dx vs ∧ sp [.ref a] H (fun z H' => ∃ y, z = .str y ∧ Q (.str y) H') E0
theorem call_strO (hs : PySem.W.findIn X.K (.ref C) "__str__" = some (some (.ref g))) (hf : PySem.W.isFn X.K (.ref g) = true) (F : FnR X.prog X.w X.K X.mg X.base CX0 n g sp) (hr : Room (n + 2) X.A) : CallR X (.type "str") (rStrO C sp) := by
  intro pins s σ H xs us Q I r h
  obtain ⟨a, dx, vs, rfl, hsl, q⟩ := h
  obtain ⟨u, rfl, ru⟩ := r.one
  cases (show u = Value.ref a from ru)
  obtain ⟨sl, od, _, J, _⟩ := SlX.slt_inst I hsl
  have hr2 : Room n X.A.in1.in1 := (show Room (n + 1) X.A.in1 from Room.in1 hr).in1
  refine PySem.W.kso_call hr2.units0 I.kIn J hs hf (wpAny_mono (wpAny_call (SlX.run_at (us := [.ref a]) (ws := [.ref a]) F hr2 I.env0.in1.in1 pass0 I (.cons rfl .nil) q)) (fun w s' z => ?_) fun _ _ x => x)
  obtain ⟨z', H', I', rz, y, ey, qz⟩ := z
  subst ey
  obtain ⟨t, rfl⟩ := rz
  exact ⟨.str y, H', I', ⟨_, rfl⟩, qz⟩
/-- v in x -/
def rInO (C : Addr) (sp : Sp) : R2 := fun v x H Q => ∃ a dx vs, x = .ref a ∧ SlX.Slt H a C dx vs ∧ sp [.ref a, v] H (fun z H' => ∃ b, z = .bl b ∧ Q (.bl b) H') E0
theorem op_inO (hs : PySem.W.findIn X.K (.ref C) "__contains__" = some (some (.ref g))) (hf : PySem.W.isFn X.K (.ref g) = true) (F : FnR X.prog X.w X.K X.mg X.base CX0 n g sp) (hr : Room n X.A) : OpR X (compareOp .In) (rInO C sp) := by
  intro pins s σ H x y v u Q I rx ry h
  obtain ⟨a, dx, vs, rfl, hsl, q⟩ := h
  cases (show u = Value.ref a from ry)
  obtain ⟨sl, od, _, J, _⟩ := SlX.slt_inst I hsl
  obtain ⟨m, fr⟩ := I.fr
  refine PySem.W.in_K fr I.ok.mod.kin J hs hf (wpAny_mono (wpAny_call (run_fnR (us := [.ref a, v]) (vs := [.ref a, x]) F hr pass0 I (.cons rfl (.cons rx .nil)) q)) (fun w s' z => ?_) fun _ _ x => x)
  obtain ⟨z', H', I', rz, b, eb, qz⟩ := z
  subst eb
  cases (show w = Value.bool b from rz)
  exact wpAny_truthy_bool ⟨.bl b, H', I', rfl, qz⟩
/-- x[v] -/
def tItemO (C : Addr) (sp : Sp) (ta tb : TE) : TE := fun σ H Q => ta σ H fun x H1 => tb σ H1 fun v H2 => ∃ a dx vs, x = .ref a ∧ SlX.Slt H2 a C dx vs ∧ sp [.ref a, v] H2 Q E0
theorem pe_itemO {a b : Expr} {ta tb : TE} {pos : Pos} (hs : PySem.W.findIn X.K (.ref C) "__getitem__" = some (some (.ref g))) (hf : PySem.W.isFn X.K (.ref g) = true) (hfi : PySem.W.fnIn X.K g = true) (F : FnR X.prog X.w X.K X.mg X.base CX0 n g sp) (hr : Room (n + 1) X.A)
    (ha : PE X a ta) (hb : PE X b tb) (hsl : ∀ o i, subscripted b true o i = runValue (.builtin "lifetime.subscript" ⟨[o, i], []⟩) := by intro _ _; with_unfolding_all rfl) : PE X (.Subscript a b pos) (tItemO C sp ta tb) := by
  refine ⟨fun pins s σ H Q I h => ?_⟩
  refine Subscript_ (binT ha hb I h fun v u s2 x y H2 I2 rx ry q => ?_)
  obtain ⟨p, dx, vs, ex, hslt, q⟩ := q
  subst ex
  cases (show v = Value.ref p from rx)
  obtain ⟨sl, od, _, J, _⟩ := SlX.slt_inst I2 hslt
  obtain ⟨m, fr⟩ := I2.fr
  refine PySem.W.sub_K fr I2.ok.mod.kin J hs hfi hf (wpAny_call (SlX.run_at (us := [.ref p, u]) (ws := [.ref p, y]) F hr.in1 I2.env0.in1 pass0 I2 (.cons rfl (.cons ry .nil)) q)) (hsl _ _)
/-- what stands on the right of == -/
inductive Rhs (K : PySem.W.Frag) (C : Addr) (H : Hp) : V → Value → Prop where
  | any {y : V} {t : Value} (h : TyX K H y t) : Rhs K C H y t
  | own {b dy : Addr} {ws : List (Option V)} (h : SlX.Slt H b C dy ws) : Rhs K C H (.ref b) (.ref C)
theorem Rhs.looks {pins : List (Addr × Obj)} {σ : L2.St} {H : Hp} {s : Shared} {y : V} {u t : Value} (I : Inv X pins σ H s) (h : Rhs X.K C H y t) (r : RelV y u) (M : Model) : PySem.W.Looks M s.heap (typeOf u) t := by
  cases h with
  | any h =>
    obtain ⟨P, Z, p, _⟩ := kit_of I r h
    exact Z.ty M s.heap I.kIn p
  | @own b dy ws h =>
    cases (show u = Value.ref b from r)
    obtain ⟨sl, od, _, J, _⟩ := SlX.slt_inst I h
    exact J.type
/-- x == y -/
def rEqO (K : PySem.W.Frag) (C : Addr) (sp : Sp) : R2 := fun x y H Q => ∃ a dx vs t, x = .ref a ∧ SlX.Slt H a C dx vs ∧ Rhs K C H y t ∧ PySem.W.notFirst K C t = true ∧ sp [x, y] H Q E0
theorem op_eqO (hs : PySem.W.findIn X.K (.ref C) "__eq__" = some (some (.ref g))) (hf : PySem.W.isFn X.K (.ref g) = true) (F : FnR X.prog X.w X.K X.mg X.base CX0 n g sp) (hr : Room n X.A) : OpR X (compareOp .Eq) (rEqO X.K C sp) := by
  intro pins s σ H x y v u Q I rx ry h
  obtain ⟨a, dx, vs, t, rfl, ha, hb, hn, q⟩ := h
  cases (show v = Value.ref a from rx)
  obtain ⟨sl, od, _, J, _⟩ := SlX.slt_inst I ha
  obtain ⟨m, hF⟩ := I.fr
  refine PySem.W.cmp_K (op := .Eq) (tb := t) hr.units0 hF I.ok.mod.kin J (hb.looks I ry _) hn hs hf ?_
  refine wpAny_mono (wpAny_call (run_fnR (us := [.ref a, u]) (vs := [.ref a, y]) F hr pass0 I (.cons rfl (.cons ry .nil)) q)) (fun w s' z => ?_) fun _ _ x => x
  obtain ⟨z', H', I', rz, qz⟩ := z
  exact SlX.cmpback rz ⟨z', H', I', rz, qz⟩
end
open PySem.W in
theorem ifBound_b {M : Model} {A : Around} {E : Value → Shared → Prop} {s : Shared} {K : Frag} {x C : Addr} {ox : Obj} {od : Option Obj} {name : Str} {id : String} {args : List Value} {Q : Option Value → Shared → Prop} (X : K.In s.heap) (I : InstAt s.heap x ox C od)
    (hs : findIn K (.ref C) name = some (some (.builtin id))) (hb : ∀ self, bindSpecial (.builtin id) self = pure (.builtin id, [self])) (h : wpAny M A (call (.builtin id) (.ref x :: args)) (fun v => Q (some v)) E s) : wpAny M A (callSpecialIfBound? (.ref x) name args) Q E s := by
  simp only [callSpecialIfBound?, bindSpecialIfBound?]
  refine wpAny_holding (wpAny_bind (wpAny_bind (wpAny_bind (I.type.here ((looks_findIn X hs).here ?_)))))
  refine wpAny_bind (wpAny_askSetting (wpAny_ite ?_))
  have fin : wpAny M A (call (.builtin id) ([.ref x] ++ args) >>= fun v => pure (some v)) Q E s := wpAny_bind (wpAny_mono h (fun v s' h' => wpAny_pure h') fun _ _ h' => h')
  split
  · exact wpAny_bind ((Looks.of_pure (hb _)).here (wpAny_pure (by exact fin)))
  · exact wpAny_tryCatch (wpAny_bind ((Looks.of_pure (hb _)).here (wpAny_pure (by exact fin))))
open PySem.W in
/-- object.__ne__ over an own __eq__ -/
theorem ne_own {prog : Program} {w : World} {A : Around} {E : Value → Shared → Prop} {s : Shared} {K : Frag} {x C f : Addr} {ox : Obj} {od : Option Obj} {b tb : Value} {Q : Value → Shared → Prop} (hu : A.units < cLine) (hu1 : A.in1.units < cLine) (X : K.In s.heap) (I : InstAt s.heap x ox C od)
    (hb : Looks (model prog w) s.heap (typeOf b) tb) (hn : notFirst K C tb = true) (hne : findIn K (.ref C) "__ne__" = some (some (.builtin "object.__ne__"))) (hm : mroIn K C (.type "object") = some true)
    (hs : findIn K (.ref C) "__eq__" = some (some (.ref f))) (hf : isFn K (.ref f) = true)
    (h : wpAny (model prog w) A.in1 (call (.ref f) [.ref x, b]) (fun v s' => ∃ c, v = .bool c ∧ Q (.bool (!c)) s') E s) : wpAny (model prog w) A (richCompare .NotEq (.ref x) b) Q E s := by
  have inner : wpAny (model prog w) A (call (.builtin "object.__ne__") [.ref x, b]) (fun v s' => ∃ c, v = .bool c ∧ Q (.bool c) s') E s := by
    refine wpAny_call (codeAny_call_builtin F.cmp_object.ne.plain F.cmpEntry_ne (check_slot (i := "object.__ne__") (owner := "object") (n := "__ne__") F.cmpKind_ne F.cmpSplit_ne (I.type.andThen (looks_mroIn X hm)) (F.cmpArgs_ne _ _) ?_))
    unfold Builtin.«object.__ne__»
    refine wpAny_bind (m := slotArgs "__ne__" 1 _) (wpAny_pure ?_)
    refine wpAny_bind (m := cRoomFor _ _) (wpAny_cRoomFor hu1 ?_)
    refine wpAny_bind (m := callSpecialIfBound? (.ref x) (Str.ofString "__eq__") _) (ifBound_K X I hs hf (wpAny_mono h (fun r s' hq => ?_) fun _ _ y => y))
    obtain ⟨c, rfl, hq⟩ := hq
    refine wpAny_bind (m := truthy (.bool c)) (wpAny_truthy_bool ?_)
    exact wpAny_pure ⟨_, rfl, hq⟩
  have one : wpAny (model prog w) A (tryCompare (.ref x) "__ne__" b) (fun r s' => ∃ v, r = some v ∧ Q v s') E s := by
    unfold tryCompare
    refine wpAny_bind (ifBound_b X I hne F.cmp_object.ne.bind (wpAny_mono inner (fun v s' hv => ?_) fun _ _ e => e))
    obtain ⟨c, rfl, hq⟩ := hv
    exact wpAny_pure ⟨_, rfl, hq⟩
  unfold richCompare
  simp only [oneThing_ref]
  refine wpAny_holding (wpAny_bind (wpAny_cRoomFor hu ?_))
  refine wpAny_bind (I.type.here (wpAny_bind (hb.here ?_)))
  split
  · rename_i q
    have e : subIn K tb (.ref C) = some false := by
      rcases Bool.or_eq_true_iff.mp hn with e | e
      · rw [beq_iff_eq.mp e] at q; simp at q
      · exact beq_iff_eq.mp e
    refine wpAny_bind ((looks_subIn X e).here ?_)
    simp only [Bool.false_eq_true, if_false]
    refine wpAny_bind (wpAny_mono one (fun r s' z => ?_) fun _ _ e => e)
    obtain ⟨v, rfl, hq⟩ := z
    exact wpAny_pure hq
  · refine wpAny_bind (wpAny_pure ?_)
    simp only [Bool.false_eq_true, if_false]
    refine wpAny_bind (wpAny_mono one (fun r s' z => ?_) fun _ _ e => e)
    obtain ⟨v, rfl, hq⟩ := z
    exact wpAny_pure hq
section
variable {X : Cx} {n : Nat} {C g : Addr} {sp : Sp}
/-- x != y -/
def rNeO (K : PySem.W.Frag) (C : Addr) (sp : Sp) : R2 := fun x y H Q => ∃ a dx vs t, x = .ref a ∧ SlX.Slt H a C dx vs ∧ Rhs K C H y t ∧ PySem.W.notFirst K C t = true ∧ sp [x, y] H (fun z H' => ∃ b, z = .bl b ∧ Q (.bl (!b)) H') E0
theorem op_neO (hne : PySem.W.findIn X.K (.ref C) "__ne__" = some (some (.builtin "object.__ne__"))) (hm : PySem.W.mroIn X.K C (.type "object") = some true) (hs : PySem.W.findIn X.K (.ref C) "__eq__" = some (some (.ref g))) (hf : PySem.W.isFn X.K (.ref g) = true)
    (F : FnR X.prog X.w X.K X.mg X.base CX0 n g sp) (hr : Room (n + 1) X.A) : OpR X (compareOp .NotEq) (rNeO X.K C sp) := by
  intro pins s σ H x y v u Q I rx ry h
  obtain ⟨a, dx, vs, t, rfl, ha, hb, hn, q⟩ := h
  cases (show v = Value.ref a from rx)
  obtain ⟨sl, od, _, J, _⟩ := SlX.slt_inst I ha
  show wpAny _ _ (richCompare .NotEq (.ref a) u) _ _ _
  refine ne_own hr.units0 hr.in1.units0 I.kIn J (hb.looks I ry _) hn hne hm hs hf ?_
  refine wpAny_mono (wpAny_call (SlX.run_at (us := [.ref a, u]) (ws := [.ref a, y]) F hr.in1 I.env0.in1 pass0 I (.cons rfl (.cons ry .nil)) q)) (fun w s' z => ?_) fun _ _ x => x
  obtain ⟨z', H', I', rz, b, eb, qz⟩ := z
  subst eb
  cases (show w = Value.bool b from rz)
  exact ⟨b, rfl, .bl (!b), H', I', rfl, qz⟩
end
end Wb

/-! The program's small defs. -/
namespace Wb
open PySem PySem.Spec PyProof.Rows L2 SX TL
open C8 (pe_gc)
section
variable {P : Program} {w : World} {K : PySem.W.Frag} {mg : Str → Option Value} {base : Heap} {A : Ad} {X : Cx}
/-! ### isinstance of a value of any of the kinds met here -/
def rIsiA (K : PySem.W.Frag) (A : Ad) : List V → Hp → VK → Prop := fun xs H Q => ∃ (x c : V) (t u : Value) (b : Bool), xs = [x, c] ∧ ClsV c u ∧ Rhs K A.Row H x t ∧ PySem.W.kitOne K t u = some b ∧ Q (.bl b) H
theorem call_isiA {mg' : Str → Option Value} (T : Txt X.K mg' A) : CallR X (.builtin "isinstance") (rIsiA X.K A) := by
  intro pins s σ H xs us Q I r h
  obtain ⟨x, c, t, u, b, rfl, k, ty, e, q⟩ := h
  cases ty with
  | any ty => exact call_isi pins s σ H _ us Q I r ⟨x, c, t, u, b, rfl, k, ty, e, q⟩
  | @own a dx ws hs =>
    refine SlX.call_isiSl u pins s σ H _ us Q I r ⟨a, A.Row, dx, ws, c, b, rfl, ?_, fun w h => k.eq h, hs, T.scls, T.sisi, e, q⟩
    cases k with
    | ty n => exact rfl
    | own C => exact rfl
/-- is_integer's answer -/
inductive IntB (K : PySem.W.Frag) (A : Ad) (H : Hp) : V → Bool → Prop where
  | int (i : Int) : IntB K A H (.int i) (decide (i.natAbs < 10 ^ 60))
  | bl (b : Bool) : IntB K A H (.bl b) false
  | no {x : V} {t : Value} (h : Rhs K A.Row H x t) (k : PySem.W.kitOne K t (.type "int") = some false) : IntB K A H x false
def spIsInt (K : PySem.W.Frag) (A : Ad) : Sp := fun vs H Q _ => ∃ v b, vs = [v] ∧ IntB K A H v b ∧ Q (.bl b) H
theorem absE (i : Int) : (if i < 0 then -i else i) = (i.natAbs : Int) := by split <;> omega
theorem c_is_integer (T : Txt K mg A) : FnR P w K mg base CX0 1 A.is_integer (spIsInt K A) := by
  refine fnr T.d_is_integer sc_is_integer (fun _ _ _ _ _ _ us hl => match us, hl with | [_], _ => rfl) (fun vs H Q E h => by obtain ⟨_, _, rfl, _⟩ := h; rfl) (fun fd cdv A' outer s H vs Q E hr h => ?_)
  obtain ⟨v, b, rfl, hv, q⟩ := h
  refine ⟨_, (pss_one (ps_ret (pe_and (pe_callB (call_isiA T) (by rfl) T.f_isinstance (by decide +kernel) (pa_cons (pv 0) (pa_cons (pe_bltn (v := .ty "int") (by rfl) T.f_int (by decide +kernel) rfl) pa_nil))) (pe_and (pe_not (pe_callB (call_isiA T) (by rfl) T.f_isinstance (by decide +kernel) (pa_cons (pv 0) (pa_cons (pe_bltn (v := .ty "bool") (by rfl) T.f_bool (by decide +kernel) rfl) pa_nil)))) (pe_one (pe_cmpR op_lt (pe_callB call_abs (by rfl) T.f_abs (by decide +kernel) (pa_cons (pv 0) pa_nil)) (pe_gc (by rfl) T.v_BOUND) (nomark _))))))), ?_⟩
  cases hv with
  | int i =>
    refine ⟨_, rfl, .int i, .ty "int", _, _, true, rfl, .ty _, .any (.base (.int i)), kit_ty (by decide +kernel), true, rfl, iteT ?_⟩
    refine ⟨_, rfl, .int i, .ty "bool", _, _, false, rfl, .ty _, .any (.base (.int i)), kit_ty (by decide +kernel), false, rfl, true, rfl, iteT ?_⟩
    refine ⟨_, rfl, i, rfl, _, _, rfl, rfl, ?_⟩
    show Q (.bl (decide ((if i < 0 then -i else i) < 10 ^ 60))) H
    rw [absE, show decide ((i.natAbs : Int) < 10 ^ 60) = decide (i.natAbs < 10 ^ 60) by rw [decide_eq_decide]; omega]
    exact q
  | bl b =>
    refine ⟨_, rfl, .bl b, .ty "int", _, _, true, rfl, .ty _, .any (.base (.bl b)), kit_ty (by decide +kernel), true, rfl, iteT ?_⟩
    refine ⟨_, rfl, .bl b, .ty "bool", _, _, true, rfl, .ty _, .any (.base (.bl b)), kit_ty (by decide +kernel), true, rfl, false, rfl, iteF ?_⟩
    exact q
  | no h k =>
    exact ⟨_, rfl, _, .ty "int", _, _, false, rfl, .ty _, h, k, false, rfl, iteF q⟩
def spIsPow : Sp := fun vs H Q _ => ∃ i, vs = [.int i] ∧ Q (.bl (decide (i.natAbs ≤ 10000))) H
theorem c_is_power (T : Txt K mg A) : FnR P w K mg base CX0 2 A.is_power spIsPow := by
  refine fnr T.d_is_power sc_is_power (fun _ _ _ _ _ _ us hl => match us, hl with | [_], _ => rfl) (fun vs H Q E h => by obtain ⟨_, rfl, _⟩ := h; rfl) (fun fd cdv A' outer s H vs Q E hr h => ?_)
  obtain ⟨i, rfl, q⟩ := h
  refine ⟨_, (pss_one (ps_ret (pe_and (pe_f (c_is_integer T) hr (by decide) (by rfl) T.g_is_integer T.k_is_integer (pa_cons (pv 0) pa_nil)) (pe_one (pe_cmpR op_le (pe_callB call_abs (by rfl) T.f_abs (by decide +kernel) (pa_cons (pv 0) pa_nil)) (pe_gc (by rfl) T.v_MAX_POWER) (nomark _)))))), ?_⟩
  refine ⟨_, rfl, _, _, rfl, .int i, _, rfl, ite2 (fun h => ?_) (fun h => ?_)⟩
  · refine ⟨_, rfl, i, rfl, _, _, rfl, rfl, ?_⟩
    show Q (.bl (decide ((if i < 0 then -i else i) ≤ 10000))) H
    rw [absE, show decide ((i.natAbs : Int) ≤ 10000) = decide (i.natAbs ≤ 10000) by rw [decide_eq_decide]; omega]
    exact q
  · have h1 : ¬ i.natAbs < 10 ^ 60 := by simpa using h
    have h2 : ¬ i.natAbs ≤ 10000 := by omega
    rw [decide_eq_false h2] at q
    exact q
/-! ### texts -/
theorem sx_lit (l : List Nat) (x : Str) (h : x.cps.toList = l) : x = S l := by rw [← h, S_tl]
def spPowText : Sp := fun vs H Q _ => ∃ e : Int, vs = [.int e] ∧ e.natAbs ≤ 10000 ∧ Q (.str (S (powT e))) H
theorem log2_of {n k : Nat} (hk : 0 < k) (h : n < 2 ^ k) : n.log2 < k := by
  by_cases h0 : n = 0
  · subst h0; simpa using hk
  · exact (Nat.log2_lt h0).mpr h
theorem log1920 {n : Nat} (h : n < 10 ^ 120) : n.log2 < 1920 := log2_of (by decide) (Nat.lt_trans h (by decide +kernel))
theorem log1920' {n : Nat} (h : n < 10 ^ 60) : n.log2 < 1920 := log1920 (Nat.lt_trans h (by decide +kernel))
theorem ofS_cons (c : Char) (l : List Char) : Str.ofString (String.ofList (c :: l)) = S (c.toNat :: l.map Char.toNat) := by
  apply TL.ext_tl
  rw [tl_ofString]
  simp [tl, S]
theorem ts_nat (n : Nat) : (toString (n : Int) : Str) = S (numL n) := num_S n
theorem ts_int (e : Int) : (toString e : Str) = S (intT e) := by
  unfold intT
  split
  · rename_i h
    obtain ⟨m, rfl⟩ : ∃ m : Nat, e = Int.negSucc m := by cases e with | ofNat a => exact absurd h (by simp) | negSucc m => exact ⟨m, rfl⟩
    have e1 : (toString (Int.negSucc m) : String) = "-" ++ toString ((m + 1 : Nat) : Int) := rfl
    show Str.ofString (toString (Int.negSucc m)) = _
    have e2 := congrArg TL.tl (num_S (m + 1))
    rw [tl_ofString] at e2
    apply TL.ext_tl
    rw [e1, tl_ofString, String.toList_append, List.map_append, e2]
    rfl
  · rename_i h
    obtain ⟨m, rfl⟩ : ∃ m : Nat, e = (m : Int) := ⟨e.toNat, by omega⟩
    exact ts_nat m
theorem len_num {n k : Nat} (hk : 0 < k) (h : n < 10 ^ k) : (numL n).length ≤ k := numL_len hk h
theorem len_small {n : Nat} (h : n ≤ 1000000) : n ≤ sizeLine := Nat.le_trans h (by decide)
theorem len_small' {n : Nat} (h : n ≤ 1000000) : n < sizeLine := Nat.lt_of_le_of_lt h (by decide)
theorem intT_len {e : Int} (h : e.natAbs ≤ 10000) : (intT e).length ≤ 6 := by
  have := len_num (n := e.natAbs) (k := 5) (by decide) (by omega)
  unfold intT
  split <;> simp <;> omega
theorem powT_len {e : Int} (h : e.natAbs ≤ 10000) : (powT e).length ≤ 8 := by
  have := intT_len h
  unfold powT
  split
  · simp
  · split <;> simp
    omega
theorem termT_len {e v : Int} (h : e.natAbs ≤ 10000) (hv : v.natAbs < 10 ^ 60) : (termT e v).length ≤ 68 := by
  have h1 := powT_len h
  have h2 := len_num (n := v.natAbs) (k := 60) (by decide) hv
  unfold termT
  split
  · omega
  · simp
    omega
theorem lead_len (t : List Nat) (v : Int) : (lead t v).length ≤ 3 := by
  unfold lead
  split <;> split <;> simp
/-- bounds of a row -/
structure Bd (r : Rw) : Prop where
  ex : ∀ p ∈ r, p.1.natAbs ≤ 10000
  num : ∀ p ∈ r, p.2.natAbs < 10 ^ 60
theorem step_len {t : List Nat} {p : Int × Int} (h : p.1.natAbs ≤ 10000) (hv : p.2.natAbs < 10 ^ 60) : (step t p).length ≤ t.length + 71 := by
  have h1 := termT_len h hv
  have h2 := lead_len t p.2
  unfold step
  simp
  omega
theorem fold_len : ∀ (r : Rw) (t : List Nat), Bd r → (r.foldl step t).length ≤ t.length + 71 * r.length
  | [], t, _ => by simp
  | p :: r, t, h => by
    have h1 := fold_len r (step t p) ⟨fun q m => h.ex q (List.mem_cons_of_mem _ m), fun q m => h.num q (List.mem_cons_of_mem _ m)⟩
    have h2 := step_len (t := t) (h.ex p (List.mem_cons_self ..)) (h.num p (List.mem_cons_self ..))
    rw [List.foldl_cons, List.length_cons]
    omega
theorem body_len {r : Rw} (h : Bd r) : (body r).length ≤ 71 * r.length := by have := fold_len r [] h; unfold body; simpa using this
theorem rend_len {r : Rw} (h : Bd r) : (rend r).length ≤ 71 * r.length + 1 := by
  have := body_len h
  unfold rend
  split
  · simp
  · omega
theorem Bd.take {r : Rw} (h : Bd r) (i : Nat) : Bd (r.take i) := ⟨fun q m => h.ex q (List.mem_of_mem_take m), fun q m => h.num q (List.mem_of_mem_take m)⟩
theorem c_power_text (T : Txt K mg A) : FnR P w K mg base CX0 1 A.power_text spPowText := by
  refine fnr T.d_power_text sc_power_text (fun _ _ _ _ _ _ us hl => match us, hl with | [_], _ => rfl) (fun vs H Q E h => by obtain ⟨_, rfl, _⟩ := h; rfl) (fun fd cdv A' outer s H vs Q E hr h => ?_)
  obtain ⟨e, rfl, he, q⟩ := h
  refine ⟨_, (pss_cons (ps_if (pt_cmpR op_eq (pv 0) pe_int (nomark _))
      (pss_one (ps_ret pe_str))
      pss_nil)
    (pss_one (ps_ret (pe_ifExp (pt_cmpR op_eq (pv 0) pe_int (nomark _)) (pe_gc (by rfl) T.v_LETTER) (pe_joined (.cons (pe_fmt (pe_gc (by rfl) T.v_LETTER)) (.cons pe_str (.cons (pe_fmt (pv 0)) .nil)))))))), ?_⟩
  refine ⟨_, rfl, rfl, _, rfl, ite2 (fun h => ?_) (fun h => ?_)⟩
  · have e0 : e = 0 := by simpa using h
    subst e0
    exact q
  · have e0 : e ≠ 0 := by simpa using h
    refine ⟨_, rfl, rfl, _, rfl, ite2 (fun h => ?_) (fun h => ?_)⟩
    · have e1 : e = 1 := by simpa using h
      subst e1
      exact q
    · have e1 : e ≠ 1 := by simpa using h
      have ht : (Str.empty ++ (Str.ofString "x") ++ (Str.ofString "^") ++ (toString e : Str)) = S (powT e) := by
        rw [ts_int]
        apply TL.ext_tl
        simp [tl_append, powT, e0, e1]
        rfl
      refine .inl ⟨_, rfl, by decide, _, rfl, by decide, _, rfl, by decide, _, rfl, .inr ⟨e, rfl, log1920 (by omega), _, rfl, ?_, ?_⟩⟩
      · rw [show (Str.empty ++ _ ++ _ ++ _ : Str) = _ from ht, S_len]
        exact len_small (by have := powT_len he; omega)
      · show Q (.str _) H
        rw [show (Str.empty ++ _ ++ _ ++ _ : Str) = _ from ht]
        exact q
def spTermText : Sp := fun vs H Q _ => ∃ e v : Int, vs = [.int e, .int v] ∧ e.natAbs ≤ 10000 ∧ v.natAbs < 10 ^ 60 ∧ Q (.str (S (termT e v))) H
theorem c_term_text (T : Txt K mg A) : FnR P w K mg base CX0 2 A.term_text spTermText := by
  refine fnr T.d_term_text sc_term_text (fun _ _ _ _ _ _ us hl => match us, hl with | [_, _], _ => rfl) (fun vs H Q E h => by obtain ⟨_, _, rfl, _⟩ := h; rfl) (fun fd cdv A' outer s H vs Q E hr h => ?_)
  obtain ⟨e, v, rfl, he, hv, q⟩ := h
  refine ⟨_, (pss_cons (ps_if (PW.pt (pw_and (pt_cmpR op_eq (pe_callB call_abs (by rfl) T.f_abs (by decide +kernel) (pa_cons (pv 1) pa_nil)) pe_int (nomark _)) (pw_and1 (pt_cmpR op_ne (pv 0) pe_int (nomark _)))))
      (pss_one (ps_ret (pe_f (c_power_text T) hr (by decide) (by rfl) T.g_power_text T.k_power_text (pa_cons (pv 0) pa_nil))))
      pss_nil)
    (pss_one (ps_ret (pe_joined (.cons (pe_fmt (pe_callB call_abs (by rfl) T.f_abs (by decide +kernel) (pa_cons (pv 1) pa_nil))) (.cons (pe_fmt (pe_f (c_power_text T) hr (by decide) (by rfl) T.g_power_text T.k_power_text (pa_cons (pv 0) pa_nil))) .nil)))))), ?_⟩
  have nx : ∀ hn : ¬ (v.natAbs = 1 ∧ e ≠ 0), (fun σ H Q => tJs [tFmt (tCB (fun xs H Q => ∃ i, xs = [.int i] ∧ Q (.int (if i < 0 then -i else i)) H) (tCons (tVar 1) tNil)), tFmt (tF spPowText (tCons (tVar 0) tNil))] Str.empty σ H fun out H1 => Q (.str out) H1) (start ["exponent", "factor"] [.int e, .int v]) H Q := fun hn => by
    have et : Str.empty ++ (toString (v.natAbs : Int) : Str) ++ S (powT e) = S (termT e v) := by
      rw [ts_nat]
      apply TL.ext_tl
      simp [tl_append, termT, hn]
      rfl
    have l1 := len_num (n := v.natAbs) (k := 60) (by decide) hv
    refine ⟨_, rfl, v, rfl, .inr ⟨(v.natAbs : Int), congrArg V.int (absE v), log1920' (by simpa using hv), _, rfl, ?_, _, rfl, e, rfl, he, .inl ⟨_, rfl, ?_, _, rfl, ?_, ?_⟩⟩⟩
    · rw [ts_nat, TL.len_tl, tl_append]
      refine len_small ?_
      show ([] ++ numL v.natAbs).length ≤ _
      simp
      omega
    · rw [S_len]
      exact len_small (by have := powT_len he; omega)
    · rw [show (Str.empty ++ _ ++ _ : Str) = _ from et, S_len]
      exact len_small (by have := termT_len he hv; omega)
    · rw [show (Str.empty ++ _ ++ _ : Str) = _ from et]
      exact q
  refine ⟨_, rfl, v, rfl, rfl, _, rfl, ite2 (fun h => ?_) (fun h => ?_)⟩
  · have h1 : v.natAbs = 1 := by
      rw [absE] at h
      have := of_decide_eq_true h
      injection this
      omega
    refine ⟨_, rfl, rfl, _, rfl, ite2 (fun h => ?_) (fun h => ?_)⟩
    · have e0 : e ≠ 0 := by simpa using h
      refine ⟨_, rfl, e, rfl, he, ?_⟩
      rw [show termT e v = powT e from if_pos ⟨h1, e0⟩] at q
      exact q
    · have e0 : ¬ e ≠ 0 := by simpa using h
      exact nx fun z => e0 z.2
  · refine nx fun z => h ?_
    rw [absE, z.1]
    rfl
/-! ### dicts from ints to ints -/
def kvI (r : Rw) : List (Key × V) := r.map fun p => (Sum.inl p.1, V.int p.2)
theorem kvI_len (r : Rw) : (kvI r).length = r.length := List.length_map ..
theorem walk_itemsI {d : Addr} {o : Obj} {r : Rw} : Walk (Iti d o (kvI r)) r.length (fun H => H d = some (.frz o (.dK (kvI r)))) (fun i H x H' => ∃ T p, x = .ref T ∧ H T = none ∧ H' = upd H T (.tup [.int p.1, .int p.2]) ∧ r[i]? = some p) := by
  have h := (walk_items (d := d) (o := o) (kvs := kvI r))
  rw [kvI_len] at h
  refine h.mono (fun _ g => g) fun i H x H' hi _ y => ?_
  obtain ⟨T, x1, y1, ex, ht, e, a, b⟩ := y
  simp only [kvI, List.getElem?_map] at a b
  cases hr : r[i]? with
  | none => rw [hr] at a; simp at a
  | some p =>
    rw [hr] at a b
    simp at a b
    refine ⟨T, p, ex, ht, ?_, rfl⟩
    rw [e, ← a, ← b]
    rfl
theorem walk_keysI {d : Addr} {o : Obj} {r : Rw} : Walk (Itk d o (kvI r)) r.length (fun H => H d = some (.frz o (.dK (kvI r)))) (fun i H x H' => H' = H ∧ ∃ p, r[i]? = some p ∧ x = .int p.1) := by
  have h := (walk_keys (d := d) (o := o) (kvs := kvI r))
  rw [kvI_len] at h
  refine h.mono (fun _ g => g) fun i H x H' hi _ y => ?_
  obtain ⟨e, k, v, a, b⟩ := y
  simp only [kvI, List.getElem?_map] at a
  cases hr : r[i]? with
  | none => rw [hr] at a; simp at a
  | some p =>
    rw [hr] at a
    simp at a
    refine ⟨e, p, rfl, ?_⟩
    rw [b, ← a.1]
    rfl
/-! ### comparisons of texts -/
theorem vs_dec {a b : List Nat} {y : Str} (hy : y = S b) : decide (V.str (S a) = V.str y) = decide (a = b) := by
  subst hy
  rw [decide_eq_decide]
  exact ⟨fun z => by injection z with z; exact S_inj z, fun z => by rw [z]⟩
theorem teq_t {a b : List Nat} {y : Str} (hy : y = S b) (h : decide (V.str (S a) = V.str y) = true) : a = b := by rw [vs_dec hy] at h; exact of_decide_eq_true h
theorem teq_f {a b : List Nat} {y : Str} (hy : y = S b) (h : ¬ decide (V.str (S a) = V.str y) = true) : a ≠ b := by rw [vs_dec hy] at h; simpa using h
theorem tne_t {a b : List Nat} {y : Str} (hy : y = S b) (h : (!decide (V.str (S a) = V.str y)) = true) : a ≠ b := by rw [vs_dec hy] at h; simpa using h
theorem tne_f {a b : List Nat} {y : Str} (hy : y = S b) (h : ¬ (!decide (V.str (S a) = V.str y)) = true) : a = b := by rw [vs_dec hy] at h; simpa using h
theorem lock_same {H H' : Hp} {d : Addr} {od : Obj} {u : HO} (h0 : H d = some u) (s : Same (upd H d (.frz od u)) H') : H' d = some (.frz od u) ∧ Same H (upd H' d u) := by
  refine ⟨s d _ upd_same, fun b o e => ?_⟩
  by_cases hb : b = d
  · subst hb
    rw [upd_same, ← h0, e]
  · rw [upd_ne hb]
    exact s b o (by rw [upd_ne hb]; exact e)
theorem same_new {H : Hp} {T : Addr} {o : HO} (h : H T = none) : Same H (upd H T o) := fun b o' e => by rw [upd_ne (ne_of_none e h)]; exact e
theorem take_fold {r : Rw} {i : Nat} {p : Int × Int} {t : List Nat} (h : r[i]? = some p) : (r.take (i + 1)).foldl step t = step ((r.take i).foldl step t) p := by
  have hi := (List.getElem?_eq_some_iff.mp h)
  obtain ⟨hl, e⟩ := hi
  rw [List.take_succ_eq_append_getElem hl, List.foldl_append, e]
  rfl
def spTermsText : Sp := fun vs H Q _ => ∃ d r, vs = [.ref d] ∧ H d = some (.dK (kvI r)) ∧ Bd r ∧ r.length ≤ 1000 ∧ ∀ H', Same H H' → Q (.str (S (rend r))) H'
theorem c_terms_text (T : Txt K mg A) : FnR P w K mg base CX0 3 A.terms_text spTermsText := by
  refine fnr T.d_terms_text sc_terms_text (fun _ _ _ _ _ _ us hl => match us, hl with | [_], _ => rfl) (fun vs H Q E h => by obtain ⟨_, _, rfl, _⟩ := h; rfl) (fun fd cdv A' outer s H vs Q E hr h => ?_)
  obtain ⟨d, r, rfl, hd, hb, hl, q⟩ := h
  refine ⟨_, (pss_cons (ps_set (i := 1) sc_terms_text.nd rfl (Or.inl rfl) pe_str)
    (pss_cons (ps_lock (ps_for PassesOwn.never rfl (pi_items (pv 0)) (pg_tup rfl (pgs_cons (pg_name (i := 2) sc_terms_text.nd rfl (Or.inl rfl)) (pgs_cons (pg_name (i := 3) sc_terms_text.nd rfl (Or.inl rfl)) pgs_nil)))
      (pss_cons (ps_set (i := 4) sc_terms_text.nd rfl (Or.inl rfl) (pe_ifExp (pt_cmpR op_lt (pv 3) pe_int (nomark _)) pe_str pe_str))
        (pss_cons (ps_set (i := 5) sc_terms_text.nd rfl (Or.inl rfl) (pe_ifExp (pt_cmpR op_ne (pv 1) pe_str (nomark _)) (pe_joined (.cons pe_str (.cons (pe_fmt (pv 4)) (.cons pe_str .nil)))) (pe_ifExp (pt_cmpR op_lt (pv 3) pe_int (nomark _)) pe_str pe_str)))
        (pss_one (ps_set (i := 1) sc_terms_text.nd rfl (Or.inl rfl) (pe_joined (.cons (pe_fmt (pv 1)) (.cons (pe_fmt (pv 5)) (.cons (pe_fmt (pe_f (c_term_text T) hr (by decide) (by rfl) T.g_term_text T.k_term_text (pa_cons (pv 2) (pa_cons (pv 3) pa_nil)))) .nil))))))))))
    (pss_one (ps_ret (pe_orT (pv 1) (pe_one pe_str)))))), ?_⟩
  refine ⟨d, _, hd, by trivial, fun od => ?_⟩
  refine ⟨_, rfl, d, od, _, rfl, upd_same, ?_⟩
  refine for_it walk_itemsI (fun i σ H2 => ∃ x2 x3 x4 x5, σ = [some (.ref d), some (.str (S (body (r.take i)))), x2, x3, x4, x5] ∧ Same (upd H d (.frz od (.dK (kvI r)))) H2) ⟨none, none, none, none, rfl, Same.refl _⟩ (fun i σ H2 _ ⟨_, _, _, _, _, s2⟩ => s2 _ _ upd_same) ?_ ?_
  · rintro i x σ H2 H3 hi ⟨x2, x3, x4, x5, rfl, s2⟩ ⟨Tp, ⟨e, v⟩, rfl, hT, rfl, hp⟩
    have hm : (e, v) ∈ r := List.mem_of_getElem? hp
    have s3 := s2.trans (same_new (o := .tup [.int e, .int v]) hT)
    refine ⟨Tp, _, rfl, SqT.of upd_same, rfl, _, _, rfl, _, _, rfl, rfl, ?_⟩
    have l0 := body_len (hb.take i)
    have l1 : (r.take i).length ≤ 1000 := by rw [List.length_take]; omega
    have l2 : (termT e v).length ≤ 68 := termT_len (hb.ex _ hm) (hb.num _ hm)
    have key : ∀ (H3 : Hp) (D : Ends) (x4 : Option V) (y : Str), y = S (lead (body (r.take i)) v) → D.nx [some (.ref d), some (.str (S (body (r.take (i + 1))))), some (.int e), some (.int v), x4, some (.str y)] H3 →
        tAsg (fun σ H Q => tJs [tFmt (tVar 1), tFmt (tVar 5), tFmt (tF spTermText (tCons (tVar 2) (tCons (tVar 3) tNil)))] Str.empty σ H fun out H1 => Q (.str out) H1) (gName 1) D [some (.ref d), some (.str (S (body (r.take i)))), some (.int e), some (.int v), x4, some (.str y)] H3 := fun H3 D x4 y ey q => by
      subst ey
      have l3 := lead_len (body (r.take i)) v
      have e1 : Str.empty ++ S (body (r.take i)) = S (body (r.take i)) := TL.ext_tl (by rw [tl_append]; rfl)
      have e2 : S (body (r.take i)) ++ S (lead (body (r.take i)) v) ++ S (termT e v) = S (body (r.take (i + 1))) := by
        rw [S_cat, S_cat]
        show _ = S ((r.take (i + 1)).foldl step [])
        rw [take_fold hp]
        rfl
      refine ⟨_, rfl, .inl ⟨_, rfl, by rw [S_len]; exact len_small (by omega), _, rfl, by rw [e1, S_len]; exact len_small (by omega), _, rfl, .inl ⟨_, rfl, by rw [S_len]; exact len_small (by omega), _, rfl, by rw [e1, S_cat, S_len, List.length_append]; exact len_small (by omega), _, rfl, _, rfl, e, v, rfl, hb.ex _ hm, hb.num _ hm,
        .inl ⟨_, rfl, by rw [S_len]; exact len_small (by omega), _, rfl, by rw [e1, S_cat, S_cat, S_len, List.length_append, List.length_append]; exact len_small (by omega), ?_⟩⟩⟩⟩
      rw [e1, e2]
      exact q
    refine ⟨_, rfl, _, _, rfl, rfl, _, rfl, ite2 (fun h => ?_) (fun h => ?_)⟩
    · have hv : v < 0 := by simpa using h
      refine ⟨_, rfl, rfl, _, rfl, ite2 (fun h => ?_) (fun h => ?_)⟩
      · have hne : body (r.take i) ≠ [] := tne_t rfl h
        refine ⟨_, rfl, by decide, _, rfl, .inl ⟨_, rfl, by decide, _, rfl, by decide, _, rfl, by decide, ?_⟩⟩
        exact key _ _ _ _ (by unfold lead; rw [if_neg hne, if_pos hv]; rfl) ⟨_, _, _, _, rfl, s3⟩
      · have hne : body (r.take i) = [] := tne_f rfl h
        refine ⟨_, rfl, _, _, rfl, rfl, _, rfl, ite2 (fun h => ?_) (fun h => ?_)⟩
        · exact key _ _ _ _ (by unfold lead; rw [if_pos hne, if_pos hv]; rfl) ⟨_, _, _, _, rfl, s3⟩
        · exact absurd hv (by simpa using h)
    · have hv : ¬ v < 0 := by simpa using h
      refine ⟨_, rfl, rfl, _, rfl, ite2 (fun h => ?_) (fun h => ?_)⟩
      · have hne : body (r.take i) ≠ [] := tne_t rfl h
        refine ⟨_, rfl, by decide, _, rfl, .inl ⟨_, rfl, by decide, _, rfl, by decide, _, rfl, by decide, ?_⟩⟩
        exact key _ _ _ _ (by unfold lead; rw [if_neg hne, if_neg hv]; rfl) ⟨_, _, _, _, rfl, s3⟩
      · have hne : body (r.take i) = [] := tne_f rfl h
        refine ⟨_, rfl, _, _, rfl, rfl, _, rfl, ite2 (fun h => ?_) (fun h => ?_)⟩
        · exact absurd (by simpa using h) hv
        · exact key _ _ _ _ (by unfold lead; rw [if_pos hne, if_neg hv]; rfl) ⟨_, _, _, _, rfl, s3⟩
  · rintro σ H2 ⟨x2, x3, x4, x5, rfl, s2⟩
    obtain ⟨h1, h2⟩ := lock_same hd s2
    refine ⟨h1, ?_⟩
    rw [List.take_length]
    have l0 := body_len hb
    refine ⟨_, rfl, _, ⟨by rw [S_len]; exact len_small (by omega), rfl⟩, ite2 (fun h => ?_) (fun h => ?_)⟩
    · have := q _ h2
      unfold rend at this
      rw [if_neg (by intro z; rw [z] at h; simp [S_len] at h)] at this
      exact this
    · have := q _ h2
      unfold rend at this
      rw [if_pos (by by_cases z : body r = []; exact z; exact absurd (by simp [S_len, z]) h)] at this
      exact this
end
end Wb

/-! The program's readers of texts. -/
namespace Wb
open PySem PySem.Spec PyProof.Rows L2 SX TL
open C8 (pe_gc pss_cut tCut)
section
variable {P : Program} {w : World} {K : PySem.W.Frag} {mg : Str → Option Value} {base : Heap} {A : Ad} {X : Cx}
/-- the new list of a comprehension holds acc so far -/
def Acc (H1 : Hp) (D : Addr) (acc : List V) (H : Hp) : Prop := Same H1 H ∧ H D = some (.lst acc)
theorem Acc.start {H1 : Hp} {D : Addr} (h : H1 D = none) : Acc H1 D [] (upd H1 D (.lst [])) := ⟨same_new h, upd_same⟩
theorem Acc.same {H1 H H' : Hp} {D : Addr} {acc : List V} (h : Acc H1 D acc H) (s : Same H H') : Acc H1 D acc H' := ⟨h.1.trans s, s _ _ h.2⟩
theorem Acc.push {H1 H : Hp} {D : Addr} {acc : List V} (h : Acc H1 D acc H) (h0 : H1 D = none) (y : V) : Acc H1 D (acc ++ [y]) (upd H D (.lst (acc ++ [y]))) := by
  refine ⟨fun b o e => ?_, upd_same⟩
  rw [upd_ne (ne_of_none e h0)]
  exact h.1 b o e
theorem tyes {σ : L2.St} {H : Hp} {A B : Hp → Prop} (h : A H) : tYes σ H (fun b H' => if b = true then A H' else B H') := iteT (A := A H) (B := B H) h
theorem all_map_take {α : Type} {l : List α} {f : α → V} {i : Nat} {a : α} (h : l[i]? = some a) : (l.take (i + 1)).map f = (l.take i).map f ++ [f a] := by
  obtain ⟨hl, e⟩ := List.getElem?_eq_some_iff.mp h
  rw [List.take_succ_eq_append_getElem hl, List.map_append, e]
  rfl
theorem dig_in (c : Nat) : decide (c ∈ ("0123456789" : Str).cps.toList) = dig c := by
  have e : ("0123456789" : Str).cps.toList = [48,49,50,51,52,53,54,55,56,57] := by decide +kernel
  rw [e]
  unfold dig
  rw [Bool.eq_iff_iff]
  simp
  omega
def spAreFigs : Sp := fun vs H Q _ => ∃ l, vs = [.str (S l)] ∧ l.length ≤ 100000 ∧ ∀ H', Same H H' → Q (.bl (figs l)) H'
theorem c_are_figures (T : Txt K mg A) : FnR P w K mg base CX0 1 A.are_figures spAreFigs := by
  refine fnr T.d_are_figures sc_are_figures (fun _ _ _ _ _ _ us hl => match us, hl with | [_], _ => rfl) (fun vs H Q E h => by obtain ⟨_, rfl, _⟩ := h; rfl) (fun fd cdv A' outer s H vs Q E hr h => ?_)
  obtain ⟨l, rfl, hl, q⟩ := h
  refine ⟨_, (pss_one (ps_ret (pe_and (pe_chain op_lt op_le pe_int (pe_callB call_len_str (by rfl) T.f_len (by decide +kernel) (pa_cons (pv 0) pa_nil)) (pe_gc (by rfl) T.v_MAX_FIGURES)) (pe_one (pe_callB (cr_all rfl) (by rfl) T.f_all (by decide +kernel) (pa_cons (pe_lc (own := [("sign", 1)]) rfl sc_are_figures.nd (pi_str (pv 0)) (blkOk_by (own := [("sign", 1)]) (N := ["text", "sign"]) (sc := defScope s_are_figures) (by decide +kernel)) (fun _ _ _ _ _ => (pg_name (i := 1) sc_are_figures.nd rfl (Or.inl rfl))) (fun _ _ _ _ _ => pts_nil) (fun _ _ _ _ _ => (pe_cmpR op_in_sign (pv 1) (pe_gc (by rfl) T.v_FIGURES) (by with_unfolding_all rfl)))) pa_nil)))))), ?_⟩
  have q' : ∀ H', Same H H' → Q (.bl (decide (0 < l.length) && decide (l.length ≤ 60) && l.all dig)) H' := q
  have hz : (S l).length = l.length := S_len l
  refine ⟨_, rfl, _, rfl, by rw [hz]; exact len_small (by omega), _, _, rfl, rfl, _, rfl, ite2 (fun h => ?_) (fun h => ?_)⟩
  · have h0 : 0 < l.length := by rw [hz] at h; have := of_decide_eq_true h; omega
    refine ⟨_, _, rfl, rfl, _, rfl, ite2 (fun h => ?_) (fun h => ?_)⟩
    · have h1 : l.length ≤ 60 := by rw [hz] at h; have := of_decide_eq_true h; omega
      rw [decide_eq_true h0, decide_eq_true h1] at q'
      refine ⟨_, rfl, _, rfl, fun D hD => ?_⟩
      refine lc_it walk_str (fun i H' => Acc H D ((l.take i).map fun c => V.bl (dig c)) H') (Acc.start hD) (fun _ _ _ _ => True.intro) ?_ ?_
      · rintro i x H2 H3 hi a ⟨rfl, c, hc, rfl⟩
        have hc' : l[i]? = some c := by simpa using hc
        have hil : i < l.length := (List.getElem?_eq_some_iff.mp hc').1
        refine ⟨rfl, tyes ?_⟩
        refine ⟨_, rfl, c, _, rfl, rfl, _, a.2, ?_, ?_⟩
        · rw [List.length_map, List.length_take]
          exact len_small' (by omega)
        · rw [all_map_take hc', dig_in c]
          exact a.push hD _
      · rintro H2 a
        have e : (l.take (S l).cps.size).map (fun c => V.bl (dig c)) = (l.map dig).map V.bl := by
          rw [show (S l).cps.size = l.length from S_len l, List.take_length, List.map_map]
          rfl
        have a2 := a.2
        rw [e] at a2
        refine ⟨D, _, rfl, SqL.of a2, ?_⟩
        have := q' _ a.1
        simpa [List.all_map] using this
    · have h1 : ¬ l.length ≤ 60 := by rw [hz] at h; intro z; exact h (decide_eq_true (by omega))
      have := q' _ (Same.refl _)
      rw [decide_eq_true h0, decide_eq_false h1] at this
      exact this
  · have h0 : ¬ 0 < l.length := by rw [hz] at h; intro z; exact h (decide_eq_true (by omega))
    have := q' _ (Same.refl _)
    rw [decide_eq_false h0] at this
    exact ⟨_, rfl, iteF this⟩
theorem cut_to {a : List Nat} {i : Int} (h : 0 ≤ i) : cutS (S a) none (some i) = S (a.take i.toNat) := by rw [C8.cutS_slice, slice_to h]
theorem cut_from {a : List Nat} {i : Int} (h : 0 ≤ i) : cutS (S a) (some i) none = S (a.drop i.toNat) := by rw [C8.cutS_slice, slice_from h]
def optI : Option Int → V
  | none => .non
  | some i => .int i
theorem figs_int {l : List Nat} (h : figs l = true) : intText? (S l) = some ((dv l : Nat) : Int) ∧ (S l).length ≤ 640 := by
  unfold figs at h
  simp only [Bool.and_eq_true, decide_eq_true_eq] at h
  exact ⟨int_S h.2 (by intro z; rw [z] at h; simp at h) (by omega), by rw [S_len]; omega⟩
def spExpTold : Sp := fun vs H Q _ => ∃ b, vs = [.str (S b)] ∧ b.length ≤ 100000 ∧ ∀ H', Same H H' → Q (optI (expTold b)) H'
theorem c_exponent_told (T : Txt K mg A) : FnR P w K mg base CX0 2 A.exponent_told spExpTold := by
  refine fnr T.d_exponent_told sc_exponent_told (fun _ _ _ _ _ _ us hl => match us, hl with | [_], _ => rfl) (fun vs H Q E h => by obtain ⟨_, rfl, _⟩ := h; rfl) (fun fd cdv A' outer s H vs Q E hr h => ?_)
  obtain ⟨b, rfl, hl, q⟩ := h
  refine ⟨_, (pss_cons (ps_if (pt_cmpR op_eq (pv 0) pe_str (nomark _))
      (pss_one (ps_ret pe_int))
      pss_nil)
    (pss_cut (ps_set (i := 1) sc_exponent_told.nd rfl (Or.inl rfl) (pe_ifExp (pt_cmpR op_eq (pe_slice sl_str (pv 0) po_none (po_some pe_int)) pe_str (nomark _)) (pe_slice sl_str (pv 0) (po_some pe_int) po_none) (pe_slice sl_str (pv 0) (po_some pe_int) po_none)))
    (pss_cons (ps_if (PW.pt (pw_or (pt_cmpR op_ne (pe_ix ix_str (pv 0) pe_int (fun _ _ => rfl)) pe_str (nomark _)) (pw_or1 (pt_not (pt_val (pe_f (c_are_figures T) hr (by decide) (by rfl) T.g_are_figures T.k_are_figures (pa_cons (pv 1) pa_nil)))))))
      (pss_one (ps_ret pe_non))
      pss_nil)
    (pss_one (ps_ret (pe_ifExp (pt_cmpR op_eq (pe_slice sl_str (pv 0) po_none (po_some pe_int)) pe_str (nomark _)) (pe_un un_neg (pe_callTy call_int_str (by rfl) T.f_int (by decide +kernel) (pa_cons (pv 1) pa_nil))) (pe_callTy call_int_str (by rfl) T.f_int (by decide +kernel) (pa_cons (pv 1) pa_nil)))))))), ?_⟩
  have hz : (S b).length ≤ sizeLine := by rw [S_len]; exact len_small (by omega)
  have ht : cutS (S b) none (some 2) = S (b.take 2) := cut_to (by decide)
  have h2 : cutS (S b) (some 2) none = S (b.drop 2) := cut_from (by decide)
  have h1 : cutS (S b) (some 1) none = S (b.drop 1) := cut_from (by decide)
  refine ⟨_, rfl, rfl, _, rfl, ite2 (fun h => ?_) (fun h => ?_)⟩
  · have e : b = [] := teq_t rfl h
    have := q _ (Same.refl _)
    rw [show expTold b = some 1 by unfold expTold; rw [if_pos e]] at this
    exact this
  have hb : b ≠ [] := teq_f rfl h
  obtain ⟨c, b', eb⟩ : ∃ c b', b = c :: b' := by cases b with | nil => exact absurd rfl hb | cons c b' => exact ⟨c, b', rfl⟩
  obtain ⟨f, hf⟩ : ∃ f, f = if b.take 2 = [94, 45] then b.drop 2 else b.drop 1 := ⟨_, rfl⟩
  have fl : f.length ≤ 100000 := by
    rw [hf]
    split <;> rw [List.length_drop] <;> omega
  refine ⟨fun σ' H' => σ' = [some (.str (S b)), some (.str (S f))] ∧ H' = H, ?_, ?_⟩
  · refine ⟨_, rfl, _, rfl, _, rfl, hz, rfl, _, rfl, ?_⟩
    rw [ht]
    refine ite2 (fun h => ?_) (fun h => ?_)
    · rw [if_pos (teq_t (b := [94, 45]) rfl h)] at hf
      refine ⟨_, rfl, _, rfl, _, rfl, hz, ?_⟩
      rw [h2, ← hf]
      exact ⟨rfl, rfl⟩
    · rw [if_neg (teq_f (b := [94, 45]) rfl h)] at hf
      refine ⟨_, rfl, _, rfl, _, rfl, hz, ?_⟩
      rw [h1, ← hf]
      exact ⟨rfl, rfl⟩
  · rintro σ' H' ⟨rfl, rfl⟩
    have ex : expTold b = if c ≠ 94 ∨ figs f = false then none else some (if b.take 2 = [94, 45] then -((dv f : Nat) : Int) else ((dv f : Nat) : Int)) := by
      unfold expTold
      rw [if_neg hb, ← hf]
      congr 1
      rw [eb]
      simp
    have no : (c ≠ 94 ∨ figs f = false) → ∀ H2, Same H' H2 → Q .non H2 := fun z H2 s2 => by
      have := q H2 s2
      rw [ex, if_pos z] at this
      exact this
    have ea : atI (S b).cps.toList 0 = some c := atI_nat (j := 0) (by rw [eb]; rfl)
    refine ⟨_, rfl, _, 0, c, rfl, rfl, hz, ea, rfl, _, rfl, ite2 (fun h => ?_) (fun h => ?_)⟩
    · have hc : [c] ≠ [94] := tne_t (a := [c]) (b := [94]) rfl h
      exact no (.inl fun z => hc (by rw [z])) _ (Same.refl _)
    · have hc : [c] = [94] := tne_f (a := [c]) (b := [94]) rfl h
      have hc' : c = 94 := by simpa using hc
      refine ⟨_, rfl, f, rfl, fl, fun H2 s2 => ?_⟩
      refine ⟨_, rfl, ite2 (fun h => ?_) (fun h => ?_)⟩
      · exact no (.inr (by simpa using h)) _ s2
      · have hff : figs f = true := by simpa using h
        obtain ⟨fi, fz⟩ := figs_int hff
        have yes : Q (.int (if b.take 2 = [94, 45] then -((dv f : Nat) : Int) else ((dv f : Nat) : Int))) H2 := by
          have := q H2 s2
          rw [ex, if_neg (by rw [hc', hff]; simp)] at this
          exact this
        refine ⟨_, rfl, _, rfl, _, rfl, hz, rfl, _, rfl, ?_⟩
        rw [ht]
        refine ite2 (fun h => ?_) (fun h => ?_)
        · rw [if_pos (teq_t (b := [94, 45]) rfl h)] at yes
          exact ⟨_, rfl, _, _, rfl, fi, fz, _, rfl, yes⟩
        · rw [if_neg (teq_f (b := [94, 45]) rfl h)] at yes
          exact ⟨_, rfl, _, _, rfl, fi, fz, yes⟩
theorem par_len {S : List Nat} : ∀ {l acc p q : List Nat}, TL.par S acc l = some (p, q) → p.length ≤ acc.length + l.length ∧ q.length ≤ l.length
  | [], acc, p, q, h => by simp [TL.par] at h
  | c :: r, acc, p, q, h => by
    by_cases hc : TL.pre S (c :: r) = true
    · rw [TL.par_hit hc] at h
      injection h with h
      injection h with h1 h2
      subst h1 h2
      rw [List.length_drop]
      omega
    · rw [TL.par_miss (by simpa using hc)] at h
      have := par_len h
      simp at this ⊢
      omega
def optP : Option (Int × Int) → Hp → VK → Prop
  | none, H, Q => Q .non H
  | some p, H, Q => ∀ t, H t = none → Q (.ref t) (upd H t (.tup [.int p.1, .int p.2]))
def spTermTold : Sp := fun vs H Q _ => ∃ l, vs = [.str (S l)] ∧ l.length ≤ 100000 ∧ ∀ H', Same H H' → optP (termTold l) H' Q
theorem c_term_told (T : Txt K mg A) : FnR P w K mg base CX0 3 A.term_told spTermTold := by
  refine fnr T.d_term_told sc_term_told (fun _ _ _ _ _ _ us hl => match us, hl with | [_], _ => rfl) (fun vs H Q E h => by obtain ⟨_, rfl, _⟩ := h; rfl) (fun fd cdv A' outer s H vs Q E hr h => ?_)
  obtain ⟨l, rfl, hl, q⟩ := h
  refine ⟨_, (pss_cut (ps_asg (pe_partition (pv 0) (pe_gc (by rfl) T.v_LETTER)) (pg_tup rfl (pgs_cons (pg_name (i := 1) sc_term_told.nd rfl (Or.inl rfl)) (pgs_cons (pg_name (i := 2) sc_term_told.nd rfl (Or.inl rfl)) (pgs_cons (pg_name (i := 3) sc_term_told.nd rfl (Or.inl rfl)) pgs_nil)))))
    (pss_cut (ps_if (PW.pt (pw_and (pt_cmpR op_ne (pv 1) pe_str (nomark _)) (pw_and1 (pt_not (pt_val (pe_f (c_are_figures T) hr (by decide) (by rfl) T.g_are_figures T.k_are_figures (pa_cons (pv 1) pa_nil)))))))
      (pss_one (ps_ret pe_non))
      pss_nil)
    (pss_cons (ps_if (pt_cmpR op_eq (pv 2) pe_str (nomark _))
      (pss_one (ps_ret (pe_ifExp (pt_cmpR op_ne (pv 1) pe_str (nomark _)) (pe_tup (pa_cons pe_int (pa_cons (pe_callTy call_int_str (by rfl) T.f_int (by decide +kernel) (pa_cons (pv 1) pa_nil)) pa_nil))) pe_non)))
      pss_nil)
    (pss_cons (ps_set (i := 4) sc_term_told.nd rfl (Or.inl rfl) (pe_f (c_exponent_told T) hr (by decide) (by rfl) T.g_exponent_told T.k_exponent_told (pa_cons (pv 3) pa_nil)))
    (pss_one (ps_ret (pe_ifExp (pt_cmpR op_isN (pv 4) pe_non (nomark _)) pe_non (pe_tup (pa_cons (pv 4) (pa_cons (pe_callTy call_int_str (by rfl) T.f_int (by decide +kernel) (pa_cons (pe_orT (pv 1) (pe_one pe_str)) pa_nil)) pa_nil)))))))))), ?_⟩
  have hz : (S l).length ≤ sizeLine := by rw [S_len]; exact len_small (by omega)
  obtain ⟨a, m, z, hpart, hcase, la, lz⟩ : ∃ a m z : List Nat, Txt.partition (S l) (Str.ofString "x") = (S a, S m, S z) ∧ ((m = [] ∧ a = l ∧ TL.par [120] [] l = none) ∨ (m = [120] ∧ TL.par [120] [] l = some (a, z))) ∧ a.length ≤ 100000 ∧ z.length ≤ 100000 := by
    cases e : TL.par [120] [] l with
    | none => exact ⟨l, [], [], partition_none (b := [120]) (by simp) e, .inl ⟨rfl, rfl, rfl⟩, hl, by simp⟩
    | some pq =>
      obtain ⟨a, z⟩ := pq
      have := par_len e
      simp at this
      exact ⟨a, [120], z, partition_some (b := [120]) (by simp) e, .inr ⟨rfl, rfl⟩, by omega, by omega⟩
  have hza : (S a).length ≤ sizeLine := by rw [S_len]; exact len_small (by omega)
  refine ⟨fun σ' H' => σ' = [some (.str (S l)), some (.str (S a)), some (.str (S m)), some (.str (S z)), none] ∧ Same H H', ?_, ?_⟩
  · refine ⟨_, rfl, ⟨_, rfl⟩, S l, _, rfl, rfl, by decide, hz, fun p hp => ?_⟩
    rw [hpart]
    exact ⟨p, _, rfl, SqT.of upd_same, rfl, _, _, rfl, _, _, rfl, _, _, rfl, rfl, rfl, same_new hp⟩
  rintro σ' H1 ⟨rfl, s1⟩
  refine ⟨fun σ' H' => σ' = [some (.str (S l)), some (.str (S a)), some (.str (S m)), some (.str (S z)), none] ∧ Same H H' ∧ (a = [] ∨ figs a = true), ?_, ?_⟩
  · refine ⟨_, rfl, rfl, _, rfl, ite2 (fun h => ?_) (fun h => ?_)⟩
    · have ha : a ≠ [] := tne_t rfl h
      refine ⟨_, rfl, a, rfl, la, fun H2 s2 => ⟨_, rfl, ite2 (fun h => ?_) (fun h => ?_)⟩⟩
      · have hf : figs a = false := by simpa using h
        have := q H2 (s1.trans s2)
        have e : termTold l = none := by
          unfold termTold
          rcases hcase with ⟨_, e1, e2⟩ | ⟨_, e2⟩
          · subst e1
            rw [e2]
            show (if a ≠ [] ∧ figs a = true then _ else _) = _
            rw [if_neg (by rw [hf]; simp)]
          · rw [e2]
            exact if_pos ⟨ha, hf⟩
        rw [e] at this
        exact this
      · exact ⟨rfl, s1.trans s2, .inr (by simpa using h)⟩
    · exact ⟨rfl, s1, .inl (tne_f rfl h)⟩
  rintro σ' H2 ⟨rfl, s2, hfa⟩
  refine ⟨_, rfl, rfl, _, rfl, ite2 (fun h => ?_) (fun h => ?_)⟩
  · have hm : m = [] := teq_t rfl h
    obtain ⟨e1, e2⟩ : a = l ∧ TL.par [120] [] l = none := by
      rcases hcase with ⟨_, e1, e2⟩ | ⟨e, _⟩
      · exact ⟨e1, e2⟩
      · rw [hm] at e
        cases e
    subst e1
    have et : termTold a = if a ≠ [] ∧ figs a = true then some (0, ((dv a : Nat) : Int)) else none := by
      unfold termTold
      rw [e2]
    refine ⟨_, rfl, rfl, _, rfl, ite2 (fun h => ?_) (fun h => ?_)⟩
    · have ha : a ≠ [] := tne_t rfl h
      have hf : figs a = true := hfa.resolve_left ha
      obtain ⟨fi, fz⟩ := figs_int hf
      refine ⟨_, rfl, _, _, rfl, fi, fz, by show 2 ≤ sizeLine; decide, fun t ht => ?_⟩
      have := q _ s2
      rw [et, if_pos ⟨ha, hf⟩] at this
      exact this t ht
    · have := q _ s2
      rw [et, if_neg (by rw [show a = [] from tne_f rfl h]; simp)] at this
      exact this
  have e2 : TL.par [120] [] l = some (a, z) := by
    rcases hcase with ⟨e, _⟩ | ⟨_, e2⟩
    · exact absurd e (teq_f rfl h)
    · exact e2
  have et : termTold l = (expTold z).map fun e => (e, if a = [] then 1 else ((dv a : Nat) : Int)) := by
    unfold termTold
    rw [e2]
    exact if_neg (by rintro ⟨h1, h2⟩; rcases hfa with h3 | h3; exact h1 h3; rw [h2] at h3; cases h3)
  refine ⟨_, rfl, z, rfl, lz, fun H3 s3 => ⟨_, rfl, rfl, _, rfl, ?_⟩⟩
  have q3 := q _ (s2.trans s3)
  rw [et] at q3
  cases ez : expTold z with
  | none =>
    rw [ez] at q3
    exact iteT q3
  | some e =>
    rw [ez] at q3
    refine iteF ?_
    refine ⟨_, rfl, _, rfl, decide (a ≠ []), ⟨hza, ?_⟩, ite2 (fun h => ?_) (fun h => ?_)⟩
    · rw [S_len]
      cases a <;> simp
      omega
    · have ha : a ≠ [] := by simpa using h
      obtain ⟨fi, fz⟩ := figs_int (hfa.resolve_left ha)
      refine ⟨_, _, rfl, fi, fz, by show 2 ≤ sizeLine; decide, fun t ht => ?_⟩
      have := q3 t ht
      rw [if_neg ha] at this
      exact this
    · have ha : a = [] := by simpa using h
      refine ⟨_, 1, rfl, by decide +kernel, by decide, by show 2 ≤ sizeLine; decide, fun t ht => ?_⟩
      have := q3 t ht
      rw [if_pos ha] at this
      exact this
end
end Wb

/-! Rules that the layer lacks, 2: list(zip(xs, ys)); every second item of a list. -/
namespace Wb
open PySem PySem.Spec PyProof.Rows L2
section
variable {prog : Program} {w : World}
/-- an iterator of n new pairs, while at S a list is being filled -/
structure Src (prog : Program) (w : World) (A : Around) (I S : Addr) (wr : List Addr) (n : Nat) (Rel : Nat → Value → Value → Prop) (St : Nat → Heap → Prop) : Prop where
  off : S ∉ wr
  frame : ∀ i h h', St i h → (∀ b o, b ≠ S → h.get? b = some o → h'.get? b = some o) → St i h'
  item : ∀ i (s : Shared) (Q : Option Value → Shared → Prop) (E : Value → Shared → Prop), i < n → St i s.heap → S < s.heap.objs.size →
    (∀ k v h' tk, Rel i k v → h'.get? s.heap.objs.size = some { cls := .type "tuple", data := .seq #[k, v] } → h'.objs.size = s.heap.objs.size + 1 → St (i + 1) h' → (∀ b o, b ∉ wr → s.heap.get? b = some o → h'.get? b = some o) → Q (some (.ref s.heap.objs.size)) { s with heap := h', toks := tk }) → wpAny (model prog w) A (pyNext (.ref I)) Q E s
  done : ∀ (s : Shared) (Q : Option Value → Shared → Prop) (E : Value → Shared → Prop), St n s.heap →
    (∀ h' tk, (∀ b o, b ∉ wr → s.heap.get? b = some o → h'.get? b = some o) → Q none { s with heap := h', toks := tk }) → wpAny (model prog w) A (pyNext (.ref I)) Q E s
/-- the new tuples -/
structure Got (Rel : Nat → Value → Value → Prop) (lo : Addr) (h : Heap) (as : List Addr) : Prop where
  rise : as.Pairwise (· < ·)
  above : ∀ a ∈ as, lo ≤ a
  pairs : ∀ (j : Nat) (a : Addr), as[j]? = some a → ∃ k v, Rel j k v ∧ h.get? a = some { cls := .type "tuple", data := .seq #[k, v] }
theorem Got.there {Rel : Nat → Value → Value → Prop} {lo : Addr} {h : Heap} {as : List Addr} (g : Got Rel lo h as) {a : Addr} (ha : a ∈ as) : a < h.objs.size := by
  obtain ⟨j, hj⟩ := List.mem_iff_getElem?.mp ha
  obtain ⟨_, _, _, e⟩ := g.pairs j a hj
  exact Heap.lt_size e
variable {A : Around} {s : Shared} {R : Result → Shared → Prop} {n : Nat} {Rel : Nat → Value → Value → Prop} {St : Nat → Heap → Prop} {wr : List Addr}
theorem src_loop {S I lo : Addr} (X : Src prog w A.in1 I S wr n Rel St) (hSl : S < lo) (hwl : ∀ b ∈ wr, b < lo) (hn : n ≤ sizeLine) (res : Value) {h₁ : Heap}
    (hR : ∀ h' tk acc c as, (∀ b o, b ≠ S → b ∉ wr → h₁.get? b = some o → h'.get? b = some o) → h'.get? S = some { cls := .type "list", dict := none, data := .seq acc c, slots := #[] } → as.length = n → Got Rel lo h' as →
      acc.toList = as.map Value.ref → R (.ok (.ret res)) { s with heap := h', toks := tk }) :
    ∀ (k i : Nat) (h : Heap) (tk c : Nat) (acc : Array Value) (as : List Addr), n - i = k → i ≤ n → St i h → (∀ b o, b ≠ S → b ∉ wr → h₁.get? b = some o → h.get? b = some o) →
      h.get? S = some { cls := .type "list", dict := none, data := .seq acc c, slots := #[] } → acc.toList = as.map Value.ref → as.length = i → Got Rel lo h as → lo ≤ h.objs.size →
      codeAny (model prog w) A (.builtin "list.extend.loop" ⟨[.ref S, .ref I, res], []⟩) R { s with heap := h, toks := tk } := by
  intro k
  induction k with
  | zero =>
    intro i h tk c acc as hk hi hst hkeep hS hacc hal hG hIs
    have hin : i = n := by omega
    subst hin
    refine codeAny_builtin PySem.F.entry_extend_loop ?_
    rw [Around.under_plainId PySem.F.plain_extend_loop _]
    show wpAny _ A.in1 (pyNext (.ref I) >>= _) _ _ _
    refine wpAny_bind (X.done { s with heap := h, toks := tk } _ _ hst fun h' tk' he => ?_)
    refine wpAny_pure (hR h' tk' acc c as (fun b o h1 h2 e => he b o h2 (hkeep b o h1 h2 e)) (he S _ X.off hS) (by omega) ⟨hG.rise, hG.above, fun j a hj => ?_⟩ hacc)
    obtain ⟨key, x, e1, e3⟩ := hG.pairs j a hj
    exact ⟨key, x, e1, he a _ (fun z => Nat.not_lt.mpr (hG.above a (List.mem_of_getElem? hj)) (hwl a z)) e3⟩
  | succ k ih =>
    intro i h tk c acc as hk hi hst hkeep hS hacc hal hG hIs
    have hlt : i < n := by omega
    have hsz : acc.size = i := by rw [← Array.length_toList, hacc, List.length_map, hal]
    refine codeAny_builtin PySem.F.entry_extend_loop ?_
    rw [Around.under_plainId PySem.F.plain_extend_loop _]
    show wpAny _ A.in1 (pyNext (.ref I) >>= _) _ _ _
    refine wpAny_bind (X.item i { s with heap := h, toks := tk } _ _ hlt hst (Heap.lt_size hS) fun key x h' tk' hrel ht hz hst' hkp => ?_)
    dsimp only at ht hz hkp ⊢
    have hS' := hkp S _ X.off hS
    have up : ∀ b o, b ≠ S → h'.get? b = some o → (h'.update S (Obj.mapSeq (·.push (Value.ref h.objs.size)))).get? b = some o := fun b o hb e => (Heap.get?_update_other _ _ (Ne.symm hb)).trans e
    have hSz : S < h.objs.size := Heap.lt_size hS
    have nw : ∀ a, lo ≤ a → a ∉ wr := fun a ha z => Nat.not_lt.mpr ha (hwl a z)
    have ns : ∀ a, lo ≤ a → a ≠ S := fun a ha z => Nat.not_lt.mpr ha (by rw [z]; exact hSl)
    show wpAny _ A.in1 (updateSeq S (·.push (Value.ref h.objs.size)) >>= _) _ _ _
    refine wpAny_bind ?_
    refine wpAny_updateSeq hS' rfl (wpAny_pure ⟨plainId_quiet PySem.F.plain_extend_loop _, ih (i + 1) _ tk' _ (acc.push (Value.ref h.objs.size)) (as ++ [h.objs.size]) (by omega) hlt (X.frame _ _ _ hst' up)
      (fun b o h1 h2 e => up b o h1 (hkp b o h2 (hkeep b o h1 h2 e))) (Heap.get?_update_self _ hS' rfl) (by rw [Array.toList_push, hacc, List.map_append]; rfl) (by rw [List.length_append, hal]; rfl) ⟨?_, ?_, ?_⟩ ?_⟩) (by rw [hsz]; omega) (by show (acc.push (Value.ref h.objs.size)).size ≤ sizeLine + 1; rw [Array.size_push, hsz]; omega)
    · refine List.pairwise_append.mpr ⟨hG.rise, List.pairwise_singleton _ _, fun a ha b hb => ?_⟩
      rw [List.mem_singleton.mp hb]
      exact hG.there ha
    · intro a ha
      rcases List.mem_append.mp ha with ha | ha
      · exact hG.above a ha
      · rw [List.mem_singleton.mp ha]; exact hIs
    · intro j b hj
      rcases Nat.lt_trichotomy j as.length with h1 | h1 | h1
      · rw [List.getElem?_append_left h1] at hj
        obtain ⟨key', x', e1, e3⟩ := hG.pairs j b hj
        have hb := hG.above b (List.mem_of_getElem? hj)
        exact ⟨key', x', e1, up b _ (ns b hb) (hkp b _ (nw b hb) e3)⟩
      · subst h1
        have hb : h.objs.size = b := by simpa using hj
        subst hb
        exact ⟨key, x, by rw [hal]; exact hrel, up _ _ (Nat.ne_of_gt hSz) ht⟩
      · have hnone : (as ++ [h.objs.size])[j]? = none := List.getElem?_eq_none (by rw [List.length_append, List.length_singleton]; omega)
        rw [hnone] at hj; cases hj
    · have e : (h'.update S (Obj.mapSeq (·.push (Value.ref h.objs.size)))).get? h.objs.size = _ := up _ _ (Nat.ne_of_gt hSz) ht
      exact Nat.le_trans hIs (Nat.le_of_lt (Heap.lt_size e))
/-- the pairs, as tracked tuples -/
def putP : Hp → List Addr → List (V × V) → Hp
  | H, a :: as, p :: ps => putP (upd H a (.tup [p.1, p.2])) as ps
  | H, _, _ => H
theorem putP_off {b : Addr} : ∀ (as : List Addr) (ps : List (V × V)) (H : Hp), b ∉ as → putP H as ps b = H b
  | [], _, _, _ => rfl
  | _ :: _, [], _, _ => rfl
  | a :: as, p :: ps, H, h => by
    show putP (upd H a (.tup [p.1, p.2])) as ps b = H b
    rw [putP_off as ps _ (fun z => h (List.mem_cons_of_mem _ z)), upd_ne (fun z => h (by rw [z]; exact List.mem_cons_self))]
theorem putP_at : ∀ (as : List Addr) (ps : List (V × V)) (H : Hp), as.length = ps.length → as.Nodup → Paired (fun (t : Addr) (p : V × V) => putP H as ps t = some (.tup [p.1, p.2])) as ps
  | [], [], _, _, _ => .nil
  | [], _ :: _, _, h, _ => by cases h
  | _ :: _, [], _, h, _ => by cases h
  | a :: as, p :: ps, H, h, hn => by
    have hn' := List.nodup_cons.mp hn
    have ih := putP_at as ps (upd H a (.tup [p.1, p.2])) (Nat.succ.inj h) hn'.2
    refine .cons ?_ ih
    show putP (upd H a (.tup [p.1, p.2])) as ps a = some (.tup [p.1, p.2])
    rw [putP_off as ps _ hn'.1, upd_same]
end
section
variable {X : Cx} {pins : List (Addr × Obj)} {σ : L2.St} {H : Hp} {s : Shared}
theorem got_laid {h' : Heap} {tk : Nat} {ps : List (V × V)} {Rel : Nat → Value → Value → Prop} {acc : Array Value} {c S lo : Addr} {as : List Addr} (I : Inv X pins σ H s) (hz : ps.length ≤ sizeLine) (hRel : ∀ j k v, Rel j k v → ∃ p, ps[j]? = some p ∧ RelV p.1 k ∧ RelV p.2 v)
    (hk : ∀ b o, s.heap.get? b = some o → h'.get? b = some o) (hS0 : s.heap.objs.size ≤ S) (hlo : S < lo) (hS : h'.get? S = some { cls := .type "list", dict := none, data := .seq acc c, slots := #[] }) (hl : as.length = ps.length) (hG : Got Rel lo h' as) (hacc : acc.toList = as.map Value.ref) :
    ∃ H' : Hp, Same H H' ∧ H S = none ∧ H' S = some (.lst (as.map V.ref)) ∧ Paired (fun (t : Addr) (q : V × V) => H' t = some (.tup [q.1, q.2])) as ps ∧ Inv X pins σ H' { s with heap := h', toks := tk } := by
  have hSn : S ∉ as := fun z => Nat.not_lt.mpr (hG.above _ z) hlo
  have nd : as.Nodup := List.Pairwise.imp (fun {a b} (h : a < b) => Nat.ne_of_lt h) hG.rise
  have new : ∀ t ∈ as, H t = none := fun t ht => I.hok.fresh (Nat.le_trans hS0 (Nat.le_trans (Nat.le_of_lt hlo) (hG.above t ht)))
  have newS : H S = none := I.hok.fresh hS0
  have atP := putP_at as ps (upd H S (.lst (as.map V.ref))) (by omega) nd
  have off : ∀ b, b ∉ as → b ≠ S → putP (upd H S (.lst (as.map V.ref))) as ps b = H b := fun b h1 h2 => by rw [putP_off as ps _ h1, upd_ne h2]
  have low : ∀ b o, s.heap.get? b = some o → b ∉ as ∧ b ≠ S := fun b o e => by
    have hb := Heap.lt_size e
    exact ⟨fun z => Nat.not_lt.mpr (Nat.le_trans hS0 (Nat.le_trans (Nat.le_of_lt hlo) (hG.above b z))) hb, fun z => Nat.not_lt.mpr hS0 (z ▸ hb)⟩
  have kp : ∀ b u, H b = some u → (putP (upd H S (.lst (as.map V.ref))) as ps) b = some u := fun b u e => by
    rw [off b (fun z => by rw [new b z] at e; cases e) (fun z => by rw [z, newS] at e; cases e)]
    exact e
  have eS : putP (upd H S (.lst (as.map V.ref))) as ps S = some (.lst (as.map V.ref)) := by rw [putP_off as ps _ hSn, upd_same]
  refine ⟨putP (upd H S (.lst (as.map V.ref))) as ps, kp, newS, eS, atP, ?_⟩
  refine I.call' (ch := []) rfl ⟨fun b o q _ _ _ => hk b o q, fun b o q _ _ _ => ⟨o.slots, hk b o q⟩, fun b o q n _ => ?_, fun b o q _ => ⟨o, hk b o q⟩, fun b xs q => kp b _ q, fun b o u q => kp b _ q, fun b ps q => ⟨#[], by rw [kp b _ q]; simp⟩⟩ (fun b u q => ?_) I.bare fun b z => by simp at z
  · obtain ⟨z1, z2⟩ := low b o q
    rw [off b z1 z2]
    exact n
  · by_cases hb : b ∈ as
    · obtain ⟨j, pk, e1, e2, e3⟩ := LiI.paired_ix atP hb
      rw [e3] at q
      cases q
      obtain ⟨k, v, f1, f3⟩ := hG.pairs j b e1
      obtain ⟨p, g1, g2, g3⟩ := hRel j k v f1
      rw [e2] at g1
      cases g1
      exact ⟨by show 2 ≤ sizeLine; decide, [k, v], .cons g2 (.cons g3 .nil), ⟨_, f3, rfl, _, rfl⟩⟩
    · by_cases hb2 : b = S
      · rw [hb2] at q ⊢
        rw [eS] at q
        cases q
        refine ⟨by rw [List.length_map]; omega, acc.toList, c, by rw [hacc]; exact LiI.vals_refs as, ?_⟩
        rw [Array.toArray_toList]
        exact hS
      · rw [off b hb hb2] at q
        exact (I.hok b u q).stay (fun d v _ y => hk d v y) (fun d y => kp d _ y) fun d xs y => kp d _ y
end
section
variable {prog : Program} {w : World} {A : Around} {E : Value → Shared → Prop} {s : Shared}
/-- how a zip of two lists stands between two turns -/
def ZSt (z TI TO i1 i2 l1 l2 S : Addr) (xs ys : Array Value) (i : Nat) (h : Heap) : Prop :=
  IsPair h TI (.ref i1) (.ref i2) ∧ h.IsListIter i1 l1 i ∧ h.IsListIter i2 l2 i ∧ h.IsList l1 xs ∧ h.IsList l2 ys ∧
    ((IsZip h z TI TO .none ∧ ∃ a b, IsPair h TO a b) ∨ ∃ T f oT, IsZipHeld h z TI TO T f ∧ h.get? T = some oT ∧ T ≠ z ∧ T ≠ i1 ∧ T ≠ i2 ∧ T ≠ S)
abbrev ZRel (xs ys : Array Value) (i : Nat) (k v : Value) : Prop := xs[i]? = some k ∧ ys[i]? = some v
theorem src_zip (hA : A.handled = none) {z TI TO i1 i2 l1 l2 S : Addr} (D : ZipApart z TI TO i1 i2 l1 l2) (xs ys : Array Value) (dz : S ≠ z) (dTI : S ≠ TI) (dTO : S ≠ TO) (di1 : S ≠ i1) (di2 : S ≠ i2) (dl1 : S ≠ l1) (dl2 : S ≠ l2) :
    Src prog w A z S [z, TO, i1, i2] (min xs.size ys.size) (ZRel xs ys) (ZSt z TI TO i1 i2 l1 l2 S xs ys) where
  off := fun hm => by
    simp only [List.mem_cons, List.not_mem_nil, or_false] at hm
    rcases hm with e | e | e | e
    · exact dz e
    · exact dTO e
    · exact di1 e
    · exact di2 e
  frame := fun i h₁ h₂ st hk => by
    obtain ⟨hTI, h1, h2, hl1, hl2, hz⟩ := st
    refine ⟨hk _ _ (Ne.symm dTI) hTI, h1.at fun o e => hk _ o (Ne.symm di1) e, h2.at fun o e => hk _ o (Ne.symm di2) e, hl1.at fun o e => hk _ o (Ne.symm dl1) e, hl2.at fun o e => hk _ o (Ne.symm dl2) e, ?_⟩
    rcases hz with ⟨hz, a, b, hTO⟩ | ⟨T, f, oT, hz, hT, r1, r2, r3, r4⟩
    · exact .inl ⟨hk _ _ (Ne.symm dz) hz, a, b, hk _ _ (Ne.symm dTO) hTO⟩
    · exact .inr ⟨T, f, oT, hk _ _ (Ne.symm dz) hz, hk _ _ r4 hT, r1, r2, r3, r4⟩
  item := fun i s₁ Q₁ E₁ hi st hds hQ => by
    obtain ⟨hTI, h1, h2, hl1, hl2, hz⟩ := st
    have hix : i < xs.size := Nat.lt_of_lt_of_le hi (Nat.min_le_left ..)
    have hiy : i < ys.size := Nat.lt_of_lt_of_le hi (Nat.min_le_right ..)
    have ex := Array.getElem?_eq_getElem hix
    have ey := Array.getElem?_eq_getElem hiy
    have lt : ∀ {c o}, s₁.heap.get? c = some o → s₁.heap.objs.size ≠ c := fun e => Nat.ne_of_gt (Heap.lt_size e)
    have n1 : s₁.heap.objs.size ≠ i1 := let ⟨_, e, _⟩ := h1; lt e
    have n2 : s₁.heap.objs.size ≠ i2 := let ⟨_, e, _⟩ := h2; lt e
    rcases hz with ⟨hz, a, b, hTO⟩ | ⟨T, f, oT, hz, hT, r1, r2, r3, r4⟩
    · refine wpAny_pyNext_zip_item D hz hTI hTO h1 h2 hl1 hl2 ex ey fun h' a1 a2 a3 a4 a5 a6 hk => ?_
      exact hQ _ _ h' s₁.toks ⟨ex, ey⟩ a5 a6
        ⟨hk _ _ D.TIz D.TITO D.TIi1 D.TIi2 hTI, a3, a4, hl1.at fun o e => hk _ o D.l1z D.l1TO D.l1i1 D.l1i2 e, hl2.at fun o e => hk _ o D.l2z D.l2TO D.l2i1 D.l2i2 e,
          .inr ⟨s₁.heap.objs.size, false, _, a1, a5, lt hz, n1, n2, Nat.ne_of_gt hds⟩⟩
        fun c o hc e => hk c o (fun x => hc (by simp [x])) (fun x => hc (by simp [x])) (fun x => hc (by simp [x])) (fun x => hc (by simp [x])) e
    · refine wpAny_pyNext_zip_item_held D hz hT hTI h1 h2 hl1 hl2 ex ey fun h' a1 a3 a4 a5 a6 hk => ?_
      exact hQ _ _ h' s₁.toks ⟨ex, ey⟩ a5 a6
        ⟨hk _ _ D.TIz D.TIi1 D.TIi2 hTI, a3, a4, hl1.at fun o e => hk _ o D.l1z D.l1i1 D.l1i2 e, hl2.at fun o e => hk _ o D.l2z D.l2i1 D.l2i2 e,
          .inr ⟨T, true, oT, a1, hk _ _ r1 r2 r3 hT, r1, r2, r3, r4⟩⟩
        fun c o hc e => hk c o (fun x => hc (by simp [x])) (fun x => hc (by simp [x])) (fun x => hc (by simp [x])) e
  done := fun s₁ Q₁ E₁ st hQ => by
    obtain ⟨hTI, h1, h2, hl1, hl2, hz⟩ := st
    have hend : xs[min xs.size ys.size]? = none ∨ ys[min xs.size ys.size]? = none := by
      rcases Nat.le_total xs.size ys.size with h | h
      · exact .inl (Array.getElem?_eq_none (by rw [Nat.min_eq_left h]; exact Nat.le_refl _))
      · exact .inr (Array.getElem?_eq_none (by rw [Nat.min_eq_right h]; exact Nat.le_refl _))
    rcases hz with ⟨hz, a, b, hTO⟩ | ⟨T, f, oT, hz, hT, r1, r2, r3, r4⟩
    · exact wpAny_pyNext_zip_end hA D hz hTI hTO h1 h2 hl1 hl2 hend fun h' hk => hQ h' s₁.toks fun c o hc e => hk c o (fun x => hc (by simp [x])) (fun x => hc (by simp [x])) (fun x => hc (by simp [x])) (fun x => hc (by simp [x])) e
    · exact wpAny_pyNext_zip_end_held hA D hz hT hTI h1 h2 hl1 hl2 hend fun h' hk => hQ h' s₁.toks fun c o hc e => hk c o (fun x => hc (by simp [x])) (fun x => hc (by simp [x])) (fun x => hc (by simp [x])) e
theorem zip_no_len : typeLookup (.type "zip") "__len__" = pure none := am_miss_of_fast (by decide +kernel)
theorem zip_no_hint : typeLookup (.type "zip") "__length_hint__" = pure none := am_miss_of_fast (by decide +kernel)
theorem zip_hint {r : Addr} (hT : s.TypeIs (.ref r) "zip") {Q : Bool → Shared → Prop} (h : Q true s) : wpAny (model prog w) A (Builtin.List.listLengthHint (.ref r)) Q E s := by
  unfold Builtin.List.listLengthHint
  refine wpAny_bind (wpAny_specialOf hT zip_no_len ?_)
  refine wpAny_ite_split (fun hab => absurd hab (by decide +kernel)) (fun _ => ?_)
  refine wpAny_ite_split (fun hab => absurd hab (by decide +kernel)) (fun _ => ?_)
  refine wpAny_bind (wpAny_specialOf hT zip_no_hint ?_)
  exact wpAny_pure h
abbrev isL (S : Addr) (acc : Array Value) (c : Nat) (h : Heap) : Prop := h.get? S = some { cls := .type "list", dict := none, data := .seq acc c, slots := #[] }
theorem zip_extend {R : Result → Shared → Prop} {z TI TO i1 i2 l1 l2 S : Addr} {xs ys : Array Value} (hh : A.handled = none) (D : ZipApart z TI TO i1 i2 l1 l2) (dz : S ≠ z) (dTI : S ≠ TI) (dTO : S ≠ TO) (di1 : S ≠ i1) (di2 : S ≠ i2) (dl1 : S ≠ l1) (dl2 : S ≠ l2)
    (hst : ZSt z TI TO i1 i2 l1 l2 S xs ys 0 s.heap) (hz0 : IsZip s.heap z TI TO .none) (hwl : ∀ b ∈ [z, TO, i1, i2], b < s.heap.objs.size) (res : Value) (c₀ : Nat) (hS : isL S #[] c₀ s.heap)
    (hR : ∀ h' tk acc c as, (∀ b o, b ≠ S → b ∉ [z, TO, i1, i2] → s.heap.get? b = some o → h'.get? b = some o) → isL S acc c h' → as.length = min xs.size ys.size → Got (ZRel xs ys) s.heap.objs.size h' as →
      acc.toList = as.map Value.ref → R (.ok (.ret res)) { s with heap := h', toks := tk }) (hn : min xs.size ys.size ≤ sizeLine) :
    wpAny (model prog w) A.in1 (Builtin.List.listExtendWith (.ref S) (.ref z) res)
      (fun fin s' => match fin with | .done f => R (.ok f) s' | .again c' => c'.quiet = true ∧ codeAny (model prog w) A c' R s') (fun e s' => R (.error e) s') s := by
  have X := src_zip (prog := prog) (w := w) (A := A.in1) hh D xs ys dz dTI dTO di1 di2 dl1 dl2
  have hTy : s.TypeIs (.ref z) "zip" := ⟨_, hz0, rfl⟩
  have key : ∀ (h : Heap) (c₁ tk : Nat), (∀ b o, b ≠ S → s.heap.get? b = some o → h.get? b = some o) → s.heap.objs.size ≤ h.objs.size →
      isL S #[] c₁ h → codeAny (model prog w) A (.builtin "list.extend.loop" ⟨[.ref S, .ref z, res], []⟩) R { s with heap := h, toks := tk } := by
    intro h c₁ tk hk hsz hS₁
    exact src_loop (s := s) (h₁ := s.heap) X (Heap.lt_size hS) hwl hn res hR
      (min xs.size ys.size) 0 h tk c₁ #[] [] (Nat.sub_zero _) (Nat.zero_le _) (X.frame 0 _ _ hst hk) (fun b o hb _ e => hk b o hb e) hS₁ rfl rfl
      ⟨List.Pairwise.nil, (fun _ ha => nomatch ha), (fun j a hj => by simp at hj)⟩ hsz
  unfold Builtin.List.listExtendWith
  refine wpAny_bind (wpAny_typeOf (T := "zip") hTy ?_)
  have h1 : Builtin.List.listSameRef (.ref S) (.ref z) = false := by simp [Builtin.List.listSameRef, dz]
  have h2 : (Value.type "zip" == Value.type "list") = false := by decide
  have h3 : (Value.type "zip" == Value.type "tuple") = false := by decide
  simp only [h1, h2, h3, Bool.or_false, Bool.false_eq_true, if_false]
  refine wpAny_bind (wpAny_pyIter_zip hz0 ?_)
  refine wpAny_bind (wpAny_holding (zip_hint hTy ?_))
  refine wpAny_ite_split (fun _ => ?_) (fun hab => absurd (by simp) hab)
  refine wpAny_bind (wpAny_rule ?_)
  refine wpAny_bind ?_
  show wpAny _ _ (updateSeq S (·.push .none) >>= fun _ => updateSeq S (·.pop)) _ _ _
  refine wpAny_bind (wpAny_updateSeq hS rfl ?_)
  have hS₂ := Heap.get?_update_self (Obj.mapSeq (·.push Value.none)) hS rfl
  refine wpAny_updateSeq (hz := by seq_fits) hS₂ rfl ?_
  have hS₃ := Heap.get?_update_self (Obj.mapSeq (·.pop)) hS₂ rfl
  refine wpAny_pure ⟨plainId_quiet PySem.F.plain_extend_loop _, key _ _ _ (fun b o hb e => ?_) ?_ hS₃⟩
  · exact (Heap.get?_update_other _ _ (Ne.symm hb)).trans ((Heap.get?_update_other _ _ (Ne.symm hb)).trans e)
  · rw [Heap.size_update, Heap.size_update]
    exact Nat.le_refl _
theorem zip_init {R : Result → Shared → Prop} {z TI TO i1 i2 l1 l2 S : Addr} {xs ys : Array Value} (hh : A.handled = none) (D : ZipApart z TI TO i1 i2 l1 l2) (dz : S ≠ z) (dTI : S ≠ TI) (dTO : S ≠ TO) (di1 : S ≠ i1) (di2 : S ≠ i2) (dl1 : S ≠ l1) (dl2 : S ≠ l2)
    (hst : ZSt z TI TO i1 i2 l1 l2 S xs ys 0 s.heap) (hz0 : IsZip s.heap z TI TO .none) (hwl : ∀ b ∈ [z, TO, i1, i2], b < s.heap.objs.size) (hS : s.heap.get? S = some { cls := .type "list", data := .seq #[] })
    (hR : ∀ h' tk acc c as, (∀ b o, b ≠ S → b ∉ [z, TO, i1, i2] → s.heap.get? b = some o → h'.get? b = some o) → isL S acc c h' → as.length = min xs.size ys.size → Got (ZRel xs ys) s.heap.objs.size h' as →
      acc.toList = as.map Value.ref → R (.ok (.ret .none)) { s with heap := h', toks := tk }) (hn : min xs.size ys.size ≤ sizeLine) :
    wpAny (model prog w) A.in1 (Builtin.«list.__init__» ⟨[.ref S, .ref z], []⟩)
      (fun fin s' => match fin with | .done f => R (.ok f) s' | .again c' => c'.quiet = true ∧ codeAny (model prog w) A c' R s') (fun e s' => R (.error e) s') s := by
  show wpAny _ _ (do let old ← Builtin.List.listItems (.ref S); Builtin.List.listUpdate (.ref S) (fun _ => #[]); letGo old.toList.reverse; Builtin.List.listExtendWith (.ref S) (.ref z) .none) _ _ s
  refine wpAny_bind ?_
  unfold Builtin.List.listItems
  refine wpAny_bind (wpAny_seqItems hS rfl (wpAny_pure ?_))
  show wpAny _ _ (updateSeq S (fun _ => #[]) >>= fun _ => letGo (#[] : Array Value).toList.reverse >>= fun _ => Builtin.List.listExtendWith (.ref S) (.ref z) .none) _ _ s
  refine wpAny_bind (wpAny_updateSeq hS rfl ?_)
  have hS₂ := Heap.get?_update_self (Obj.mapSeq (fun _ => (#[] : Array Value))) hS rfl
  have oth : ∀ b o, b ≠ S → s.heap.get? b = some o → (s.heap.update S (Obj.mapSeq (fun _ => (#[] : Array Value)))).get? b = some o :=
    fun b o hb e => (Heap.get?_update_other _ _ (Ne.symm hb)).trans e
  refine wpAny_bind (wpAny_letGo ?_)
  have X := src_zip (prog := prog) (w := w) (A := A.in1) hh D xs ys dz dTI dTO di1 di2 dl1 dl2
  refine zip_extend hh D dz dTI dTO di1 di2 dl1 dl2 (X.frame 0 _ _ hst oth) (oth z _ dz.symm hz0) (fun b hb => by rw [Heap.size_update]; exact hwl b hb) .none _ hS₂ (fun h' tk acc c as hk hS' hl hG hacc => ?_) hn
  refine hR h' tk acc c as (fun b o hb hw e => hk b o hb hw (oth b o hb e)) hS' hl ?_ hacc
  rw [Heap.size_update] at hG
  exact hG
theorem zip_call {Q : Value → Shared → Prop} {z TI TO i1 i2 l1 l2 : Addr} {xs ys : Array Value} (hh : A.handled = none) (D : ZipApart z TI TO i1 i2 l1 l2) (hTI : IsPair s.heap TI (.ref i1) (.ref i2)) (h1 : s.heap.IsListIter i1 l1 0) (h2 : s.heap.IsListIter i2 l2 0) (hl1 : s.heap.IsList l1 xs) (hl2 : s.heap.IsList l2 ys)
    (hz0 : IsZip s.heap z TI TO .none) (hTO : ∃ a b, IsPair s.heap TO a b) (hn : min xs.size ys.size ≤ sizeLine)
    (hQ : ∀ h' tk acc c as, (∀ b o, b ∉ [z, TO, i1, i2] → s.heap.get? b = some o → h'.get? b = some o) → isL s.heap.objs.size acc c h' → as.length = min xs.size ys.size → Got (ZRel xs ys) (s.heap.objs.size + 1) h' as →
      acc.toList = as.map Value.ref → Q (.ref s.heap.objs.size) { s with heap := h', toks := tk }) :
    wpAny (model prog w) A (call (.type "list") [.ref z]) Q E s := by
  refine callType_codes (Q₁ := fun obj s₁ => obj = .ref s.heap.objs.size ∧ s₁ = { s with heap := s.heap.push { cls := .type "list", data := .seq #[] } }) PySem.F.called_list (PySem.F.typeCall_list_1 _) PySem.F.entry_list_init
    (code_list_new _ ⟨rfl, rfl⟩) fun obj s₁ h₁ => ?_
  obtain ⟨rfl, rfl⟩ := h₁
  have hS : (s.heap.push { cls := .type "list", data := .seq #[] }).get? s.heap.objs.size = some { cls := .type "list", data := .seq #[] } := Heap.get?_push_size _ rfl
  obtain ⟨o1, e1, h1⟩ := h1
  obtain ⟨o2, e2, h2⟩ := h2
  obtain ⟨o3, e3, hl1⟩ := hl1
  obtain ⟨o4, e4, hl2⟩ := hl2
  obtain ⟨a, b, hTO⟩ := hTO
  have lt : ∀ {c o}, s.heap.get? c = some o → s.heap.objs.size ≠ c := fun e => Nat.ne_of_gt (Heap.lt_size e)
  have hsz : (s.heap.push { cls := .type "list", data := .seq #[] }).objs.size = s.heap.objs.size + 1 := Heap.size_push ..
  refine ⟨⟨_, hS, rfl⟩, PySem.F.args_list_init_2 _ _, zip_init (A := A.in1) hh D (lt hz0) (lt hTI) (lt hTO) (lt e1) (lt e2) (lt e3) (lt e4)
    ⟨Heap.get?_push_of_some _ hTI, ⟨o1, Heap.get?_push_of_some _ e1, h1⟩, ⟨o2, Heap.get?_push_of_some _ e2, h2⟩, ⟨o3, Heap.get?_push_of_some _ e3, hl1⟩, ⟨o4, Heap.get?_push_of_some _ e4, hl2⟩, .inl ⟨Heap.get?_push_of_some _ hz0, a, b, Heap.get?_push_of_some _ hTO⟩⟩
    (Heap.get?_push_of_some _ hz0) (fun b hb => ?_) hS (fun h' tk acc c as hk hS' hl hG hacc => ?_) hn⟩
  · show b < (s.heap.push _).objs.size
    rw [hsz]
    simp only [List.mem_cons, List.not_mem_nil, or_false] at hb
    rcases hb with rfl | rfl | rfl | rfl
    · exact Nat.lt_succ_of_lt (Heap.lt_size hz0)
    · exact Nat.lt_succ_of_lt (Heap.lt_size hTO)
    · exact Nat.lt_succ_of_lt (Heap.lt_size e1)
    · exact Nat.lt_succ_of_lt (Heap.lt_size e2)
  · have hG' : Got (ZRel xs ys) (s.heap.push { cls := .type "list", data := .seq #[] }).objs.size h' as := hG
    rw [hsz] at hG'
    exact ⟨rfl, hQ h' tk acc c as (fun b o hw e => hk b o (Nat.ne_of_lt (Heap.lt_size e)) hw (Heap.get?_push_of_some _ e)) hS' hl hG' hacc⟩
end
/-- list(zip(a, b)) -/
def tListZip (K : PySem.W.Frag) (ta : TA) : TE := fun σ H Q => ta σ H fun vs H1 => ∃ a b xs ys, vs = [V.ref a, V.ref b] ∧ SqL K H1 a xs ∧ SqL K H1 b ys ∧
  ∀ (H' : Hp) (p : Addr) (ts : List Addr), Same H1 H' → H1 p = none → H' p = some (.lst (ts.map V.ref)) → Paired (fun (t : Addr) (q : V × V) => H' t = some (.tup [q.1, q.2])) ts (xs.zip ys) → Q (.ref p) H'
theorem pe_listZip {X : Cx} {e e2 : Expr} {ta : TA} {p pz posz pos : Pos} (hc : X.calm = true) (ha : PA X [e, e2] ta) (hg : Gl X "list") (hm : X.mg "list" = none) (hv : bootBuiltins "list" = some (.type "list")) (hgz : Gl X "zip") (hmz : X.mg "zip" = none)
    (hs : starEach [.Call (.Name "zip" pz) [e, e2] [] posz] X.env = (false, eval (.Call (.Name "zip" pz) [e, e2] [] posz) X.env) :: starEach [] X.env := by rfl)
    (hsz : starEach [e, e2] X.env = (false, eval e X.env) :: starEach [e2] X.env := by rfl) (hplz : (backTo posz (starEach [e2] X.env)).any (·.1) = false := by rfl) :
    PE X (.Call (.Name "list" p) [.Call (.Name "zip" pz) [e, e2] [] posz] [] pos) (tListZip X.K ta) := by
  refine ⟨fun pins s σ H Q I hq => ?_⟩
  refine wpAny_Call_Name_kw (ld_blt I hg hm hv ?_)
  refine PyProof.Rows.callWith_type1 ?_ hs rfl
  rw [hs]
  show wpAny _ _ (spliced ((false, eval (.Call (.Name "zip" pz) [e, e2] [] posz) X.env) :: backTo pos (starEach [] X.env))) _ _ s
  refine Calls.spliced_cons ?_
  refine Call_ (ld_blt I hgz hmz PyProof.Rows.boot_zip (PyProof.Rows.callWith_type1 (thn (ha.run posz pins s σ H _ I hq) fun us s1 ⟨vs, H1, I1, r1, q1⟩ => ?_) hsz hplz))
  obtain ⟨a, b, xs, ys, ex, hqx, hqy, q⟩ := q1
  subst ex
  obtain ⟨u1, u2, rfl, ra, rb⟩ := r1.two
  cases (show u1 = Value.ref a from ra)
  cases (show u2 = Value.ref b from rb)
  obtain ⟨its, rv, p1, z1⟩ := I1.list hqx
  obtain ⟨its2, rv2, p2, z2⟩ := I1.list hqy
  refine call_zip_2 p1.isList p2.isList fun h1 hz hTI hTO hi1 hi2 hsz1 hk => ?_
  refine Calls.spliced_nil ?_
  have lx := rv.length
  have ly := rv2.length
  have mz : min its.toArray.size its2.toArray.size = (xs.zip ys).length := by rw [List.length_zip, List.size_toArray, List.size_toArray, lx, ly]
  have D := PySem.W.ktu_apart s1.heap.objs.size a b p1.lt p2.lt
  refine zip_call (s := { s1 with heap := h1 }) (I1.ok.hd hc) D hTI hi1 hi2 (p1.isList.at fun o e => hk _ o e) (p2.isList.at fun o e => hk _ o e) hz ⟨_, _, hTO⟩ (by rw [mz, List.length_zip]; omega) fun h' tk acc c as hk2 hS hl hG hacc => ?_
  have hrel : ∀ j k v, ZRel its.toArray its2.toArray j k v → ∃ p, (xs.zip ys)[j]? = some p ∧ RelV p.1 k ∧ RelV p.2 v := fun j k v hr => by
    obtain ⟨e1, e2⟩ := hr
    have f1 : its[j]? = some k := by simpa using e1
    have f2 : its2[j]? = some v := by simpa using e2
    have hj1 : j < xs.length := by rw [lx]; exact (List.getElem?_eq_some_iff.mp f1).1
    have hj2 : j < ys.length := by rw [ly]; exact (List.getElem?_eq_some_iff.mp f2).1
    obtain ⟨x, g1⟩ : ∃ x, xs[j]? = some x := ⟨xs[j], by simp [hj1]⟩
    obtain ⟨y, g3⟩ : ∃ y, ys[j]? = some y := ⟨ys[j], by simp [hj2]⟩
    obtain ⟨k', h1, g2⟩ := rv.get g1
    obtain ⟨v', h2, g4⟩ := rv2.get g3
    rw [f1] at h1
    rw [f2] at h2
    cases h1
    cases h2
    exact ⟨(x, y), List.getElem?_zip_eq_some.mpr ⟨g1, g3⟩, g2, g4⟩
  have hkeep : ∀ bb o, s1.heap.get? bb = some o → h'.get? bb = some o := fun bb o e => hk2 bb o (fun z => by
    have hb := Heap.lt_size e
    simp only [List.mem_cons, List.not_mem_nil, or_false] at z
    rcases z with z | z | z | z <;> (rw [z] at hb; exact Nat.not_lt.mpr (by first | exact Nat.le_add_right _ _ | exact Nat.le_refl _) hb)) (hk bb o e)
  obtain ⟨H', k1, k2, k3, k4, J⟩ := got_laid (tk := tk) (ps := xs.zip ys) (S := h1.objs.size) (lo := h1.objs.size + 1) I1 (by rw [List.length_zip]; omega) hrel hkeep (by rw [hsz1]; exact Nat.le_add_right _ _) (Nat.lt_succ_self _) hS (by rw [hl, mz]) hG hacc
  exact ⟨.ref _, H', J, rfl, q H' _ as k1 k2 k3 k4⟩
/-! ### xs[k::2] -/
def evry {α : Type} : List α → List α
  | [] => []
  | [a] => [a]
  | a :: _ :: r => a :: evry r
theorem evry_pick {α : Type} : ∀ l : List α, (List.range ((l.length + 1) / 2)).filterMap (fun k => l[2 * k]?) = evry l
  | [] => by simp [evry]
  | [a] => by simp [evry]
  | a :: b :: r => by
    have ih := evry_pick r
    have e : ((a :: b :: r).length + 1) / 2 = (r.length + 1) / 2 + 1 := by simp only [List.length_cons]; omega
    rw [e, List.range_succ_eq_map, List.filterMap_cons, List.filterMap_map]
    have e0 : (a :: b :: r)[2 * 0]? = some a := rfl
    rw [e0]
    show a :: _ = a :: evry r
    rw [← ih]
    rfl
theorem evry_vals : ∀ {xs : List V} {us : List Value}, Vals xs us → Vals (evry xs) (evry us)
  | _, _, .nil => .nil
  | _, _, .cons r .nil => .cons r .nil
  | _, _, .cons r (.cons _ t) => .cons r (evry_vals t)
theorem evry_len {α : Type} : ∀ l : List α, (evry l).length ≤ l.length
  | [] => Nat.le_refl _
  | [_] => Nat.le_refl _
  | a :: b :: r => by have := evry_len r; simp only [evry, List.length_cons]; omega
theorem slice2 (items : Array Value) (k : Nat) : slicePick items (some (k : Int)) none (some 2) = (evry (items.toList.drop k)).toArray := by
  have hb : sliceBounds (some (k : Int)) none (some 2) items.size = (((min k items.size : Nat) : Int), (items.size : Int), 2) := by
    simp only [sliceBounds, Option.getD_some]
    rw [if_neg (show ¬ ((k : Int) < 0) by omega)]
    have : max 0 (min (k : Int) (items.size : Int)) = ((min k items.size : Nat) : Int) := by omega
    simp [this]
  unfold slicePick
  rw [hb]
  show ((sliceRange (((min k items.size : Nat) : Int)) (items.size : Int) 2).filterMap (items[·]?)).toArray = _
  congr 1
  have hr : sliceRange (((min k items.size : Nat) : Int)) (items.size : Int) 2 = (List.range (((items.size - min k items.size) + 1) / 2)).map (fun j => min k items.size + 2 * j) := by
    unfold sliceRange
    rw [if_pos (by decide)]
    have e : ((if ((min k items.size : Nat) : Int) < (items.size : Int) then ((items.size : Int) - ((min k items.size : Nat) : Int) + 2 - 1) / 2 else 0) : Int).toNat = ((items.size - min k items.size) + 1) / 2 := by
      split <;> omega
    show (List.range (Int.toNat _)).map _ = _
    rw [e]
    refine List.map_congr_left fun j _ => ?_
    omega
  rw [hr]
  have hl : (items.toList.drop k).length = items.size - min k items.size := by rw [List.length_drop, Array.length_toList]; omega
  rw [← evry_pick, hl, List.filterMap_map]
  have ef : ((fun i => items[i]?) ∘ fun j => min k items.size + 2 * j) = (fun j => (items.toList.drop k)[2 * j]?) := by
    funext j
    show items[min k items.size + 2 * j]? = (items.toList.drop k)[2 * j]?
    rw [List.getElem?_drop, ← Array.getElem?_toList]
    by_cases h : k ≤ items.size
    · rw [Nat.min_eq_left h]
    · rw [List.getElem?_eq_none (by rw [Array.length_toList]; omega), List.getElem?_eq_none (by rw [Array.length_toList]; omega)]
  rw [ef]
def tEvry (K : PySem.W.Frag) (k : Nat) (te : TE) : TE := fun σ H Q => te σ H fun x H1 => ∃ a xs, x = .ref a ∧ SqL K H1 a xs ∧ ∀ p, H1 p = none → Q (.ref p) (upd H1 p (.lst (evry (xs.drop k))))
section
variable {X : Cx}
theorem pe_slice2 {e : Expr} {te : TE} {c k k2 : Nat} {p1 p2 p3 pos : Pos} (he : PE X e te) : PE X (.Subscript e (.Slice (some (.Constant (.int (k : Int)) c p1)) none (some (.Constant (.int 2) k2 p2)) p3) pos) (tEvry X.K k te) := by
  refine ⟨fun pins s σ H Q I h => ?_⟩
  refine Subscript_ (thn (he.run pins s σ H _ I h) fun v s1 ⟨x, H1, I1, r1, q1⟩ => ?_)
  obtain ⟨a, xs, ex, hx, q⟩ := q1
  subst ex
  cases r1
  have hlo : PO X (some (.Constant (.int (k : Int)) c p1)) (tPart (tC (.int (k : Int)))) := po_some pe_int
  have hst : PO X (some (.Constant (.int 2) k2 p2)) (tPart (tC (.int 2))) := po_some pe_int
  refine wpAny_Slice (thn (hlo.run pins s1 σ H1 (fun o H2 => o = some (k : Int) ∧ H2 = H1) I1 ⟨_, rfl, rfl, rfl⟩) fun vl s2 ⟨l, H2, I2, pl, el, e2⟩ => ?_)
  subst el e2
  refine thn (po_none.run pins s2 σ H2 (fun o H3 => o = none ∧ H3 = H2) I2 ⟨rfl, rfl⟩) fun vu s3 ⟨u, H3, I3, pu, eu, e3⟩ => ?_
  subst eu e3
  refine thn (hst.run pins s3 σ H3 (fun o H4 => o = some 2 ∧ H4 = H3) I3 ⟨_, rfl, rfl, rfl⟩) fun vs s4 ⟨o, H4, I4, ps, eo, e4⟩ => ?_
  subst eo e4
  have I5 : Inv X pins σ H4 { s4 with heap := s4.heap.push { cls := .type "slice", data := .fields #[vl, vu, vs] } } := I4.kept (t' := s4.toks) fun b ob q => Heap.get?_push_of_some _ q
  obtain ⟨its, r, ht, hz⟩ := I5.list hx
  have hlen := r.length
  show wpAny (model X.prog X.w) X.A (subscriptTail e (.Slice (some (.Constant (.int (k : Int)) c p1)) none (some (.Constant (.int 2) k2 p2)) p3) (.ref a) (.ref s4.heap.objs.size)) (EP X pins σ Q) X.xe { s4 with heap := s4.heap.push { cls := .type "slice", data := .fields #[vl, vu, vs] } }
  refine tail_any (ops := [.ref a, .ref s4.heap.objs.size]) ht.isList.typeIs (PySem.slot_list_getitem.lookup) ?_ (by with_unfolding_all rfl)
  refine wpAny_getItem_list_slice ht.isList (Heap.IsSliceOf.new _ vl vu vs) pl pu ps (by decide) ?_ (by rw [List.size_toArray]; omega)
  rw [slice2]
  refine ⟨.ref _, _, I5.laid (t' := s4.toks) (o := .lst (evry (xs.drop k))) (fun b ob q => Heap.get?_push_of_some _ q) (Nat.le_refl _) ?_, rfl, q _ (I5.hok.fresh (Nat.le_refl _))⟩
  exact ⟨by have := evry_len (xs.drop k); rw [List.length_drop] at this; omega, _, 0, evry_vals (r.drop k), Heap.get?_push_size _ rfl⟩
end
end Wb

/-! signed_terms, terms_told, are_terms, sorted_terms. -/
namespace Wb
open PySem PySem.Spec PyProof.Rows L2 SX TL
open C8 (pe_gc pss_cut tCut)
section
variable {P : Program} {w : World} {K : PySem.W.Frag} {mg : Str → Option Value} {base : Heap} {A : Ad} {X : Cx}
abbrev Prs := List (List Nat × List Nat)
abbrev TxPair (H : Hp) (t : Addr) (q : List Nat × List Nat) : Prop := H t = some (.tup [.str (S q.1), .str (S q.2)])
def spSigned : Sp := fun vs H Q _ => ∃ t, vs = [.str (S t)] ∧ t.length ≤ 100000 ∧ ∀ H', Same H H' → (signed t = none → Q .non H') ∧ ∀ ps p as, signed t = some ps → H' p = some (.lst (as.map V.ref)) → Paired (TxPair H') as ps → Q (.ref p) H'
theorem zip_evry : ∀ l : List (List Nat), l.length % 2 = 0 → (evry l).zip (evry (l.drop 1)) = pairUp l
  | [], _ => rfl
  | [a], h => by simp at h
  | [a, b], h => rfl
  | a :: b :: c :: r, h => by
    have ih := zip_evry (c :: r) (by simp at h ⊢; omega)
    have e : evry (b :: c :: r) = b :: evry ((c :: r).drop 1) := by cases r <;> rfl
    show (a :: evry (c :: r)).zip (evry (b :: c :: r)) = (a, b) :: pairUp (c :: r)
    rw [e, List.zip_cons_cons, ih]
theorem evry_map {α β : Type} (f : α → β) : ∀ l : List α, evry (l.map f) = (evry l).map f
  | [] => rfl
  | [a] => rfl
  | a :: b :: r => by
    show f a :: evry (r.map f) = f a :: (evry r).map f
    rw [evry_map f r]
theorem spl_len : ∀ (l : List Nat) (k : Nat) (acc : List Nat), (TL.spl [32] k acc l).length ≤ l.length + 1
  | [], k, acc => by rw [TL.spl_nil]; simp
  | c :: r, 0, acc => by
    by_cases h : TL.pre [32] (c :: r) = true
    · rw [TL.spl_hit h]
      have := spl_len r ([32].length - 1) []
      simp at this ⊢
      omega
    · rw [TL.spl_miss (by simpa using h)]
      have := spl_len r 0 (acc ++ [c])
      simp
      omega
  | c :: r, k + 1, acc => by
    have := spl_len r k acc
    show (TL.spl [32] k acc r).length ≤ _
    simp
    omega
theorem spl_mem_len : ∀ (l : List Nat) (k : Nat) (acc : List Nat), ∀ w ∈ TL.spl [32] k acc l, w.length ≤ acc.length + l.length
  | [], k, acc, w, h => by rw [TL.spl_nil] at h; simp at h; rw [h]; simp
  | c :: r, 0, acc, w, h => by
    by_cases hc : TL.pre [32] (c :: r) = true
    · rw [TL.spl_hit hc] at h
      rcases List.mem_cons.mp h with e | h
      · rw [e]; simp
      · have := spl_mem_len r ([32].length - 1) [] w h
        simp at this ⊢
        omega
    · rw [TL.spl_miss (by simpa using hc)] at h
      have := spl_mem_len r 0 (acc ++ [c]) w h
      simp at this ⊢
      omega
  | c :: r, k + 1, acc, w, h => by
    have := spl_mem_len r k acc w h
    simp
    omega
theorem words_ne (t : List Nat) : ∃ w r, words t = w :: r := by
  unfold words
  suffices ∀ (l : List Nat) (k : Nat) (acc : List Nat), ∃ w r, TL.spl [32] k acc l = w :: r from this t 0 []
  intro l
  induction l with
  | nil => intro k acc; exact ⟨acc, [], TL.spl_nil ..⟩
  | cons c r ih =>
    intro k acc
    cases k with
    | zero =>
      by_cases hc : TL.pre [32] (c :: r) = true
      · exact ⟨_, _, TL.spl_hit hc⟩
      · rw [TL.spl_miss (by simpa using hc)]
        exact ih 0 _
    | succ k => exact ih k acc
theorem words_mem {t w : List Nat} (h : w ∈ words t) : w.length ≤ t.length := by have := spl_mem_len t 0 [] w h; simpa using this
theorem words_len (t : List Nat) : (words t).length ≤ t.length + 1 := spl_len t 0 []
theorem Paired.map_r {α β γ : Type} {F : α → γ → Prop} {g : β → γ} : ∀ {xs : List α} {ys : List β}, Paired F xs (ys.map g) → Paired (fun a b => F a (g b)) xs ys
  | [], [], _ => .nil
  | _ :: _, [], h => by cases h
  | [], _ :: _, h => by cases h
  | a :: xs, b :: ys, h => by
    cases h with
    | cons h1 h2 => exact .cons h1 (Paired.map_r h2)
theorem zip_maps {α β γ δ : Type} (f : α → γ) (g : β → δ) (xs : List α) (ys : List β) : (xs.map f).zip (ys.map g) = (xs.zip ys).map fun p => (f p.1, g p.2) := by
  rw [List.zip_map]
  rfl
theorem c_signed_terms (T : Txt K mg A) : FnR P w K mg base CX0 1 A.signed_terms spSigned := by
  refine fnr T.d_signed_terms sc_signed_terms (fun _ _ _ _ _ _ us hl => match us, hl with | [_], _ => rfl) (fun vs H Q E h => by obtain ⟨_, rfl, _⟩ := h; rfl) (fun fd cdv A' outer s H vs Q E hr h => ?_)
  obtain ⟨t, rfl, hl, q⟩ := h
  refine ⟨_, (pss_cons (ps_set (i := 1) sc_signed_terms.nd rfl (Or.inl rfl) (pe_split (pv 0) pe_str))
    (pss_cons (ps_if (pt_cmpR op_eq (pe_op op_mod (pe_callB call_len_seq (by rfl) T.f_len (by decide +kernel) (pa_cons (pv 1) pa_nil)) pe_int) pe_int (nomark _))
      (pss_one (ps_ret pe_non))
      pss_nil)
    (pss_cut (ps_set (i := 2) sc_signed_terms.nd rfl (Or.inl rfl) (pe_ifExp (pt_cmpR op_eq (pe_slice sl_str (pe_ix ix_list (pv 1) pe_int (fun _ _ => rfl)) po_none (po_some pe_int)) pe_str (nomark _)) (pe_tup (pa_cons pe_str (pa_cons (pe_slice sl_str (pe_ix ix_list (pv 1) pe_int (fun _ _ => rfl)) (po_some pe_int) po_none) pa_nil))) (pe_tup (pa_cons pe_str (pa_cons (pe_ix ix_list (pv 1) pe_int (fun _ _ => rfl)) pa_nil)))))
    (pss_one (ps_ret (pe_lst (pa_cons (pv 2) (StX.pa_star (pe_listZip rfl (pa_cons (pe_slice2 (k := 1) (pv 1)) (pa_cons (pe_slice2 (k := 2) (pv 1)) pa_nil)) (by rfl) T.f_list (by decide +kernel) (by rfl) T.f_zip) pa_nil)))))))), ?_⟩
  have hz : (S t).length ≤ sizeLine := by rw [S_len]; exact len_small (by omega)
  have hsp : Txt.split (S t) (Str.ofString " ") = (words t).map S := split_S (b := [32]) (by simp) (by decide)
  obtain ⟨w0, wr, ew⟩ := words_ne t
  have hw0 : w0.length ≤ 100000 := Nat.le_trans (words_mem (t := t) (w := w0) (by rw [ew]; exact List.mem_cons_self ..)) hl
  refine ⟨_, rfl, ⟨_, rfl⟩, S t, _, rfl, rfl, by decide, by rw [S_len]; exact len_small (by omega), fun pw hpw => ?_⟩
  rw [hsp]
  have hWt : (upd H pw (.lst (((words t).map S).map V.str))) pw = some (.lst ((words t).map fun w => V.str (S w))) := by rw [upd_same, List.map_map]; rfl
  have s1 : Same H (upd H pw (.lst (((words t).map S).map V.str))) := same_new hpw
  generalize upd H pw (.lst (((words t).map S).map V.str)) = H1 at hWt s1
  have hat : atI ((words t).map fun w => V.str (S w)) 0 = some (.str (S w0)) := atI_nat (j := 0) (by rw [ew]; rfl)
  refine ⟨_, rfl, pw, _, rfl, .inl (SqL.of hWt), _, _, rfl, rfl, by show (0 : Int) < 2; decide, rfl, _, rfl, ite2 (fun h => ?_) (fun h => ?_)⟩
  · refine (q _ s1).1 ?_
    unfold signed
    rw [if_pos]
    have := of_decide_eq_true h
    injection this with this
    rw [List.length_map] at this
    omega
  have hodd : (words t).length % 2 = 1 := by
    have hne : ¬ (words t).length % 2 = 0 := fun z => h (decide_eq_true (congrArg V.int (show ((((words t).map fun w => V.str (S w)).length : Nat) : Int) % 2 = 0 by rw [List.length_map]; omega)))
    omega
  have hsg : signed t = some (firstOf w0 :: pairUp wr) := by
    unfold signed
    rw [if_neg (by omega), ew]
    rfl
  have hzw : (S w0).length ≤ sizeLine := by rw [S_len]; exact len_small (by omega)
  have ht1 : cutS (S w0) none (some 1) = S (w0.take 1) := cut_to (by decide)
  have hd1 : cutS (S w0) (some 1) none = S (w0.drop 1) := cut_from (by decide)
  refine ⟨fun σ' H' => ∃ tf, σ' = [some (.str (S t)), some (.ref pw), some (.ref tf)] ∧ Same H1 H' ∧ TxPair H' tf (firstOf w0), ?_, ?_⟩
  · refine ⟨_, rfl, pw, _, 0, _, rfl, rfl, SqL.of hWt, hat, 1, rfl, _, rfl, hzw, rfl, _, rfl, ?_⟩
    rw [ht1]
    refine ite2 (fun h => ?_) (fun h => ?_)
    · have e : w0.take 1 = [45] := teq_t (b := [45]) rfl h
      refine ⟨_, rfl, pw, _, 0, _, rfl, rfl, SqL.of hWt, hat, 1, rfl, _, rfl, hzw, by show 2 ≤ sizeLine; decide, fun tf htf => ⟨tf, rfl, same_new htf, ?_⟩⟩
      show upd _ tf _ tf = _
      rw [upd_same, hd1]
      unfold firstOf
      rw [if_pos e]
      rfl
    · have e : w0.take 1 ≠ [45] := teq_f (b := [45]) rfl h
      refine ⟨_, rfl, pw, _, 0, _, rfl, rfl, SqL.of hWt, hat, by show 2 ≤ sizeLine; decide, fun tf htf => ⟨tf, rfl, same_new htf, ?_⟩⟩
      show upd _ tf _ tf = _
      rw [upd_same]
      unfold firstOf
      rw [if_neg e]
      rfl
  rintro σ' H2 ⟨tf, rfl, s2, htf⟩
  have hW2 := s2 _ _ hWt
  refine ⟨_, rfl, _, rfl, pw, _, rfl, SqL.of hW2, fun p1 h1 => ⟨_, rfl, pw, _, rfl, SqL.of (same_new h1 _ _ hW2), fun p2 h2 => ?_⟩⟩
  have s3 := (same_new (o := .lst (evry (((words t).map fun w => V.str (S w)).drop 1))) h1).trans (same_new (o := .lst (evry (((words t).map fun w => V.str (S w)).drop 2))) h2)
  refine ⟨p1, p2, _, _, rfl, SqL.of (by rw [upd_ne (ne_of_none upd_same h2), upd_same]), SqL.of upd_same, fun H' p ts k1 k2 k3 k4 => ?_⟩
  have ez : (evry (((words t).map fun w => V.str (S w)).drop 1)).zip (evry (((words t).map fun w => V.str (S w)).drop 2)) = (pairUp wr).map fun q => (V.str (S q.1), V.str (S q.2)) := by
    rw [ew]
    have e1 : ((w0 :: wr).map fun w => V.str (S w)).drop 1 = wr.map fun w => V.str (S w) := rfl
    have e2 : ((w0 :: wr).map fun w => V.str (S w)).drop 2 = (wr.drop 1).map fun w => V.str (S w) := by rw [← List.map_drop]; rfl
    rw [e1, e2, evry_map, evry_map, zip_maps, zip_evry wr (by rw [ew] at hodd; simp at hodd; omega)]
  rw [ez] at k4
  have s4 : Same H2 H' := s3.trans k1
  have hts : ts.length = (pairUp wr).length := by have := Paired.length k4; rw [List.length_map] at this; exact this
  have hpl : ∀ l : List (List Nat), (pairUp l).length ≤ l.length := by
    intro l
    have : ∀ n (l : List (List Nat)), l.length ≤ n → (pairUp l).length ≤ l.length := by
      intro n
      induction n with
      | zero => intro l h; cases l with | nil => simp [pairUp] | cons a r => simp at h
      | succ n ih =>
        intro l h
        match l with
        | [] => simp [pairUp]
        | [a] => simp [pairUp]
        | a :: b :: r =>
          have := ih r (by simp at h; omega)
          simp [pairUp]
          omega
    exact this _ l (Nat.le_refl _)
  have hwl := words_len t
  have hwr := hpl wr
  rw [ew, List.length_cons] at hwl
  refine ⟨p, _, rfl, .inr (SqL.of k3), ?_, fun l hl => ?_⟩
  · refine len_small ?_
    simp
    omega
  · have s5 : Same H' (upd H' l (.lst (V.ref tf :: (ts.map V.ref ++ [])))) := same_new hl
    refine (q _ (s1.trans (s2.trans (s4.trans s5)))).2 _ l (tf :: ts) hsg ?_ (.cons (s5 _ _ (s4 _ _ htf)) ?_)
    · rw [upd_same]
      simp
    · exact Paired.mapP (Paired.map_r k4) fun a b e => s5 _ _ e
/-! ### dicts -/
theorem putK_kvI (d : Rw) (e v : Int) : putK (kvI d) (Sum.inl e : Key) (.int v) = kvI (putI d e v) := by
  unfold putK putI
  have ea : ((kvI d).any fun kv => decide (kv.1 = (Sum.inl e : Key))) = d.any fun p => decide (p.1 = e) := by
    unfold kvI
    rw [List.any_map]
    congr 1
    funext p
    show decide ((Sum.inl p.1 : Key) = Sum.inl e) = _
    rw [decide_eq_decide]
    exact ⟨fun h => by injection h, fun h => by rw [h]⟩
  rw [ea]
  split
  · unfold kvI
    rw [List.map_map, List.map_map]
    refine List.map_congr_left fun p _ => ?_
    show (if (Sum.inl p.1 : Key) = Sum.inl e then _ else _) = _
    by_cases h : p.1 = e
    · rw [if_pos (by rw [h])]
      show _ = (Sum.inl (if p.1 = e then (p.1, v) else p).1, V.int (if p.1 = e then (p.1, v) else p).2)
      rw [if_pos h]
    · rw [if_neg (fun z => h (by injection z))]
      show _ = (Sum.inl (if p.1 = e then (p.1, v) else p).1, V.int (if p.1 = e then (p.1, v) else p).2)
      rw [if_neg h]
  · unfold kvI
    rw [List.map_append]
    rfl
theorem putI_len (d : Rw) (e v : Int) : (putI d e v).length ≤ d.length + 1 := by
  unfold putI
  split
  · rw [List.length_map]; omega
  · rw [List.length_append]; simp
def NdK (d : Rw) : Prop := (d.map (·.1)).Nodup
theorem putI_nd {d : Rw} (h : NdK d) (e v : Int) : NdK (putI d e v) := by
  unfold putI NdK at *
  split
  · have : (d.map fun p => if p.1 = e then (p.1, v) else p).map (·.1) = d.map (·.1) := by
      rw [List.map_map]
      refine List.map_congr_left fun p _ => ?_
      show (if p.1 = e then (p.1, v) else p).1 = p.1
      split <;> rfl
    rw [this]
    exact h
  · rename_i hn
    rw [List.map_append]
    refine List.nodup_append.mpr ⟨h, by simp, fun a ha b hb => ?_⟩
    simp at hb
    subst hb
    rintro rfl
    apply hn
    obtain ⟨p, hp, e1⟩ := List.mem_map.mp ha
    exact List.any_eq_true.mpr ⟨p, hp, by simp [e1]⟩
theorem tellAll_nd : ∀ (ps : Prs) (d r : Rw), NdK d → tellAll d ps = some r → NdK r ∧ r.length ≤ d.length + ps.length
  | [], d, r, h, e => by simp [tellAll] at e; subst e; exact ⟨h, by simp⟩
  | p :: ps, d, r, h, e => by
    unfold tellAll at e
    cases et : tell d p with
    | none => rw [et] at e; cases e
    | some d' =>
      rw [et] at e
      have hd : NdK d' ∧ d'.length ≤ d.length + 1 := by
        unfold tell at et
        cases eq : termTold p.2 with
        | none => rw [eq] at et; cases et
        | some q =>
          rw [eq] at et
          by_cases hc : p.1 = [43] ∨ p.1 = [45]
          · simp only [if_pos hc] at et
            cases et
            exact ⟨putI_nd h .., putI_len ..⟩
          · simp only [if_neg hc] at et
            cases et
      have := tellAll_nd ps d' r hd.1 e
      refine ⟨this.1, ?_⟩
      rw [List.length_cons]
      omega
theorem pair_len : ∀ (n : Nat) (l : List (List Nat)), l.length ≤ n → 2 * (pairUp l).length ≤ l.length
  | 0, l, h => by cases l with | nil => simp [pairUp] | cons a r => simp at h
  | n + 1, [], h => by simp [pairUp]
  | n + 1, [a], h => by simp [pairUp]
  | n + 1, a :: b :: r, h => by
    have := pair_len n r (by simp at h; omega)
    simp [pairUp]
    omega
theorem signed_len {t : List Nat} {ps : Prs} (h : signed t = some ps) : 2 * ps.length ≤ (words t).length + 1 := by
  unfold signed at h
  split at h
  · cases h
  · injection h with h
    rename_i hn
    obtain ⟨w, r, e⟩ := words_ne t
    rw [e] at h hn ⊢
    rw [← h]
    have := pair_len r.length r (Nat.le_refl _)
    simp
    omega
theorem told_nd {t : List Nat} {d : Rw} (h : told t = some d) : NdK d ∧ 2 * d.length ≤ (words t).length + 1 := by
  unfold told at h
  split at h
  · injection h with h
    subst h
    exact ⟨List.nodup_nil, by simp⟩
  · cases e : signed t with
    | none => rw [e] at h; cases h
    | some ps =>
      rw [e] at h
      have a1 := tellAll_nd ps [] d List.nodup_nil h
      have a2 := signed_len e
      refine ⟨a1.1, ?_⟩
      have a3 := a1.2
      rw [List.length_nil] at a3
      omega
theorem pair_mem : ∀ (n : Nat) (l : List (List Nat)), l.length ≤ n → ∀ q ∈ pairUp l, q.1 ∈ l ∧ q.2 ∈ l
  | 0, l, h, q, m => by cases l with | nil => simp [pairUp] at m | cons a r => simp at h
  | n + 1, [], h, q, m => by simp [pairUp] at m
  | n + 1, [a], h, q, m => by simp [pairUp] at m
  | n + 1, a :: b :: r, h, q, m => by
    rcases List.mem_cons.mp (show q ∈ (a, b) :: pairUp r from m) with e | m
    · subst e; simp
    · have := pair_mem n r (by simp at h; omega) q m
      simp [this.1, this.2]
theorem firstOf_len (w : List Nat) : (firstOf w).2.length ≤ w.length := by
  unfold firstOf
  split
  · show (w.drop 1).length ≤ _
    rw [List.length_drop]
    omega
  · exact Nat.le_refl _
theorem signed_mem {t : List Nat} {ps : Prs} (h : signed t = some ps) : ∀ q ∈ ps, q.2.length ≤ t.length := by
  intro q m
  unfold signed at h
  split at h
  · cases h
  · injection h with h
    obtain ⟨w, r, e⟩ := words_ne t
    have hm : ∀ x ∈ w :: r, x.length ≤ t.length := fun x hx => words_mem (by rw [e]; exact hx)
    rw [e] at h
    rw [← h] at m
    rcases List.mem_cons.mp m with e1 | m
    · rw [e1]
      exact Nat.le_trans (firstOf_len _) (hm w (List.mem_cons_self ..))
    · exact hm _ (List.mem_cons_of_mem _ (pair_mem _ r (Nat.le_refl _) q m).2)
theorem inV_sign (c : List Nat) : inV (.str (S c)) [.str (Str.ofString "+"), .str (Str.ofString "-")] = decide (c = [43] ∨ c = [45]) := by
  show ((Str.ofString "+" == S c) || ((Str.ofString "-" == S c) || false)) = _
  rw [show Str.ofString "+" = S [43] from rfl, show Str.ofString "-" = S [45] from rfl, S_beq_eq, S_beq_eq, Bool.or_false, Bool.eq_iff_iff]
  simp only [Bool.or_eq_true, decide_eq_true_eq]
  exact ⟨fun h => h.imp Eq.symm Eq.symm, fun h => h.imp Eq.symm Eq.symm⟩
theorem iteTk {c : Bool} {A B : Prop} (hc : c = true) (h : A) : if c = true then A else B := by subst hc; exact iteT h
theorem iteFk {c : Bool} {A B : Prop} (hc : c = false) (h : B) : if c = true then A else B := by subst hc; exact iteF h
theorem teqT {a b : List Nat} {y : Str} (hy : y = S b) (h : a = b) : decide (V.str (S a) = V.str y) = true := by rw [vs_dec hy]; exact decide_eq_true h
theorem teqF {a b : List Nat} {y : Str} (hy : y = S b) (h : a ≠ b) : decide (V.str (S a) = V.str y) = false := by rw [vs_dec hy]; exact decide_eq_false h
theorem tneT {a b : List Nat} {y : Str} (hy : y = S b) (h : a ≠ b) : (!decide (V.str (S a) = V.str y)) = true := by rw [vs_dec hy, decide_eq_false h]; rfl
theorem tneF {a b : List Nat} {y : Str} (hy : y = S b) (h : a = b) : (!decide (V.str (S a) = V.str y)) = false := by rw [vs_dec hy, decide_eq_true h]; rfl
def spTermsTold : Sp := fun vs H Q _ => ∃ t, vs = [.str (S t)] ∧ t.length ≤ 100000 ∧ ∀ H', Same H H' → (told t = none → Q .non H') ∧ ∀ d p, told t = some d → H p = none → H' p = some (.dK (kvI d)) → Q (.ref p) H'
theorem c_terms_told (T : Txt K mg A) : FnR P w K mg base CX0 4 A.terms_told spTermsTold := by
  refine fnr T.d_terms_told sc_terms_told (fun _ _ _ _ _ _ us hl => match us, hl with | [_], _ => rfl) (fun vs H Q E h => by obtain ⟨_, rfl, _⟩ := h; rfl) (fun fd cdv A' outer s H vs Q E hr h => ?_)
  obtain ⟨t, rfl, hl, q⟩ := h
  have hu := hu_of hr
  refine ⟨_, (pss_cons (ps_set (i := 1) sc_terms_told.nd rfl (Or.inl rfl) (pe_f (c_signed_terms T) hr (by decide) (by rfl) T.g_signed_terms T.k_signed_terms (pa_cons (pv 0) pa_nil)))
    (pss_cons (ps_if (PW.pt (pw_or (pt_cmpR op_eq (pv 0) pe_str (nomark _)) (pw_or1 (pt_cmpR op_isN (pv 1) pe_non (nomark _)))))
      (pss_one (ps_ret (pe_ifExp (pt_cmpR op_eq (pv 0) pe_str (nomark _)) pe_dnewK pe_non)))
      pss_nil)
    (pss_cons (ps_set (i := 2) sc_terms_told.nd rfl (Or.inl rfl) pe_dnewK)
    (pss_cons (ps_for PassesOwn.never rfl (pi_list (pv 1)) (pg_tup rfl (pgs_cons (pg_name (i := 3) sc_terms_told.nd rfl (Or.inl rfl)) (pgs_cons (pg_name (i := 4) sc_terms_told.nd rfl (Or.inl rfl)) pgs_nil)))
      (pss_cons (ps_set (i := 5) sc_terms_told.nd rfl (Or.inl rfl) (pe_f (c_term_told T) hr (by decide) (by rfl) T.g_term_told T.k_term_told (pa_cons (pv 4) pa_nil)))
        (pss_cons (ps_if (PW.pt (pw_or (pt_cmpR op_isN (pv 5) pe_non (nomark _)) (pw_or1 (pt_cmpR op_notIn_seq (pv 3) (pe_tup (pa_cons pe_str (pa_cons pe_str pa_nil))) (by with_unfolding_all rfl)))))
          (pss_one (ps_ret pe_non))
          pss_nil)
        (pss_one (ps_dput hu (pv 2) (pe_ix ix_tup (pv 5) pe_int (fun _ _ => rfl)) (pe_ifExp (pt_cmpR op_eq (pv 3) pe_str (nomark _)) (pe_ix ix_tup (pv 5) pe_int (fun _ _ => rfl)) (pe_un un_neg (pe_ix ix_tup (pv 5) pe_int (fun _ _ => rfl)))) rfl)))))
    (pss_one (ps_ret (pv 2))))))), ?_⟩
  refine ⟨_, rfl, t, rfl, hl, fun H1 s1 => ⟨fun hs => ?_, fun ps pp as hs hpp hpr => ?_⟩⟩
  · refine ⟨_, rfl, rfl, _, rfl, ite2 (fun h => ?_) (fun h => ?_)⟩
    · have et : t = [48] := teq_t (b := [48]) rfl h
      refine ⟨_, rfl, rfl, _, rfl, iteTk (teqT (b := [48]) rfl et) fun pd hpd => ?_⟩
      exact (q _ (s1.trans (same_new hpd))).2 [] pd (by unfold told; rw [if_pos et]) (s1.free hpd) upd_same
    · have et : t ≠ [48] := teq_f (b := [48]) rfl h
      refine ⟨_, rfl, rfl, _, rfl, iteT ?_⟩
      refine ⟨_, rfl, rfl, _, rfl, iteFk (teqF (b := [48]) rfl et) ?_⟩
      exact ((q _ s1).1 (by unfold told; rw [if_neg et, hs]))
  refine ⟨_, rfl, rfl, _, rfl, ite2 (fun h => ?_) (fun h => ?_)⟩
  · have et : t = [48] := teq_t (b := [48]) rfl h
    refine ⟨_, rfl, rfl, _, rfl, iteTk (teqT (b := [48]) rfl et) fun pd hpd => ?_⟩
    exact (q _ (s1.trans (same_new hpd))).2 [] pd (by unfold told; rw [if_pos et]) (s1.free hpd) upd_same
  have et : t ≠ [48] := teq_f (b := [48]) rfl h
  have etold : told t = tellAll [] ps := by unfold told; rw [if_neg et, hs]
  have hln := signed_len hs
  have hwl := words_len t
  have hal : as.length = ps.length := Paired.length hpr
  refine ⟨_, rfl, rfl, _, rfl, iteF fun pd hpd => ?_⟩
  have npd : ∀ b o, H1 b = some o → b ≠ pd := fun b o e => ne_of_none e hpd
  refine ⟨_, rfl, pp, rfl, ⟨_, SqL.of (same_new hpd _ _ hpp)⟩, ?_⟩
  refine for_it (walk_list (xs := as.map V.ref)) (fun i σ H2 => ∃ x3 x4 x5 d, σ = [some (.str (S t)), some (.ref pp), some (.ref pd), x3, x4, x5] ∧ Same H1 H2 ∧ H2 pd = some (.dK (kvI d)) ∧ tellAll d (ps.drop i) = told t ∧ d.length ≤ i)
    ⟨none, none, none, [], rfl, same_new hpd, upd_same, by rw [etold]; rfl, Nat.le_refl _⟩ (fun i σ H2 _ ⟨_, _, _, _, _, s2, _⟩ => SqL.of (s2 _ _ hpp)) ?_ ?_
  · rintro i x σ H2 H3 hi ⟨x3, x4, x5, d, rfl, s2, hd, htl, hdl⟩ ⟨rfl, hx⟩
    rw [List.length_map] at hi
    obtain ⟨Tp, rfl, hTp⟩ : ∃ Tp, x = .ref Tp ∧ as[i]? = some Tp := by
      rw [List.getElem?_map] at hx
      cases e : as[i]? with
      | none => rw [e] at hx; cases hx
      | some a => rw [e] at hx; exact ⟨a, (Option.some.inj hx).symm, rfl⟩
    obtain ⟨⟨sg, tm⟩, hps, hTx⟩ := LiI.paired_get hpr hTp
    have hips : i < ps.length := (List.getElem?_eq_some_iff.mp hps).1
    have edr : ps.drop i = (sg, tm) :: ps.drop (i + 1) := by
      rw [List.drop_eq_getElem_cons hips]
      rw [(List.getElem?_eq_some_iff.mp hps).2]
    rw [edr] at htl
    have htm : tm.length ≤ 100000 := Nat.le_trans (signed_mem hs (sg, tm) (List.mem_of_getElem? hps)) hl
    refine ⟨Tp, _, rfl, SqT.of (s2 _ _ hTx), rfl, _, _, rfl, _, _, rfl, rfl, ?_⟩
    refine ⟨_, rfl, tm, rfl, htm, fun H4 s4 => ?_⟩
    have s14 := s2.trans s4
    have stop : tell d (sg, tm) = none → ∀ H5, Same H4 H5 → Q .non H5 := fun e H5 s5 => (q _ (s1.trans (s14.trans s5))).1 (by rw [← htl]; unfold tellAll; rw [e])
    cases eq : termTold tm with
    | none =>
      refine ⟨_, rfl, rfl, _, rfl, iteT ?_⟩
      exact stop (by unfold tell; rw [eq]) _ (Same.refl _)
    | some pv =>
      obtain ⟨e, v⟩ := pv
      intro tq htq
      have s5 := same_new (o := .tup [V.int (e, v).1, V.int (e, v).2]) htq
      have hq5 : (upd H4 tq (.tup [V.int (e, v).1, V.int (e, v).2])) tq = some (.tup [.int e, .int v]) := upd_same
      generalize upd H4 tq (.tup [V.int (e, v).1, V.int (e, v).2]) = H5 at s5 hq5
      refine ⟨_, rfl, rfl, _, rfl, iteF ?_⟩
      refine ⟨_, rfl, by show 2 ≤ sizeLine; decide, fun tp2 htp2 => ?_⟩
      have s6 := same_new (o := .tup [V.str (Str.ofString "+"), V.str (Str.ofString "-")]) htp2
      refine ⟨tp2, _, rfl, .inr (SqT.of upd_same), rfl, rfl, _, rfl, ?_⟩
      generalize upd H5 tp2 (.tup [V.str (Str.ofString "+"), V.str (Str.ofString "-")]) = H6 at s6
      have hin := inV_sign sg
      refine ite2 (fun h => ?_) (fun h => ?_)
      · refine stop ?_ _ (s5.trans s6)
        unfold tell
        rw [eq]
        refine if_neg fun z => ?_
        rw [decide_eq_true z] at hin
        rw [show (if true = true then !inV (V.str (S sg)) _ else _) = !inV (V.str (S sg)) [.str (Str.ofString "+"), .str (Str.ofString "-")] from rfl, hin] at h
        cases h
      · have hsg : sg = [43] ∨ sg = [45] := by
          have h' : ¬ (!inV (V.str (S sg)) [.str (Str.ofString "+"), .str (Str.ofString "-")]) = true := h
          rw [hin] at h'
          exact Decidable.or_iff_not_imp_left.mpr (by simpa using h')
        have etl : tell d (sg, tm) = some (putI d e (if sg = [43] then v else -v)) := by
          unfold tell
          rw [eq]
          exact if_pos hsg
        have hq6 : SqT K H6 tq [.int e, .int v] := SqT.of (s6 _ _ hq5)
        have hd6 : H6 pd = some (.dK (kvI d)) := s6 _ _ (s5 _ _ (s4 _ _ hd))
        have fin : ∀ w : Int, w = (if sg = [43] then v else -v) → ∃ x3 x4 x5 d', [some (.str (S t)), some (.ref pp), some (.ref pd), some (V.str (S sg)), some (.str (S tm)), some (.ref tq)] = [some (.str (S t)), some (.ref pp), some (.ref pd), x3, x4, x5] ∧ Same H1 (upd H6 pd (.dK (putK (kvI d) (Sum.inl e) (.int w)))) ∧ (upd H6 pd (.dK (putK (kvI d) (Sum.inl e) (.int w)))) pd = some (.dK (kvI d')) ∧ tellAll d' (ps.drop (i + 1)) = told t ∧ d'.length ≤ i + 1 := fun w ew => by
          subst ew
          refine ⟨_, _, _, putI d e (if sg = [43] then v else -v), rfl, fun b o h => ?_, ?_, ?_, ?_⟩
          · rw [upd_ne (npd b o h)]
            exact s6 _ _ (s5 _ _ (s14 _ _ h))
          · rw [upd_same, putK_kvI]
          · rw [← htl]
            show _ = (match tell d (sg, tm) with | none => none | some d' => tellAll d' (ps.drop (i + 1)))
            rw [etl]
          · have := putI_len d e (if sg = [43] then v else -v)
            omega
        refine ⟨_, rfl, rfl, _, rfl, ite2 (fun h => ?_) (fun h => ?_)⟩
        · have e1 : sg = [43] := teq_t (b := [43]) rfl h
          refine ⟨_, rfl, tq, _, 1, .int v, rfl, rfl, hq6, rfl, ?_⟩
          refine ⟨_, rfl, _, rfl, tq, _, 0, .int e, rfl, rfl, hq6, rfl, pd, _, rfl, DPut.k (k := Sum.inl e) hd6 (by rw [kvI_len]; exact len_small' (by omega)), ?_⟩
          exact fin v (by rw [if_pos e1])
        · have e1 : sg ≠ [43] := teq_f (b := [43]) rfl h
          refine ⟨_, rfl, tq, _, 1, .int v, rfl, rfl, hq6, rfl, v, rfl, ?_⟩
          refine ⟨_, rfl, _, rfl, tq, _, 0, .int e, rfl, rfl, hq6, rfl, pd, _, rfl, DPut.k (k := Sum.inl e) hd6 (by rw [kvI_len]; exact len_small' (by omega)), ?_⟩
          exact fin (-v) (by rw [if_neg e1])
  · rintro σ H2 ⟨x3, x4, x5, d, rfl, s2, hd, htl, hdl⟩
    have e : told t = some d := by
      rw [← htl, List.drop_of_length_le (by rw [List.length_map]; omega)]
      rfl
    exact ⟨_, rfl, (q _ (s1.trans s2)).2 d pd e (s1.free hpd) hd⟩
end
end Wb

/-! Rules that the layer lacks, 3: name = {k: v for ..}; a dict's comprehension over any walk. -/
namespace Wb
open PySem PySem.Spec PyProof.Rows L2
section
variable {X : Cx}
theorem ps_setDc {i : Nat} {y : Str} {py : Pos} {kx vx tg iter : Expr} {ifs : List Expr} {scope : Scope} {own : List (Str × Nat)} {pos spos : Pos} {wi : TI} {g : TG} {tt : TT} {tk tv : TE} (hc : X.calm = true) (hN : X.N.Nodup) (hy : X.N[i]? = some y) (hyl : X.env.scope.names.lookup y = some .local)
    (hsw : swapsWith (.DictComp kx vx [⟨tg, iter, ifs, 0⟩] scope pos) (some (.Name y py)) spos.line X.env = pure true) (hi : PI X tg iter wi) (ok : BlkOk X.N X.env.scope scope own)
    (hg : ∀ (s : Shared) (H : Hp) (C : Addr) (cl : List (Str × Addr)) (fp : List Addr), PG (X.blk s H scope (compEnvC scope cl C X.env) fp) tg g) (ht : ∀ (s : Shared) (H : Hp) (C : Addr) (cl : List (Str × Addr)) (fp : List Addr), PTs (X.blk s H scope (compEnvC scope cl C X.env) fp) ifs tt)
    (hk : ∀ (s : Shared) (H : Hp) (C : Addr) (cl : List (Str × Addr)) (fp : List Addr), PE (X.blk s H scope (compEnvC scope cl C X.env) fp) kx tk)
    (he : ∀ (s : Shared) (H : Hp) (C : Addr) (cl : List (Str × Addr)) (fp : List Addr), PE (X.blk s H scope (compEnvC scope cl C X.env) fp) vx tv) (hs : ∀ x, foldedSetIterable iter X.env x = pure x := by intro _; rfl) :
    PS X (.Assign [.Name y py] (.DictComp kx vx [⟨tg, iter, ifs, 0⟩] scope pos) spos) (tAsg (tDc wi g tt tk tv (own.map (·.2))) (gName i)) := by
  refine ⟨fun pins s σ H D I h => ?_⟩
  rw [exec_Assign_Name_used _ _ _ _ hsw]
  refine wpAny_bind (wpAny_standAt (wpAny_bind ?_))
  show wpAny _ X.A (do let _ ← comprehension (.DictComp kx vx [⟨tg, iter, ifs, 0⟩] scope pos) scope X.env (firstIterPos [⟨tg, iter, ifs, 0⟩] pos) newDict false (eval iter X.env) (some (assign (.Name y py) X.env))) _ _ s
  have h : tDc wi g tt tk tv (own.map (·.2)) σ H (fun x H1 => gName i x σ H1 D.nx) := h
  refine wpAny_bind (thn (dc_core (Qf := fun _ s' => SP X pins D .next s') hc hN I hi ok hg ht hk he hs h fun L C s' m H' I' q hn f => ?_) fun _ s' hq => wpAny_pure (wpAny_pure hq))
  show wpAny _ _ (assign (.Name y py) X.env (.ref L)) _ _ _
  refine wpAny_assign_Name (store_ok2 (v := V.ref L) I' hN hy (.inl hyl) rfl (fun s2 I2 ⟨a, sb, ha⟩ => ?_) (.inr hyl))
  obtain ⟨f0, f1, f2, f3, f4, f5⟩ := f
  have haC : C ≠ a := by
    rcases ha with z | z
    · rw [z]; exact f1
    · exact fun e => f4 y a z e.symm
  refine ⟨m, hn.sameBut sb haC, fun h3 sb3 => ?_⟩
  exact ⟨_, H', I2.turned (t' := s2.toks) (fun b o hb e => (sb3.2 b hb).trans e) f0 f1 f3 f4 f5, q⟩
theorem sw_trueD {kx vx : Expr} {gs : List Comprehension} {scope : Scope} {pos py : Pos} {y : Str} {l : Nat} {env : Env} (hk : env.scope.kind = .function) (hy : env.scope.names.lookup y = some .local) (hl : (py.line == pos.line) = true)
    (ha : (scope.names.any fun (n, k) => n == y && (k == .local || k == .cell)) = false) : swapsWith (.DictComp kx vx gs scope pos) (some (.Name y py)) l env = pure true := by
  have ky : env.kindOf y = some .local := hy
  have hb : env.blockKind = .function := by unfold Env.blockKind; rw [hk]; rfl
  unfold swapsWith
  simp only [hb, ky, ha, Expr.pos, hl]
  rfl
/-- a dict comprehension over it: Pv by the turn and the heap (the new dict at D within) -/
theorem dc_it {J : It} {n : Nat} {G : Hp → Prop} {Y : Nat → Hp → V → Hp → Prop} (w : Walk J n G Y) {g : TG} {tt : TT} {tk tv : TE} {vs : List Nat} {σ : L2.St} {H1 : Hp} {D : Addr} {Qd : Hp → Prop} (Pv : Nat → Hp → Prop) (h0 : Pv 0 (upd H1 D (.dK []))) (hG : ∀ i H, i ≤ n → Pv i H → G H)
    (hs : ∀ i x H H', i < n → Pv i H → Y i H x H' → g x (wipe σ vs) H' fun σ2 H2 => wipe σ2 vs = wipe σ vs ∧ tt σ2 H2 fun b H3 =>
      if b = true then tk σ2 H3 fun y H4 => tv σ2 H4 fun z H5 => ∃ kvs k, y = kV k ∧ H5 D = some (.dK kvs) ∧ kvs.length < sizeLine ∧ Pv (i + 1) (upd H5 D (.dK (putK kvs k z))) else Pv (i + 1) H3) (hd : ∀ H, Pv n H → Qd H) :
    ∃ W : Nat → Nat → Hp → Prop, (∃ m, W 0 m (upd H1 D (.dK []))) ∧ ∀ i m H, W i m H →
      (J.stop i H ∧ Qd H) ∨ (J.go i H ∧ ∃ Nx : Hp → Prop, (∀ H', Nx H' → ∃ m', m' < m ∧ W (i + 1) m' H') ∧ ∀ x H', J.yld i H x H' → g x (wipe σ vs) H' fun σ2 H2 => wipe σ2 vs = wipe σ vs ∧ tt σ2 H2 fun b H3 =>
        if b = true then tk σ2 H3 fun y H4 => tv σ2 H4 fun z H5 => ∃ kvs k, y = kV k ∧ H5 D = some (.dK kvs) ∧ kvs.length < sizeLine ∧ Nx (upd H5 D (.dK (putK kvs k z))) else Nx H3) := by
  refine ⟨fun i m H => m = n - i ∧ i ≤ n ∧ Pv i H, ⟨n, by simp, Nat.zero_le _, h0⟩, ?_⟩
  rintro i m H ⟨rfl, hi, p⟩
  have q := hG i H hi p
  by_cases hlt : i < n
  · refine .inr ⟨w.goes i H hlt q, Pv (i + 1), fun H' p' => ⟨n - (i + 1), by omega, rfl, hlt, p'⟩, fun x H' y => hs i x H H' hlt p (w.yields i H x H' hlt q y)⟩
  · have e : i = n := by omega
    subst e
    exact .inl ⟨w.stops H q, hd H p⟩
end
end Wb

/-! are_terms, sorted_terms. -/
namespace Wb
open PySem PySem.Spec PyProof.Rows L2 SX TL
open C8 (pe_gc pss_cut tCut)
section
variable {P : Program} {w : World} {K : PySem.W.Frag} {mg : Str → Option Value} {base : Heap} {A : Ad} {X : Cx}
def okB (r : Rw) : Bool := r.all fun p => decide (p.1.natAbs ≤ 10000) && (decide (p.2.natAbs < 10 ^ 60) && decide (p.2 ≠ 0))
def spAreTerms : Sp := fun vs H Q _ => ∃ d r, vs = [.ref d] ∧ H d = some (.dK (kvI r)) ∧ r.length ≤ 1000 ∧ ∀ H', Same H H' → Q (.bl (okB r)) H'
theorem c_are_terms (T : Txt K mg A) : FnR P w K mg base CX0 3 A.are_terms spAreTerms := by
  refine fnr T.d_are_terms sc_are_terms (fun _ _ _ _ _ _ us hl => match us, hl with | [_], _ => rfl) (fun vs H Q E h => by obtain ⟨_, _, rfl, _⟩ := h; rfl) (fun fd cdv A' outer s H vs Q E hr h => ?_)
  obtain ⟨d, r, rfl, hd, hl, q⟩ := h
  refine ⟨_, (pss_cons (ps_if (pt_not (pt_val (pe_callB (call_isiA T) (by rfl) T.f_isinstance (by decide +kernel) (pa_cons (pv 0) (pa_cons (pe_bltn (v := .ty "dict") (by rfl) T.f_dict (by decide +kernel) rfl) pa_nil)))))
      (pss_one (ps_ret pe_bl))
      pss_nil)
    (pss_one (ps_ret (pe_callB (cr_all rfl) (by rfl) T.f_all (by decide +kernel) (pa_cons (pe_lock (pe_lc (own := [("exponent", 1), ("factor", 2)]) (g := gTup K 2 (gCons (gName 1) (gCons (gName 2) gNil))) rfl sc_are_terms.nd (pi_items (pv 0)) (blkOk_by (own := [("exponent", 1), ("factor", 2)]) (N := ["value", "exponent", "factor"]) (sc := defScope s_are_terms) (by decide +kernel)) (fun _ _ _ _ _ => (pg_tup rfl (pgs_cons (pg_name (i := 1) sc_are_terms.nd rfl (Or.inl rfl)) (pgs_cons (pg_name (i := 2) sc_are_terms.nd rfl (Or.inl rfl)) pgs_nil)))) (fun _ _ _ _ _ => pts_nil) (fun _ _ _ _ _ => (pe_and (pe_f (c_is_power T) hr (by decide) (by rfl) T.g_is_power T.k_is_power (pa_cons (pv 1) pa_nil)) (pe_and (pe_f (c_is_integer T) hr (by decide) (by rfl) T.g_is_integer T.k_is_integer (pa_cons (pv 2) pa_nil)) (pe_one (pe_cmpR op_ne (pv 2) pe_int (nomark _)))))))) pa_nil))))), ?_⟩
  refine ⟨_, rfl, .ref d, .ty "dict", _, _, true, rfl, .ty _, .any (.base (.dK hd)), kit_ty (by decide +kernel), true, rfl, iteF ?_⟩
  refine ⟨d, _, hd, by trivial, fun od => ⟨_, rfl, d, od, _, rfl, upd_same, fun D hD => ?_⟩⟩
  refine lc_it walk_itemsI (fun i H' => Acc (upd H d (.frz od (.dK (kvI r)))) D ((r.take i).map fun p => V.bl (decide (p.1.natAbs ≤ 10000) && (decide (p.2.natAbs < 10 ^ 60) && decide (p.2 ≠ 0)))) H') (Acc.start hD) (fun i H' _ a => a.1 _ _ upd_same) ?_ ?_
  · rintro i x H2 H3 hi a ⟨Tp, ⟨e, v⟩, rfl, hT, rfl, hp⟩
    have a3 := a.same (same_new (o := .tup [.int e, .int v]) hT)
    have fin : ∀ (H4 : Hp) (b : Bool), Acc (upd H d (.frz od (.dK (kvI r)))) D ((r.take i).map fun p => V.bl (decide (p.1.natAbs ≤ 10000) && (decide (p.2.natAbs < 10 ^ 60) && decide (p.2 ≠ 0)))) H4 → b = (decide (e.natAbs ≤ 10000) && (decide (v.natAbs < 10 ^ 60) && decide (v ≠ 0))) →
        ∃ acc, H4 D = some (.lst acc) ∧ acc.length < sizeLine ∧ Acc (upd H d (.frz od (.dK (kvI r)))) D ((r.take (i + 1)).map fun p => V.bl (decide (p.1.natAbs ≤ 10000) && (decide (p.2.natAbs < 10 ^ 60) && decide (p.2 ≠ 0)))) (upd H4 D (.lst (acc ++ [.bl b]))) := fun H4 b a4 eb => by
      subst eb
      refine ⟨_, a4.2, ?_, ?_⟩
      · rw [List.length_map, List.length_take]
        exact len_small' (by omega)
      · rw [all_map_take hp]
        exact a4.push hD _
    refine ⟨Tp, _, rfl, SqT.of upd_same, rfl, _, _, rfl, _, _, rfl, rfl, rfl, tyes ?_⟩
    refine ⟨_, rfl, e, rfl, _, rfl, ite2 (fun h => ?_) (fun h => ?_)⟩
    · refine ⟨_, rfl, _, _, rfl, .int v, _, rfl, ite2 (fun h' => ?_) (fun h' => ?_)⟩
      · refine ⟨_, rfl, rfl, ?_⟩
        refine fin _ _ a3 ?_
        rw [h, h', Bool.true_and, Bool.true_and, dec_int, Bool.eq_iff_iff]
        simp
      · refine fin _ _ a3 ?_
        rw [h, Bool.eq_false_iff.mpr h']
        rfl
    · refine fin _ _ a3 ?_
      rw [Bool.eq_false_iff.mpr h]
      rfl
  · rintro H2 a
    obtain ⟨h1, h2⟩ := lock_same hd a.1
    refine ⟨h1, ?_⟩
    have nDd : D ≠ d := fun z => by rw [z, upd_same] at hD; cases hD
    have a2 := a.2
    rw [List.take_length] at a2
    refine ⟨D, r.map fun p => (decide (p.1.natAbs ≤ 10000) && (decide (p.2.natAbs < 10 ^ 60) && decide (p.2 ≠ 0))), rfl, SqL.of ?_, ?_⟩
    · rw [upd_ne nDd, a2, List.map_map]
      rfl
    · have := q _ h2
      simpa [okB, List.all_map] using this
/-! ### the value at an exponent -/
def valI (t : Rw) (e : Int) : Int := ((t.find? fun p => decide (p.1 = e)).map (·.2)).getD 0
theorem valV_kvI (t : Rw) (e : Int) : valV (kvI t) (Sum.inl e : Key) = (t.find? fun p => decide (p.1 = e)).map fun p => V.int p.2 := by
  unfold valV kvI
  rw [List.find?_map, Option.map_map]
  have : ((fun kv : Key × V => decide (kv.1 = (Sum.inl e : Key))) ∘ fun p : Int × Int => ((Sum.inl p.1 : Key), V.int p.2)) = fun p => decide (p.1 = e) := by
    funext p
    show decide ((Sum.inl p.1 : Key) = Sum.inl e) = _
    rw [decide_eq_decide]
    exact ⟨fun h => by injection h, fun h => by rw [h]⟩
  rw [this]
  rfl
theorem valI_mem {t : Rw} (h : NdK t) {e v : Int} (m : (e, v) ∈ t) : (t.find? fun p => decide (p.1 = e)) = some (e, v) := by
  induction t with
  | nil => cases m
  | cons p t ih =>
    unfold NdK at h
    rw [List.map_cons, List.nodup_cons] at h
    rw [List.find?_cons]
    rcases List.mem_cons.mp m with e1 | m
    · subst e1
      simp
    · have hne : p.1 ≠ e := fun z => h.1 (by rw [z]; exact List.mem_map.mpr ⟨_, m, rfl⟩)
      rw [show decide (p.1 = e) = false by simpa using hne]
      exact ih h.2 m
theorem valI_key {t : Rw} {e : Int} (m : e ∈ t.map (·.1)) : (t.find? fun p => decide (p.1 = e)) = some (e, valI t e) := by
  unfold valI
  cases h : t.find? fun p => decide (p.1 = e) with
  | none =>
    obtain ⟨p, hp, e1⟩ := List.mem_map.mp m
    have := List.find?_eq_none.mp h p hp
    simp [e1] at this
  | some p =>
    have := List.find?_some h
    simp at this
    cases p
    simp at this ⊢
    exact this
theorem valV_key {t : Rw} {e : Int} (m : e ∈ t.map (·.1)) : valV (kvI t) (Sum.inl e : Key) = some (.int (valI t e)) := by rw [valV_kvI, valI_key m]; rfl
/-- the pairs of the keys es that are not 0 -/
def filt (t : Rw) (es : List Int) : Rw := (es.filter fun e => decide (valI t e ≠ 0)).map fun e => (e, valI t e)
theorem filt_snoc (t : Rw) (es : List Int) (e : Int) : filt t (es ++ [e]) = if valI t e ≠ 0 then filt t es ++ [(e, valI t e)] else filt t es := by
  unfold filt
  rw [List.filter_append, List.map_append]
  by_cases h : valI t e = 0
  · rw [if_neg (by simpa using h)]
    simp [h]
  · rw [if_pos h]
    simp [h]
theorem filt_mem {t : Rw} {es : List Int} {p : Int × Int} : p ∈ filt t es ↔ p.1 ∈ es ∧ p.2 = valI t p.1 ∧ p.2 ≠ 0 := by
  unfold filt
  rw [List.mem_map]
  constructor
  · rintro ⟨e, he, rfl⟩
    rw [List.mem_filter] at he
    exact ⟨he.1, rfl, by simpa using he.2⟩
  · rintro ⟨h1, h2, h3⟩
    refine ⟨p.1, List.mem_filter.mpr ⟨h1, by rw [← h2]; simpa using h3⟩, ?_⟩
    rw [← h2]
theorem filt_srt {t : Rw} {es : List Int} (h : NdK t) (hp : es.Perm (t.map (·.1))) (hs : es.Pairwise (· ≤ ·)) : Srt t (filt t es) := by
  have hn : es.Nodup := hp.nodup_iff.mpr h
  refine ⟨?_, fun p => ?_⟩
  · unfold Asc filt
    rw [List.pairwise_map]
    refine List.Pairwise.filter _ ?_
    have := hs.and hn
    exact this.imp fun h => by have := h.1; have := h.2; omega
  · rw [filt_mem]
    constructor
    · rintro ⟨h1, h2, h3⟩
      have hk : p.1 ∈ t.map (·.1) := hp.mem_iff.mp h1
      have := List.mem_of_find?_eq_some (valI_key hk)
      rw [← h2] at this
      exact ⟨this, h3⟩
    · rintro ⟨m, h3⟩
      refine ⟨hp.mem_iff.mpr (List.mem_map.mpr ⟨p, m, rfl⟩), ?_, h3⟩
      unfold valI
      rw [valI_mem h (show (p.1, p.2) ∈ t from m)]
      rfl
theorem kvI_keys (t : Rw) : (kvI t).map (·.1) = (t.map (·.1)).map Sum.inl := by unfold kvI; rw [List.map_map, List.map_map]; rfl
def spSorted : Sp := fun vs H Q _ => ∃ d t, vs = [.ref d] ∧ H d = some (.dK (kvI t)) ∧ NdK t ∧ t.length < 64 ∧ (∀ p ∈ t, p.2 ≠ 0 → p.1.natAbs ≤ 10000) ∧ ∀ r H' p, Srt t r → H p = none → Same H H' → H' p = some (.dK (kvI r)) → Q (.ref p) H'
theorem c_sorted_terms (T : Txt K mg A) : FnR P w K mg base CX0 1 A.sorted_terms spSorted := by
  refine fnr T.d_sorted_terms sc_sorted_terms (fun _ _ _ _ _ _ us hl => match us, hl with | [_], _ => rfl) (fun vs H Q E h => by obtain ⟨_, _, rfl, _⟩ := h; rfl) (fun fd cdv A' outer s H vs Q E hr h => ?_)
  obtain ⟨d, t, rfl, hd, hnd, hl, hb, q⟩ := h
  have hu := hu_of hr
  refine ⟨_, (pss_cons (ps_setDc (i := 1) (own := [("exponent", 2)]) rfl sc_sorted_terms.nd rfl rfl (sw_trueD rfl rfl rfl (by decide +kernel)) (pi_list (pe_callB (call_sortedDI rfl) (by rfl) T.f_sorted (by decide +kernel) (pa_cons (pv 0) pa_nil))) (blkOk_by (own := [("exponent", 2)]) (N := ["terms", "found", "exponent"]) (sc := defScope s_sorted_terms) (by decide +kernel)) (fun _ _ _ _ _ => (pg_name (i := 2) sc_sorted_terms.nd rfl (Or.inl rfl))) (fun _ _ _ _ _ => (pts_one (pt_cmpR op_ne (pe_dget hu (pv 0) (pv 2) (fun _ _ => rfl)) pe_int (nomark _)))) (fun _ _ _ _ _ => (pv 2)) (fun _ _ _ _ _ => (pe_dget hu (pv 0) (pv 2) (fun _ _ => rfl))))
    (pss_cons (ps_if (pt_val (pe_callB (cr_any rfl) (by rfl) T.f_any (by decide +kernel) (pa_cons (pe_lock (pe_lc (own := [("exponent", 2)]) rfl sc_sorted_terms.nd (pi_keys (pv 1)) (blkOk_by (own := [("exponent", 2)]) (N := ["terms", "found", "exponent"]) (sc := defScope s_sorted_terms) (by decide +kernel)) (fun _ _ _ _ _ => (pg_name (i := 2) sc_sorted_terms.nd rfl (Or.inl rfl))) (fun _ _ _ _ _ => pts_nil) (fun _ _ _ _ _ => (pe_cmpR op_gt (pe_callB call_abs (by rfl) T.f_abs (by decide +kernel) (pa_cons (pv 2) pa_nil)) (pe_gc (by rfl) T.v_MAX_POWER) (nomark _))))) pa_nil)))
      (pss_one ps_never)
      pss_nil)
    (pss_one (ps_ret (pv 1))))), ?_⟩
  refine ⟨_, rfl, d, _, t.map (·.1), rfl, .inl hd, kvI_keys t, by rw [List.length_map]; exact hl, fun ys ps hperm hsort hps => ⟨ps, rfl, ⟨_, SqL.of upd_same⟩, fun D hD => ?_⟩⟩
  have hyl : ys.length < 64 := by rw [hperm.length_eq, List.length_map]; exact hl
  have hyn : ys.Nodup := hperm.nodup_iff.mpr hnd
  have s1 : Same H (upd H ps (.lst (ys.map V.int))) := same_new hps
  have hd1 := s1 _ _ hd
  have hpl : (upd H ps (.lst (ys.map V.int))) ps = some (.lst (ys.map V.int)) := upd_same
  generalize upd H ps (.lst (ys.map V.int)) = H1 at *
  refine dc_it (walk_list (xs := ys.map V.int)) (fun i H' => Same H1 H' ∧ H' D = some (.dK (kvI (filt t (ys.take i))))) ⟨same_new hD, upd_same⟩ (fun i H' _ a => SqL.of (a.1 _ _ hpl)) ?_ ?_
  · rintro i x H2 H3 hi ⟨s2, hD2⟩ ⟨rfl, hx⟩
    rw [List.length_map] at hi
    rw [List.getElem?_map] at hx
    obtain ⟨e, he, rfl⟩ := Option.map_eq_some_iff.mp hx
    have hek : e ∈ t.map (·.1) := hperm.mem_iff.mp (List.mem_of_getElem? he)
    have etk : ys.take (i + 1) = ys.take i ++ [e] := by
      rw [List.take_succ_eq_append_getElem hi, (List.getElem?_eq_some_iff.mp he).2]
    have hg : DGet H3 d (.int e) (some (.int (valI t e))) := by
      have := DGet.k (k := (Sum.inl e : Key)) (s2 _ _ hd1)
      rw [valV_key hek] at this
      exact this
    refine ⟨rfl, ?_⟩
    refine ⟨_, rfl, _, rfl, d, _, rfl, hg, rfl, _, rfl, ite2 (fun h => ?_) (fun h => ?_)⟩
    · have hne : valI t e ≠ 0 := by simpa using h
      refine ⟨_, rfl, _, rfl, _, rfl, d, _, rfl, hg, _, Sum.inl e, rfl, hD2, ?_, ?_⟩
      · rw [kvI_len]
        refine len_small' ?_
        unfold filt
        rw [List.length_map]
        have := List.length_filter_le (fun e => decide (valI t e ≠ 0)) (ys.take i)
        rw [List.length_take] at this
        omega
      · refine ⟨fun b o hb => ?_, ?_⟩
        · rw [upd_ne (ne_of_none hb hD)]
          exact s2 _ _ hb
        · rw [upd_same, putK_kvI, put_new, etk, filt_snoc, if_pos hne]
          intro p hp hpe
          have h1 := (filt_mem.mp hp).1
          rw [hpe] at h1
          obtain ⟨j, hj⟩ := List.mem_iff_getElem?.mp h1
          have hji : j < i := by
            have := (List.getElem?_eq_some_iff.mp hj).1
            rw [List.length_take] at this
            omega
          rw [List.getElem?_take_of_lt hji] at hj
          have := (List.getElem?_inj (List.getElem?_eq_some_iff.mp hj).1 hyn).mp (hj.trans he.symm)
          omega
    · refine ⟨s2, ?_⟩
      have h0 : valI t e = 0 := by simpa using h
      rw [etk, filt_snoc, if_neg (by simpa using h0)]
      exact hD2
  · rintro H2 ⟨s2, hD2⟩
    rw [List.length_map, List.take_length] at hD2
    have hsr := filt_srt hnd hperm hsort
    have hrl : (filt t ys).length ≤ ys.length := by
      unfold filt
      rw [List.length_map]
      exact List.length_filter_le ..
    have hbr : ∀ p ∈ filt t ys, p.1.natAbs ≤ 10000 := fun p m => hb p ((hsr.mem p).mp m).1 ((hsr.mem p).mp m).2
    generalize filt t ys = r at *
    refine ⟨D, _, hD2, by trivial, fun od => ⟨_, rfl, D, od, rfl, .inl ⟨_, upd_same, fun D2 hD2' => ?_⟩⟩⟩
    refine lc_it walk_keysI (fun i H' => Acc (upd H2 D (.frz od (.dK (kvI r)))) D2 ((r.take i).map fun _ => V.bl false) H') (Acc.start hD2') (fun i H' _ a => a.1 _ _ upd_same) ?_ ?_
    · rintro i x H3 H4 hi a ⟨rfl, p, hp, rfl⟩
      refine ⟨rfl, tyes ?_⟩
      refine ⟨_, rfl, _, rfl, _, _, rfl, rfl, _, a.2, ?_, ?_⟩
      · rw [List.length_map, List.length_take]
        exact len_small' (by omega)
      · have := hbr p (List.mem_of_getElem? hp)
        rw [all_map_take hp]
        show Acc _ _ _ (upd _ _ (.lst (_ ++ [V.bl (decide ((10000 : Int) < (if p.1 < 0 then -p.1 else p.1)))])))
        rw [absE, show decide ((10000 : Int) < (p.1.natAbs : Int)) = false by rw [decide_eq_false_iff_not]; omega]
        exact a.push hD2' _
    · rintro H3 a
      obtain ⟨h1, h2⟩ := lock_same hD2 a.1
      refine ⟨h1, ?_⟩
      have nDd : D2 ≠ D := fun z => by rw [z, upd_same] at hD2'; cases hD2'
      have a2 := a.2
      rw [List.take_length] at a2
      refine ⟨D2, r.map fun _ => false, rfl, SqL.of ?_, false, ?_, iteF ?_⟩
      · rw [upd_ne nDd, a2, List.map_map]
        rfl
      · congr 1
        simp [List.any_map]
      · exact ⟨_, rfl, q r _ D hsr (s1.free hD) (s1.trans (s2.trans h2)) (h2 _ _ hD2)⟩
end
end Wb

/-! Rules that the layer lacks, 4: max(d), min(d, default=None), max(d, default=None) of a dict with int keys. -/
namespace Wb
open PySem PySem.Spec PyProof.Rows L2
section
variable {X : Cx} {pins : List (Addr × Obj)} {σ : L2.St} {H : Hp} {s : Shared} {a : Addr} {r : Rw}
/-- the walk over the keys -/
theorem keys_walk (hc : X.calm = true) (I : Inv X pins σ H s) (ha : H a = some (.dK (kvI r))) {Q : Value → Shared → Prop} {E : Value → Shared → Prop}
    (h : ∀ (I0 : Addr) (h1 : Heap) (P : Nat → Value → Prop) (St : Nat → Heap → Prop) , (∀ i v, P i v → ∃ t, v = Value.int ((r.map (·.1)).getD i 0) t) → Walks X.prog X.w X.A.in1 I0 [I0, a] [I0] r.length P St → St 0 h1 → I0 = s.heap.objs.size → h1.objs.size = s.heap.objs.size + 1 → a < s.heap.objs.size →
      (∀ b o, s.heap.get? b = some o → h1.get? b = some o) → Q (.ref I0) { s with heap := h1 }) : wpAny (model X.prog X.w) X.A.in1 (pyIter (.ref a)) Q E s := by
  obtain ⟨_, hsys, vs, rel, dof⟩ := dk_of I.hok ha
  obtain ⟨ep, dat⟩ := dof.dictAt
  obtain ⟨ob, es, ho, hex, hdat, hko, hpr, hnd⟩ := id dat
  have hlt : a < s.heap.objs.size := Heap.lt_size ho
  have hkv : (kvI r).map (·.1) = (r.map (·.1)).map Sum.inl := by unfold kvI; rw [List.map_map, List.map_map]; rfl
  have hkeys : vs.map (·.1) = (r.map (·.1)).map Sum.inl := (KV.keys rel).symm.trans hkv
  have hlv : vs.length = r.length := by
    have e1 := congrArg List.length hkeys
    simpa using e1
  have hval : ∀ (i : Nat) (v : Value), (∃ k x, vs[i]? = some (k, x) ∧ (mixKind X.prog X.w).is k v = true) → ∃ t, v = Value.int ((r.map (·.1)).getD i 0) t := fun i v ⟨k, x, hk, hkey⟩ => by
    have e1 : (vs.map (·.1))[i]? = some k := by rw [List.getElem?_map, hk] <;> rfl
    rw [hkeys, List.getElem?_map] at e1
    obtain ⟨j, hj, e2⟩ := Option.map_eq_some_iff.mp e1
    subst e2
    have hi : Value.isInt j v = true := hkey
    obtain ⟨t, e3⟩ := Value.isInt_shape (k := j) (v := v) hi
    refine ⟨t, ?_⟩
    rw [e3, List.getD_eq_getElem?_getD, hj] <;> rfl
  refine wpAny_pyIter_dict (knd := mixKind X.prog X.w) hsys dat ?_
  have W := Walks.dictKeys (knd := mixKind X.prog X.w) (prog := X.prog) (w := X.w) (A := X.A.in1) (I.ok.hd hc) s.heap.objs.size a (Nat.ne_of_lt hlt) vs ep
  rw [hlv] at W ⊢
  exact h s.heap.objs.size _ _ _ hval W ⟨⟨_, Heap.get?_push_size _ rfl, rfl, rfl⟩, dat.keep fun b u e => Heap.get?_push_of_some _ e⟩ rfl (Heap.size_push ..) hlt fun b o e => Heap.get?_push_of_some _ e
theorem best_in {n : Nat} {is : List Int} (hl : is.length = n) (hn : 0 < n) (bt : Nat → Nat → Bool) (hb : argBest bt (n - 1) ≤ n - 1) : is.getD (argBest bt (n - 1)) 0 ∈ is := by
  have hb : argBest bt (n - 1) < is.length := by omega
  rw [List.getD_eq_getElem?_getD, List.getElem?_eq_getElem hb]
  exact List.getElem_mem hb
theorem kept_moved {wr : List Addr} {h1 : Heap} {s' : Shared} (I : Inv X pins σ H s) (hk : ∀ b o, s.heap.get? b = some o → h1.get? b = some o) (hw : ∀ b ∈ wr, s.heap.objs.size ≤ b) (m : Moved wr (fun a b => b = a) { s with heap := h1 } s') : Inv X pins σ H s' := by
  obtain ⟨h', g', d', t', os'⟩ := s'
  obtain ⟨m1, m2, m3, m4, m5⟩ := m
  simp only at m1 m2 m3 m4 m5
  subst m2 m3 m4
  exact I.kept (t' := t') fun b o e => m1 b o (fun z => Nat.not_lt.mpr (hw b z) (Heap.lt_size e)) (hk b o e)
end
section
variable {X : Cx}
abbrev exps (r : Rw) : List Int := r.map (·.1)
theorem cr_maxI (hc : X.calm = true) : CallR X (.builtin "max") (fun vs H Q => ∃ (a : Addr) (r : Rw), vs = [V.ref a] ∧ H a = some (.dK (kvI r)) ∧ r ≠ [] ∧ ∀ m, m ∈ exps r → (∀ j ∈ exps r, j ≤ m) → Q (.int m) H) := by
  intro pins s σ H vs us Q I r0 h
  obtain ⟨a, r, rfl, ha, hne, q⟩ := h
  rw [Vals.ref1 r0]
  have hn : 0 < r.length := List.length_pos_iff.mpr hne
  refine call_max_walk (keys_walk hc I ha fun I0 h1 P St hval W st eI hsz hlt hk => ?_)
  refine ⟨I0, _, _, _, _, _, _, rfl, W, st, fun b hb => ?_, hn, CmpOf.ints_gt (fun i => (r.map (·.1)).getD i 0) hval, fun v h' tk hP hk' => ?_⟩
  · show b < h1.objs.size
    rw [hsz]
    rcases List.mem_cons.mp hb with e | hb
    · rw [e, eI]; exact Nat.lt_succ_self _
    · rw [List.mem_singleton.mp hb]; exact Nat.lt_succ_of_lt hlt
  · obtain ⟨t, rfl⟩ := hval _ v hP
    obtain ⟨b1, b2⟩ := argBest_gt (fun i => (r.map (·.1)).getD i 0) (r.length - 1)
    refine ⟨.int _, H, I.kept (t' := tk) fun b u e => hk' b u (fun z => ?_) (hk b u e), ⟨t, rfl⟩, q _ (best_in (List.length_map ..) hn _ b1) fun j hj => ?_⟩
    · rw [List.mem_singleton.mp z, eI] at e
      exact Nat.lt_irrefl _ (Heap.lt_size e)
    · obtain ⟨i, hi, e⟩ := List.mem_iff_getElem.mp hj
      have e2 : (r.map (·.1)).getD i 0 = j := by rw [List.getD_eq_getElem?_getD, List.getElem?_eq_getElem hi, ← e] <;> rfl
      rw [← e2]
      exact b2 i (by rw [List.length_map] at hi; omega)
theorem cr_minI (hc : X.calm = true) : CallR X (.builtin "min") (fun vs H Q => ∃ (a : Addr) (r : Rw), vs = [V.ref a] ∧ H a = some (.dK (kvI r)) ∧ r ≠ [] ∧ ∀ m, m ∈ exps r → (∀ j ∈ exps r, m ≤ j) → Q (.int m) H) := by
  intro pins s σ H vs us Q I r0 h
  obtain ⟨a, r, rfl, ha, hne, q⟩ := h
  exact cr_minK hc pins s σ H _ us Q I r0 ⟨a, kvI r, exps r, rfl, ha, by unfold kvI; rw [List.map_map, List.map_map]; rfl, by simpa using hne, q⟩
theorem crk_min (hc : X.calm = true) : CallRK X (.builtin "min") ["default"] (fun vs zs H Q => ∃ (a : Addr) (r : Rw), vs = [V.ref a] ∧ zs = [.non] ∧ H a = some (.dK (kvI r)) ∧ (r = [] → Q .non H) ∧ ∀ m, m ∈ exps r → (∀ j ∈ exps r, m ≤ j) → Q (.int m) H) := by
  intro pins s σ H vs zs us ws Q I r0 rz h
  obtain ⟨a, r, rfl, rfl, ha, q0, q⟩ := h
  rw [Vals.ref1 r0]
  obtain ⟨w0, rfl, rw0⟩ := Vals.one rz
  cases rw0
  refine call_min_walkD (keys_walk hc I ha fun I0 h1 P St hval Wk st eI hsz hlt hk => ?_)
  refine ⟨I0, _, _, _, _, _, _, s.heap, (fun i j => decide ((r.map (·.1)).getD i 0 < (r.map (·.1)).getD j 0)), rfl, Walks.toS Wk, st, fun b hb => ?_, fun b o e z => ?_, hk, fun hn s' m => ?_, fun hn => ⟨fun i j vi vj s2 Q2 E2 _ hi hj hq => CmpOf.ints_lt (fun i => (r.map (·.1)).getD i 0) hval i j vi vj s2 Q2 E2 hi hj hq, fun v s' hP m => ?_⟩⟩
  · show b < h1.objs.size
    rw [hsz]
    rcases List.mem_cons.mp hb with e | hb
    · rw [e, eI]; exact Nat.lt_succ_self _
    · rw [List.mem_singleton.mp hb]; exact Nat.lt_succ_of_lt hlt
  · rw [List.mem_singleton.mp z, eI] at e
    exact Nat.lt_irrefl _ (Heap.lt_size e)
  · exact ⟨.non, H, kept_moved I hk (fun b hb => by rw [List.mem_singleton.mp hb, eI]; exact Nat.le_refl _) m, rfl, q0 (List.length_eq_zero_iff.mp hn)⟩
  · obtain ⟨t, rfl⟩ := hval _ v hP
    obtain ⟨b1, b2⟩ := argBest_lt (fun i => (r.map (·.1)).getD i 0) (r.length - 1)
    refine ⟨.int _, H, kept_moved I hk (fun b hb => by rw [List.mem_singleton.mp hb, eI]; exact Nat.le_refl _) m, ⟨t, rfl⟩, q _ (best_in (List.length_map ..) hn _ b1) fun j hj => ?_⟩
    obtain ⟨i, hi, e⟩ := List.mem_iff_getElem.mp hj
    have e2 : (r.map (·.1)).getD i 0 = j := by rw [List.getD_eq_getElem?_getD, List.getElem?_eq_getElem hi, ← e] <;> rfl
    rw [← e2]
    exact b2 i (by rw [List.length_map] at hi; omega)
theorem crk_max (hc : X.calm = true) : CallRK X (.builtin "max") ["default"] (fun vs zs H Q => ∃ (a : Addr) (r : Rw), vs = [V.ref a] ∧ zs = [.non] ∧ H a = some (.dK (kvI r)) ∧ (r = [] → Q .non H) ∧ ∀ m, m ∈ exps r → (∀ j ∈ exps r, j ≤ m) → Q (.int m) H) := by
  intro pins s σ H vs zs us ws Q I r0 rz h
  obtain ⟨a, r, rfl, rfl, ha, q0, q⟩ := h
  rw [Vals.ref1 r0]
  obtain ⟨w0, rfl, rw0⟩ := Vals.one rz
  cases rw0
  refine call_max_walkD (keys_walk hc I ha fun I0 h1 P St hval Wk st eI hsz hlt hk => ?_)
  refine ⟨I0, _, _, _, _, _, _, s.heap, (fun i j => decide ((r.map (·.1)).getD i 0 > (r.map (·.1)).getD j 0)), rfl, Walks.toS Wk, st, fun b hb => ?_, fun b o e z => ?_, hk, fun hn s' m => ?_, fun hn => ⟨fun i j vi vj s2 Q2 E2 _ hi hj hq => CmpOf.ints_gt (fun i => (r.map (·.1)).getD i 0) hval i j vi vj s2 Q2 E2 hi hj hq, fun v s' hP m => ?_⟩⟩
  · show b < h1.objs.size
    rw [hsz]
    rcases List.mem_cons.mp hb with e | hb
    · rw [e, eI]; exact Nat.lt_succ_self _
    · rw [List.mem_singleton.mp hb]; exact Nat.lt_succ_of_lt hlt
  · rw [List.mem_singleton.mp z, eI] at e
    exact Nat.lt_irrefl _ (Heap.lt_size e)
  · exact ⟨.non, H, kept_moved I hk (fun b hb => by rw [List.mem_singleton.mp hb, eI]; exact Nat.le_refl _) m, rfl, q0 (List.length_eq_zero_iff.mp hn)⟩
  · obtain ⟨t, rfl⟩ := hval _ v hP
    obtain ⟨b1, b2⟩ := argBest_gt (fun i => (r.map (·.1)).getD i 0) (r.length - 1)
    refine ⟨.int _, H, kept_moved I hk (fun b hb => by rw [List.mem_singleton.mp hb, eI]; exact Nat.le_refl _) m, ⟨t, rfl⟩, q _ (best_in (List.length_map ..) hn _ b1) fun j hj => ?_⟩
    obtain ⟨i, hi, e⟩ := List.mem_iff_getElem.mp hj
    have e2 : (r.map (·.1)).getD i 0 = j := by rw [List.getD_eq_getElem?_getD, List.getElem?_eq_getElem hi, ← e] <;> rfl
    rw [← e2]
    exact b2 i (by rw [List.length_map] at hi; omega)
end
end Wb

/-! Rules that the layer lacks, 5: == and != of two dicts from ints to ints. -/
namespace Wb
open PySem PySem.Spec PyProof.Rows L2
theorem sub_len : ∀ q r : Rw, Asc r → Asc q → (∀ p ∈ r, p ∈ q) → r.length ≤ q.length ∧ (r.length = q.length → r = q)
  | [], [], _, _, _ => ⟨Nat.le_refl _, fun _ => rfl⟩
  | [], p :: r, _, _, h => by have := h p (List.mem_cons_self ..); cases this
  | z :: q, [], _, _, _ => ⟨Nat.zero_le _, fun h => by simp at h⟩
  | z :: q, p :: r, hr, hq, h => by
    have hr' := List.pairwise_cons.mp hr
    have hq' := List.pairwise_cons.mp hq
    by_cases e : p = z
    · subst e
      have ih := sub_len q r hr'.2 hq'.2 fun x hx => by
        rcases List.mem_cons.mp (h x (List.mem_cons_of_mem _ hx)) with e | m
        · have := hr'.1 x hx
          rw [e] at this
          omega
        · exact m
      refine ⟨by simp only [List.length_cons]; omega, fun hl => ?_⟩
      rw [ih.2 (by simp only [List.length_cons] at hl; omega)]
    · have hp : p ∈ q := (List.mem_cons.mp (h p (List.mem_cons_self ..))).resolve_left e
      have ih := sub_len q (p :: r) hr hq'.2 fun x hx => by
        rcases List.mem_cons.mp (h x hx) with e2 | m
        · have h1 := hq'.1 p hp
          rcases List.mem_cons.mp hx with e3 | hx
          · exact absurd (e3.symm.trans e2) e
          · have h2 := hr'.1 x hx
            rw [e2] at h2
            omega
        · exact m
      refine ⟨by simp only [List.length_cons] at *; omega, fun hl => ?_⟩
      simp only [List.length_cons] at *
      omega
theorem asc_nd {r : Rw} (h : Asc r) : NdK r := by
  unfold NdK List.Nodup
  rw [List.pairwise_map]
  exact h.imp fun h => by omega
/-- each pair of r stands in q -/
def subB (q r : Rw) : Bool := r.all fun p => match q.find? fun x => decide (x.1 = p.1) with | none => false | some x => p.2 == x.2
theorem subB_asc {r q : Rw} (hr : Asc r) (hq : Asc q) : (r.length == q.length && subB q r) = decide (r = q) := by
  rw [Bool.eq_iff_iff]
  simp only [Bool.and_eq_true, beq_iff_eq, decide_eq_true_eq]
  constructor
  · rintro ⟨h1, h2⟩
    refine (sub_len q r hr hq fun p hp => ?_).2 h1
    have := List.all_eq_true.mp h2 p hp
    cases e : q.find? fun x => decide (x.1 = p.1) with
    | none => rw [e] at this; cases this
    | some x =>
      rw [e] at this
      have e1 := List.find?_some e
      have e2 : p.2 = x.2 := by simpa using this
      have e3 : x.1 = p.1 := by simpa using e1
      have : p = x := by cases p; cases x; simp_all
      rw [this]
      exact List.mem_of_find?_eq_some e
  · rintro rfl
    refine ⟨rfl, List.all_eq_true.mpr fun p hp => ?_⟩
    rw [valI_mem (asc_nd hr) (show (p.1, p.2) ∈ r from hp)]
    simp
theorem hitsI {A : Around} {s : Shared} {q : Rw} {kb : List (Key × Value)} (hb : KV (kvI q) kb) : ∀ {r : Rw} {ka : List (Key × Value)}, KV (kvI r) ka → PySem.W.KeqHits A s kb ka (subB q r)
  | [], _, .nil => .nil
  | p :: r, _, .cons (b := (k, v)) h t => by
    obtain ⟨h1, h2⟩ := h
    have ek : k = Sum.inl p.1 := h1.symm
    subst ek
    have hv := hb.val (Sum.inl p.1 : Key)
    rw [valV_kvI] at hv
    have ih := hitsI (A := A) (s := s) hb (r := r) t
    show PySem.W.KeqHits A s kb _ ((match q.find? fun x => decide (x.1 = p.1) with | none => false | some x => p.2 == x.2) && subB q r)
    cases e : q.find? fun x => decide (x.1 = p.1) with
    | none =>
      rw [e] at hv
      refine .miss ?_
      cases e2 : valueAt kb (Sum.inl p.1 : Key) with
      | none => rfl
      | some y => rw [e2] at hv; exact False.elim hv
    | some x =>
      rw [e] at hv
      obtain ⟨y, e2, ry⟩ := RelO.some_of (v := V.int x.2) (o := valueAt kb (Sum.inl p.1 : Key)) hv
      obtain ⟨t1, rfl⟩ := (show ∃ t1, v = Value.int p.2 t1 from h2)
      obtain ⟨t2, rfl⟩ := (show ∃ t2, y = Value.int x.2 t2 from ry)
      exact .hit e2 (SeqAt.EqAt.int_int p.2 t1 x.2 t2) ih
section
variable {X : Cx}
def rEqI : R2 := fun x y H Q => ∃ a b r q, x = .ref a ∧ y = .ref b ∧ H a = some (.dK (kvI r)) ∧ H b = some (.dK (kvI q)) ∧ Asc r ∧ Asc q ∧ Q (.bl (decide (r = q))) H
def rNeI : R2 := fun x y H Q => ∃ a b r q, x = .ref a ∧ y = .ref b ∧ H a = some (.dK (kvI r)) ∧ H b = some (.dK (kvI q)) ∧ Asc r ∧ Asc q ∧ Q (.bl (!decide (r = q))) H
theorem op_eqI (hu : X.A.units < cLine) : OpR X (compareOp .Eq) rEqI := by
  intro pins s σ H x y v u Q I rx ry h
  obtain ⟨a, b, r, q, rfl, rfl, ea, eb, hr, hq, k⟩ := h
  obtain rfl : v = Value.ref a := rx
  obtain rfl : u = Value.ref b := ry
  obtain ⟨_, ya, va, ra, da⟩ := (show ObjOk X.prog X.w H s.heap a (.dK (kvI r)) from I.hok a _ ea)
  obtain ⟨_, yb, vb, rb, db⟩ := (show ObjOk X.prog X.w H s.heap b (.dK (kvI q)) from I.hok b _ eb)
  have hla : va.length = r.length := by rw [← Paired.length ra, kvI_len]
  have hlb : vb.length = q.length := by rw [← Paired.length rb, kvI_len]
  exact PySem.W.keq_eq (knd := mixKind X.prog X.w) (r := subB q r) ya yb da db hu (fun _ => hitsI rb ra) (fin_bl I k (by rw [hla, hlb, subB_asc hr hq]))
theorem op_neI (hu : X.A.units < cLine) : OpR X (compareOp .NotEq) rNeI := by
  intro pins s σ H x y v u Q I rx ry h
  obtain ⟨a, b, r, q, rfl, rfl, ea, eb, hr, hq, k⟩ := h
  obtain rfl : v = Value.ref a := rx
  obtain rfl : u = Value.ref b := ry
  obtain ⟨_, ya, va, ra, da⟩ := (show ObjOk X.prog X.w H s.heap a (.dK (kvI r)) from I.hok a _ ea)
  obtain ⟨_, yb, vb, rb, db⟩ := (show ObjOk X.prog X.w H s.heap b (.dK (kvI q)) from I.hok b _ eb)
  have hla : va.length = r.length := by rw [← Paired.length ra, kvI_len]
  have hlb : vb.length = q.length := by rw [← Paired.length rb, kvI_len]
  exact PySem.W.keq_ne (knd := mixKind X.prog X.w) (r := subB q r) ya yb da db hu (fun _ => hitsI rb ra) (fin_bl I k (by rw [hla, hlb, subB_asc hr hq]))
end
end Wb

/-! Row: __init__, the makers, the classmethods' rules, the properties and the special methods. -/
namespace Wb
open PySem PySem.Spec PyProof.Rows L2 SX TL
open C8 (pe_gc pss_cut tCut)
/-- a Row with the terms r -/
def RowAt (A : Ad) (H : Hp) (a : Addr) (r : Rw) : Prop := ∃ d dx, SlX.Slt H a A.Row dx [some (.ref d)] ∧ H d = some (.dK (kvI r))
theorem slt_same {A : Ad} {H H' : Hp} {a dx : Addr} {vs : List (Option V)} (h : SlX.Slt H a A.Row dx vs) (s : Same H H') : SlX.Slt H' a A.Row dx vs := by
  rcases h with ⟨h1, h2⟩ | ⟨h1, h2⟩
  · exact .inl ⟨s _ _ h1, h2⟩
  · exact .inr ⟨s _ _ h1, s _ _ h2⟩
theorem RowAt.same {A : Ad} {H H' : Hp} {a : Addr} {r : Rw} (h : RowAt A H a r) (s : Same H H') : RowAt A H' a r := by
  obtain ⟨d, dx, h1, h2⟩ := h
  exact ⟨d, dx, slt_same h1 s, s _ _ h2⟩
def spInit (A : Ad) : Sp := fun vs H Q _ => ∃ (x d dx : Addr) (t : Rw) (kn : Bool), vs = [.ref x, .ref d, .bl kn] ∧ H x = some (.ins A.Row dx []) ∧ H dx = some (.own x) ∧ dx ≠ x ∧ H d = some (.dK (kvI t)) ∧ NdK t ∧ t.length < 64 ∧ (kn = false → okB t = true) ∧ (∀ p ∈ t, p.2 ≠ 0 → p.1.natAbs ≤ 10000) ∧
  ∀ r H', Srt t r → RowAt A H' x r → (∀ b o, H b = some o → b ≠ x → b ≠ dx → H' b = some o) → Q .non H'
section
variable {P : Program} {w : World} {K : PySem.W.Frag} {mg : Str → Option Value} {base : Heap} {A : Ad} {X : Cx}
theorem Txt.gRow (T : Txt K mg A) : mg "Row" = some (.ref A.Row) := by
  obtain ⟨u, h, r⟩ := T.v_Row
  rw [h]
  exact congrArg some r
/-- e.own_terms -/
def tOwn (A : Ad) (ta : TE) : TE := fun σ H Q => ta σ H fun x H1 => ∃ a dx d, x = .ref a ∧ SlX.Slt H1 a A.Row dx [some (.ref d)] ∧ Q (.ref d) H1
theorem pe_own {e : Expr} {ta : TE} {pos : Pos} (T : Txt X.K mg A) (he : PE X e ta) (hb : attributeBase e "own_terms" X.env (eval e X.env) = eval e X.env := by rfl) : PE X (.Attribute e "own_terms" pos) (tOwn A ta) := by
  refine ⟨fun pins s σ H Q I h => ?_⟩
  refine attr_of hb (thn (he.run pins s σ H _ I h) fun w s1 ⟨x, H1, I1, rx, a, dx, d, ex, hs, q⟩ => ?_)
  subst ex
  obtain rfl : w = Value.ref a := rx
  exact SlX.getslot_ok I1 hs T.scls T.slot (by rfl) fun u s' J r => ⟨_, H1, J, r, q⟩
theorem ok_init (T : Txt K mg A) : ∃ fd, FunD K "__init__" "Row.__init__" (defArgs s_Row___init__) (defBody s_Row___init__) (defScope s_Row___init__) [] [("is_known", .bl false)] A.R_init fd ∧ FnOk P w K mg base CX0 4 A.R_init fd ["self", "terms", "is_known"] (spInit A) := by
  obtain ⟨fd, F⟩ := T.d_R_init
  refine ⟨fd, F, F.ok sc_Row___init__ (fun vs H Q E h => by obtain ⟨_, _, _, _, _, rfl, _⟩ := h; rfl) (fun cdv A' outer s H vs Q E hr h => ?_)⟩
  obtain ⟨x, d, dx, t, kn, rfl, hx, hdx, hne, hd, hnd, hl, hk, hb, q⟩ := h
  refine ⟨_, (pss_cut (ps_if (PW.pt (pw_and (pt_not (pt_val (pv 2))) (pw_and1 (pt_not (pt_val (pe_f (c_are_terms T) hr (by decide) (by rfl) T.g_are_terms T.k_are_terms (pa_cons (pv 1) pa_nil)))))))
      (pss_one ps_never)
      pss_nil)
    (pss_one (SlX.ps_sl (pv 0) (pe_f (c_sorted_terms T) hr (by decide) (by rfl) T.g_sorted_terms T.k_sorted_terms (pa_cons (pv 1) pa_nil))))), ?_⟩
  have fin : ∀ H1, Same H H1 → tSeq (SlX.sSl K (tVar 0) (tF spSorted (tCons (tVar 1) tNil)) "own_terms") tNext ⟨fun _ H' => Q .non H', Q, fun _ _ => False, fun _ _ => False⟩ (start ["self", "terms", "is_known"] [.ref x, .ref d, .bl kn]) H1 := fun H1 s1 => by
    refine ⟨_, rfl, d, t, rfl, s1 _ _ hd, hnd, hl, hb, fun r H2 p hsr hp s2 hpd => ?_⟩
    have npx : p ≠ x := fun z => by rw [z, s1 _ _ hx] at hp; cases hp
    have npd : p ≠ dx := fun z => by rw [z, s1 _ _ hdx] at hp; cases hp
    refine ⟨_, rfl, x, A.Row, dx, A.p_own, [], 0, rfl, .inl ⟨s2 _ _ (s1 _ _ hx), rfl⟩, T.scls, T.slot, ?_⟩
    refine q r _ hsr ⟨p, dx, SlX.slH_slt hne, ?_⟩ fun b o e h1 h2 => ?_
    · rw [SlX.slH_ne npx npd]
      exact hpd
    · rw [SlX.slH_ne h1 h2]
      exact s2 _ _ (s1 _ _ e)
  refine ⟨fun σ' H' => σ' = start ["self", "terms", "is_known"] [.ref x, .ref d, .bl kn] ∧ Same H H', ?_, fun σ' H' ⟨e, s1⟩ => by subst e; exact fin H' s1⟩
  cases kn with
  | true => exact ⟨_, rfl, true, rfl, iteF (iteF ⟨rfl, Same.refl _⟩)⟩
  | false =>
    refine ⟨_, rfl, false, rfl, iteT ?_⟩
    refine ⟨_, rfl, d, t, rfl, hd, by omega, fun H1 s1 => ⟨_, rfl, ?_⟩⟩
    rw [hk rfl]
    exact iteF ⟨rfl, s1⟩
theorem srt_ok {t : Rw} (h : okB t = true) : ∀ p ∈ t, p.2 ≠ 0 ∧ p.1.natAbs ≤ 10000 ∧ p.2.natAbs < 10 ^ 60 := fun p hp => by
  have := List.all_eq_true.mp h p hp
  simp only [Bool.and_eq_true, decide_eq_true_eq] at this
  exact ⟨this.2.2, this.1, this.2.1⟩
/-- Row(e) -/
def tRow (A : Ad) (t : TA) : TE := fun σ H Q => t σ H fun vs H1 => ∃ d tm, vs = [V.ref d] ∧ H1 d = some (.dK (kvI tm)) ∧ NdK tm ∧ tm.length < 64 ∧ okB tm = true ∧ ∀ r H' a, Srt tm r → H1 a = none → Same H1 H' → RowAt A H' a r → Q (.ref a) H'
theorem made_same {H1 H' : Hp} {x dx C : Addr} (h1 : H1 x = none) (h2 : H1 dx = none) (k : ∀ b o, (upd (upd H1 dx (.own x)) x (.ins C dx [])) b = some o → b ≠ x → b ≠ dx → H' b = some o) : Same H1 H' := fun b o e =>
  k b o (by rw [upd_ne (ne_of_none e h1), upd_ne (ne_of_none e h2)]; exact e) (ne_of_none e h1) (ne_of_none e h2)
theorem pe_row {j : Nat} {e : Expr} {es : List Expr} {t : TA} {p pos : Pos} (T : Txt X.K X.mg A) (hr : Room j X.A) (hk : 5 ≤ j) (hg : Gl X "Row") (ha : PA X (e :: es) t)
    (he : starEach (e :: es) X.env = (false, eval e X.env) :: starEach es X.env := by rfl) (hpl : (backTo pos (starEach es X.env)).any (·.1) = false := by rfl) : PE X (.Call (.Name "Row" p) (e :: es) [] pos) (tRow A t) := by
  obtain ⟨fd, FD, FO⟩ := ok_init (P := X.prog) (w := X.w) (K := X.K) (mg := X.mg) (base := X.base) T
  obtain ⟨ds, rv, bd⟩ := FD.binds0 (ps := ["self", "terms", "is_known"]) 2 (by simp) rfl (fun D doc pm an cdv ct us ks h1 h2 => by
    match us, ks, h1, h2 with
    | [_, _], [_], _, _ => exact ⟨_, _, _, _, _, _, rfl, rfl, rfl⟩)
  have F := FO.raw bd rv
  refine ⟨fun pins s σ H Q I h => ?_⟩
  refine wpAny_Call_Name_kw (ld_glob I hg T.gRow ?_ (by decide))
  refine PySem.W.callWith_K (h₀ := X.base) I.ok.mod.kin T.made.kp (thn (ha.run pos pins s σ H _ I h) fun us s1 ⟨vs, H1, I1, r, q⟩ => ⟨I1.kIn, ?_⟩) he hpl
  obtain ⟨d, tm, rfl, hd, hnd, hl, hok, q⟩ := q
  refine StX.run_makeR T.made F (hr.mono hk) pass0 I1 r (E := E0) fun x dx hx hdx hne => ?_
  have hdx' : dx ≠ x := hne
  have ndx : d ≠ dx := ne_of_none hd hdx
  have nx : d ≠ x := ne_of_none hd hx
  refine ⟨x, d, dx, tm, false, rfl, upd_same, by rw [upd_ne hdx', upd_same], hdx', by rw [upd_ne nx, upd_ne ndx]; exact hd, hnd, hl, fun _ => hok, fun p hp _ => (srt_ok hok p hp).2.1, fun r H' hs ra k => ⟨rfl, ?_⟩⟩
  exact q r H' x hs hx (made_same hx hdx k) ra
/-- Row(e, is_known=True) -/
def tRowK (A : Ad) (t : TA) : TE := fun σ H Q => t σ H fun vs H1 => ∃ d tm, vs = [V.ref d] ∧ H1 d = some (.dK (kvI tm)) ∧ NdK tm ∧ tm.length < 64 ∧ (∀ p ∈ tm, p.2 ≠ 0 → p.1.natAbs ≤ 10000) ∧ ∀ r H' a, Srt tm r → H1 a = none → Same H1 H' → RowAt A H' a r → Q (.ref a) H'
theorem pe_rowK {j : Nat} {e : Expr} {es : List Expr} {t : TA} {kws : List Keyword} {p pos : Pos} (T : Txt X.K X.mg A) (hr : Room j X.A) (hk : 5 ≤ j) (hg : Gl X "Row") (ha : PA X (e :: es) t) (hkw : PK X kws (tCons (tC (.bl true)) tNil))
    (hks : (backToKw pos (keywordEach kws X.env)).filterMap (·.1) = [("is_known" : Str)] := by rfl) (hall : (backToKw pos (keywordEach kws X.env)).all (·.1.isSome) = true := by rfl)
    (he : starEach (e :: es) X.env = (false, eval e X.env) :: starEach es X.env := by rfl) (hpl : ((backTo pos (starEach (e :: es) X.env)).any (·.1) || (backToKw pos (keywordEach kws X.env)).any (·.1.isNone)) = false := by rfl) : PE X (.Call (.Name "Row" p) (e :: es) kws pos) (tRowK A t) := by
  obtain ⟨fd, FD, FO⟩ := ok_init (P := X.prog) (w := X.w) (K := X.K) (mg := X.mg) (base := X.base) T
  obtain ⟨mv, bd⟩ := FD.kbinds0 (ps := ["self", "terms", "is_known"]) 2 ["is_known"] [] (fun vs _ zs => vs ++ zs) (by simp) (by simp) (fun r1 _ r3 => r1.append r3) (fun D doc pm an cdv ct us mv ws h1 h2 h3 => by
    match us, mv, ws, h1, h2, h3 with
    | [_, _], [], [_], _, _, _ => rfl)
  refine ⟨fun pins s σ H Q I h => ?_⟩
  refine wpAny_Call_Name_kw (ld_glob I hg T.gRow ?_ (by decide))
  refine PySem.W.callWith_KW (h₀ := X.base) I.ok.mod.kin T.made.kp hall (thn (ha.run pos pins s σ H _ I h) fun us s1 ⟨vs, H1, I1, r, q⟩ => ?_) hpl he
  refine thn (hkw.run pos pins s1 σ H1 (fun zs H2 => zs = [.bl true] ∧ H2 = H1) I1 ⟨rfl, rfl⟩) fun ws s2 ⟨zs, H2, I2, rz, ez, eH⟩ => ⟨I2.kIn, ?_⟩
  subst ez eH
  rw [hks]
  obtain ⟨d, tm, rfl, hd, hnd, hl, hb, q⟩ := q
  refine run_makeK (n := 1) (E := E0) T.made FO (hr.mono hk) bd pass0 I2 r rz rfl rfl fun x dx hx hdx hne => ?_
  have ndx : d ≠ dx := ne_of_none hd hdx
  have nx : d ≠ x := ne_of_none hd hx
  refine ⟨x, d, dx, tm, true, rfl, upd_same, by rw [upd_ne hne, upd_same], hne, by rw [upd_ne nx, upd_ne ndx]; exact hd, hnd, hl, (fun z => by cases z), hb, fun r H' hs ra k => ⟨rfl, ?_⟩⟩
  exact q r H' x hs hx (made_same hx hdx k) ra
/-! ### classmethods with no argument, with keywords -/
theorem pe_cmeth0 {CX : CXT} {k : Nat} {C p g : Addr} {mc : Value} {sp : Sp} {E : XK} {o : Expr} {m : Str} {pos apos : Pos} {ta : TE} {pl : Sem Bool} (he : PE X o ta) (r : ClX.CRead X.K C mc) (c : ClX.CMet X.K C mc m p g) (F : FnR X.prog X.w X.K X.mg X.base CX k g sp) (hr : Room k X.A) (hx : Passes CX X E)
    (ht : eval (.Call (.Attribute o m apos) [] [] pos) X.env = (do
      let ov ← eval o X.env
      standAt apos.atName
      let (f, first) ← holding [ov] (getMethod ov m pl)
      callWith pos f first (backTo pos (starEach [] X.env)) (backToKw pos (keywordEach [] X.env))) := by rfl) :
    PE X (.Call (.Attribute o m apos) [] [] pos) (ClX.tCMeth C sp E ta tNil) := by
  refine ⟨fun pins s σ H Q I h => ?_⟩
  refine PySem.W.methodCall_KW (pl := pl) (thn (he.run pins s σ H _ I h) fun u s1 ⟨x, H1, I1, rx, ex, q⟩ => ?_) ht
  subst ex
  obtain rfl : u = Value.ref C := rx
  refine ClX.getmethcm_ok I1 r c fun s2 I2 => ?_
  exact PySem.W.callWith_M0 (first := []) ⟨ClX.pin_at I2, I2.kIn⟩ c.fi (ClX.run_cm F hr hx I2 (vs := []) .nil q)
/-- e.m(.., k = v): a keyword-only parameter -/
def tCMethK (C : Addr) (n m : Nat) (sp : Sp) (gV : List V → List V → List V) (E : XK) (ta : TE) (t tk : TA) : TE := fun σ H Q => ta σ H fun x H1 => x = .ref C ∧ t σ H1 fun vs H2 => tk σ H2 fun zs H3 => vs.length = n ∧ zs.length = m ∧ sp (gV (.ref C :: vs) zs) H3 Q E
theorem pe_cmethK {CX : CXT} {k n : Nat} {C p g : Addr} {mc : Value} {sp : Sp} {E : XK} {o e : Expr} {es : List Expr} {kws : List Keyword} {m : Str} {pos apos : Pos} {ta : TE} {t tk : TA} {pl : Sem Bool} {fd : FuncData} {ps ks : List Str} {gf : List Value → List Value → List Value} {gV : List V → List V → List V} (he : PE X o ta) (r : ClX.CRead X.K C mc) (c : ClX.CMet X.K C mc m p g)
    (F : FnOk X.prog X.w X.K X.mg X.base CX k g fd ps sp) (hr : Room k X.A) (hb : KBn X.K fd ps (n + 1) ks gf gV) (hx : Passes CX X E) (ha : PA X (e :: es) t) (hkw : PK X kws tk)
    (hall : (backToKw pos (keywordEach kws X.env)).all (·.1.isSome) = true := by rfl) (hks : (backToKw pos (keywordEach kws X.env)).filterMap (·.1) = ks := by rfl)
    (hst : starEach (e :: es) X.env = (false, eval e X.env) :: starEach es X.env := by rfl) (hpl : ((backTo pos (starEach (e :: es) X.env)).any (·.1) || (backToKw pos (keywordEach kws X.env)).any (·.1.isNone)) = false := by rfl)
    (ht : eval (.Call (.Attribute o m apos) (e :: es) kws pos) X.env = (do
      let ov ← eval o X.env
      standAt apos.atName
      let (f, first) ← holding [ov] (getMethod ov m pl)
      callWith pos f first (backTo pos (starEach (e :: es) X.env)) (backToKw pos (keywordEach kws X.env))) := by rfl) :
    PE X (.Call (.Attribute o m apos) (e :: es) kws pos) (tCMethK C n ks.length sp gV E ta t tk) := by
  refine ⟨fun pins s σ H Q I h => ?_⟩
  refine PySem.W.methodCall_KW (pl := pl) (thn (he.run pins s σ H _ I h) fun u s1 ⟨x, H1, I1, rx, ex, q⟩ => ?_) ht
  subst ex
  obtain rfl : u = Value.ref C := rx
  refine ClX.getmethcm_ok I1 r c fun s2 I2 => ?_
  refine PySem.W.callWith_of (first := []) hpl (PySem.W.keeps_M c.fi) (PyProof.Rows.evalArgs_kw2 hall (thn (ha.run pos _ s2 σ H1 _ I2 q) fun us s3 ⟨vs, H2, I3, rv, q2⟩ => thn (hkw.run pos _ s3 σ H2 _ I3 q2) fun ws s4 ⟨zs, H3, I4, rz, l1, l2, q3⟩ => ⟨⟨ClX.pin_at I4, I4.kIn⟩, ?_⟩) hst)
  rw [hks]
  have rv' : Vals (V.ref C :: vs) (Value.ref C :: us) := .cons rfl rv
  have z : wpAny (model X.prog X.w) X.A (call (.ref s1.heap.objs.size) us (ks.zip ws)) (EP X ((s1.heap.objs.size, PySem.W.methodObj (.ref g) (.ref C)) :: pins) σ Q) X.xe s4 := by
    refine wpAny_call (PySem.W.method_call (ClX.pin_at I4) ?_)
    refine codeAny_mono (F.run X.A X.stack s4 H3 ⟨.ref C :: us, ks.zip ws⟩ (gf (.ref C :: us) ws) (gV (.ref C :: vs) zs) Q E hr I4.env0 (hb.to s4 (.ref C :: us) ws I4.kIn (by rw [List.length_cons, ← rv.length, l1]) (rz.length.symm.trans l2)) (hb.rel rv' rz) q3) fun r s' hq => ?_
    cases r with
    | error e => exact hx _ σ H3 s4 e s' I4 hq
    | ok fl =>
      cases fl with
      | ret u => exact I4.after hq
      | next => exact False.elim hq
      | brk => exact False.elim hq
      | cont => exact False.elim hq
  exact thn z fun _ _ y => ClX.unpinE y
/-! ### the methods -/
def spPower (A : Ad) : Sp := fun vs H Q _ => ∃ (e m : Int), vs = [.ref A.Row, .int e, .int m] ∧ e.natAbs ≤ 10000 ∧ m.natAbs < 10 ^ 60 ∧ ∀ r H' a, Srt [(e, m)] r → H a = none → Same H H' → RowAt A H' a r → Q (.ref a) H'
theorem ok_power (T : Txt K mg A) : ∃ fd, FunD K "power" "Row.power" (defArgs s_Row_power) (defBody s_Row_power) (defScope s_Row_power) [] [("many", .int 1)] A.R_power fd ∧ FnOk P w K mg base CX0 6 A.R_power fd ["cls", "exponent", "many"] (spPower A) := by
  obtain ⟨fd, F⟩ := T.d_R_power
  refine ⟨fd, F, F.ok sc_Row_power (fun vs H Q E h => by obtain ⟨_, _, rfl, _⟩ := h; rfl) (fun cdv A' outer s H vs Q E hr h => ?_)⟩
  obtain ⟨e, m, rfl, he, hm, q⟩ := h
  refine ⟨_, (pss_cons (ps_if (PW.pt (pw_or (pt_not (pt_val (pe_f (c_is_power T) hr (by decide) (by rfl) T.g_is_power T.k_is_power (pa_cons (pv 1) pa_nil)))) (pw_or1 (pt_not (pt_val (pe_f (c_is_integer T) hr (by decide) (by rfl) T.g_is_integer T.k_is_integer (pa_cons (pv 2) pa_nil)))))))
      (pss_one ps_never)
      pss_nil)
    (pss_one (ps_ret (pe_rowK T hr (by decide) (by rfl) (pa_cons (pe_disp (pps_cons (pv 1) (pv 2) pps_nil) (by rfl) (by rfl) (fun z => by cases z) (by decide)) pa_nil) (pk_cons pe_bl pk_nil))))), ?_⟩
  refine ⟨_, rfl, e, rfl, _, rfl, ?_⟩
  rw [decide_eq_true he]
  refine iteF ⟨_, rfl, _, _, rfl, .int m, _, rfl, ?_⟩
  rw [decide_eq_true hm]
  refine iteF ?_
  intro d hd
  refine ⟨_, rfl, _, rfl, upd_same, [(Sum.inl e, .int m)], rfl, by show 1 ≤ 15; decide, ?_⟩
  have s0 : Same H (upd (upd H d (.dK [])) d (.dK (mergeK [] [(Sum.inl e, V.int m)]))) := by rw [upd_upd]; exact same_new hd
  refine ⟨d, [(e, m)], rfl, upd_same, by simp [NdK], by show 1 < 64; decide, fun p hp _ => by rw [List.mem_singleton.mp hp]; exact he, fun r H' a hs ha s1 ra => ?_⟩
  exact q r H' a hs (s0.free ha) (s0.trans s1) ra
def spNone (A : Ad) : Sp := fun vs H Q _ => vs = [.ref A.Row] ∧ ∀ H' a, H a = none → Same H H' → RowAt A H' a [] → Q (.ref a) H'
theorem c_none (T : Txt K mg A) : FnR P w K mg base CX0 6 A.R_none (spNone A) := by
  refine fnr T.d_R_none sc_Row_none (fun _ _ _ _ _ _ us hl => match us, hl with | [_], _ => rfl) (fun vs H Q E h => by obtain ⟨rfl, _⟩ := h; rfl) (fun fd cdv A' outer s H vs Q E hr h => ?_)
  obtain ⟨rfl, q⟩ := h
  refine ⟨_, (pss_one (ps_ret (pe_row T hr (by decide) (by rfl) (pa_cons pe_dnewK pa_nil)))), ?_⟩
  intro d hd
  refine ⟨d, [], rfl, upd_same, by simp [NdK], by decide, rfl, fun r H' a hs ha s1 ra => ?_⟩
  have e : r = [] := by
    cases r with
    | nil => rfl
    | cons p r => have := (hs.mem p).mp (List.mem_cons_self ..); simp at this
  subst e
  exact q H' a ((same_new hd).free ha) ((same_new hd).trans s1) ra
def spTerms (A : Ad) : Sp := fun vs H Q _ => ∃ a r, vs = [.ref a] ∧ RowAt A H a r ∧ ∀ p, H p = none → Q (.ref p) (upd H p (.dK (kvI r)))
theorem c_terms (T : Txt K mg A) : FnR P w K mg base CX0 1 A.R_terms (spTerms A) := by
  refine fnr T.d_R_terms sc_Row_terms (fun _ _ _ _ _ _ us hl => match us, hl with | [_], _ => rfl) (fun vs H Q E h => by obtain ⟨_, _, rfl, _⟩ := h; rfl) (fun fd cdv A' outer s H vs Q E hr h => ?_)
  obtain ⟨a, r, rfl, ⟨d, dx, h1, h2⟩, q⟩ := h
  refine ⟨_, (pss_one (ps_ret (pe_callTy call_dictD (by rfl) T.f_dict (by decide +kernel) (pa_cons (pe_own T (pv 0)) pa_nil)))), ?_⟩
  exact ⟨_, rfl, a, dx, d, rfl, h1, d, _, rfl, .inl h2, q⟩
theorem asc_min {r : Rw} (h : Asc r) {m : Int} (h1 : m ∈ exps r) (h2 : ∀ j ∈ exps r, m ≤ j) : r.head?.map (·.1) = some m := by
  cases r with
  | nil => cases h1
  | cons p r =>
    have h3 := h2 p.1 (List.mem_cons_self ..)
    rcases List.mem_cons.mp h1 with e | hm
    · rw [e]; rfl
    · obtain ⟨z, hz, e⟩ := List.mem_map.mp hm
      have := (List.pairwise_cons.mp h).1 z hz
      omega
theorem asc_max : ∀ {r : Rw}, Asc r → ∀ {m : Int}, m ∈ exps r → (∀ j ∈ exps r, j ≤ m) → r.getLast?.map (·.1) = some m
  | [], _, m, h1, _ => by cases h1
  | [p], _, m, h1, _ => by
    have : m = p.1 := by simpa using h1
    rw [this]; rfl
  | p :: z :: r, h, m, h1, h2 => by
    have hp := List.pairwise_cons.mp h
    have hz := h2 z.1 (by simp)
    have hlt := hp.1 z (List.mem_cons_self ..)
    have ih := asc_max hp.2 (m := m) ((List.mem_cons.mp h1).resolve_left (by show ¬ m = p.1; omega)) fun j hj => h2 j (List.mem_cons_of_mem _ hj)
    rw [List.getLast?_cons_cons]
    exact ih
def loI (r : Rw) : Option Int := r.head?.map (·.1)
def hiI (r : Rw) : Option Int := r.getLast?.map (·.1)
def spLow (A : Ad) : Sp := fun vs H Q _ => ∃ a r, vs = [.ref a] ∧ RowAt A H a r ∧ Asc r ∧ Q (optI (loI r)) H
theorem c_low (T : Txt K mg A) : FnR P w K mg base CX0 1 A.R_low (spLow A) := by
  refine fnr T.d_R_low sc_Row_low (fun _ _ _ _ _ _ us hl => match us, hl with | [_], _ => rfl) (fun vs H Q E h => by obtain ⟨_, _, rfl, _⟩ := h; rfl) (fun fd cdv A' outer s H vs Q E hr h => ?_)
  obtain ⟨a, r, rfl, ⟨d, dx, h1, h2⟩, hA, q⟩ := h
  refine ⟨_, (pss_one (ps_ret (pe_callBK (crk_min rfl) (by rfl) T.f_min (by decide +kernel) (pa_cons (pe_own T (pv 0)) pa_nil) (pk_cons pe_non pk_nil)))), ?_⟩
  refine ⟨_, rfl, a, dx, d, rfl, h1, d, r, rfl, rfl, h2, fun e => ?_, fun m m1 m2 => ?_⟩
  · subst e; exact q
  · rw [show loI r = some m from asc_min hA m1 m2] at q; exact q
def spHigh (A : Ad) : Sp := fun vs H Q _ => ∃ a r, vs = [.ref a] ∧ RowAt A H a r ∧ Asc r ∧ Q (optI (hiI r)) H
theorem c_high (T : Txt K mg A) : FnR P w K mg base CX0 1 A.R_high (spHigh A) := by
  refine fnr T.d_R_high sc_Row_high (fun _ _ _ _ _ _ us hl => match us, hl with | [_], _ => rfl) (fun vs H Q E h => by obtain ⟨_, _, rfl, _⟩ := h; rfl) (fun fd cdv A' outer s H vs Q E hr h => ?_)
  obtain ⟨a, r, rfl, ⟨d, dx, h1, h2⟩, hA, q⟩ := h
  refine ⟨_, (pss_one (ps_ret (pe_callBK (crk_max rfl) (by rfl) T.f_max (by decide +kernel) (pa_cons (pe_own T (pv 0)) pa_nil) (pk_cons pe_non pk_nil)))), ?_⟩
  refine ⟨_, rfl, a, dx, d, rfl, h1, d, r, rfl, rfl, h2, fun e => ?_, fun m m1 m2 => ?_⟩
  · subst e; exact q
  · rw [show hiI r = some m from asc_max hA m1 m2] at q; exact q
def spanI (r : Rw) : Option Int := if r = [] then none else some ((hiI r).getD 0 - (loI r).getD 0)
def spSpan (A : Ad) : Sp := fun vs H Q _ => ∃ a r, vs = [.ref a] ∧ RowAt A H a r ∧ Asc r ∧ ∀ H', Same H H' → Q (optI (spanI r)) H'
theorem c_span (T : Txt K mg A) : FnR P w K mg base CX0 1 A.R_span (spSpan A) := by
  refine fnr T.d_R_span sc_Row_span (fun _ _ _ _ _ _ us hl => match us, hl with | [_], _ => rfl) (fun vs H Q E h => by obtain ⟨_, _, rfl, _⟩ := h; rfl) (fun fd cdv A' outer s H vs Q E hr h => ?_)
  obtain ⟨a, r, rfl, ⟨d, dx, h1, h2⟩, hA, q⟩ := h
  refine ⟨_, (pss_one (ps_ret (pe_ifExp (pt_cmpR (op_neI hr.units0) (pe_own T (pv 0)) pe_dnewK (nomark _)) (pe_op op_sub (pe_callB (cr_maxI rfl) (by rfl) T.f_max (by decide +kernel) (pa_cons (pe_own T (pv 0)) pa_nil)) (pe_callB (cr_minI rfl) (by rfl) T.f_min (by decide +kernel) (pa_cons (pe_own T (pv 0)) pa_nil))) pe_non))), ?_⟩
  refine ⟨_, rfl, a, dx, d, rfl, h1, fun p hp => ?_⟩
  have s1 : Same H (upd H p (.dK [])) := same_new hp
  refine ⟨d, p, r, [], rfl, rfl, s1 _ _ h2, upd_same, hA, List.Pairwise.nil, _, rfl, ?_⟩
  have q1 := q _ s1
  by_cases e : r = []
  · subst e
    exact iteF q1
  · rw [decide_eq_false e]
    unfold spanI at q1
    rw [if_neg e] at q1
    refine iteT ⟨_, rfl, a, dx, d, rfl, slt_same h1 s1, d, r, rfl, s1 _ _ h2, e, fun m m1 m2 => ⟨_, rfl, a, dx, d, rfl, slt_same h1 s1, d, r, rfl, s1 _ _ h2, e, fun n n1 n2 => ?_⟩⟩
    rw [show hiI r = some m from asc_max hA m1 m2, show loI r = some n from asc_min hA n1 n2] at q1
    exact ⟨m, n, rfl, rfl, q1⟩
theorem DGetI {H : Hp} {d : Addr} {r : Rw} (h : H d = some (.dK (kvI r))) (e : Int) : DGet H d (.int e) ((r.find? fun p => decide (p.1 = e)).map fun p => V.int p.2) := by
  have := DGet.k (k := (Sum.inl e : Key)) h
  rw [valV_kvI] at this
  exact this
theorem getD_val (r : Rw) (e : Int) : (((r.find? fun p => decide (p.1 = e)).map fun p => V.int p.2).getD (.int 0)) = .int (valI r e) := by
  unfold valI
  cases r.find? fun p => decide (p.1 = e) <;> rfl
def spGet (A : Ad) : Sp := fun vs H Q _ => ∃ a r e, vs = [.ref a, .int e] ∧ RowAt A H a r ∧ e.natAbs < 10 ^ 60 ∧ Q (.int (valI r e)) H
theorem c_getitem (T : Txt K mg A) : FnR P w K mg base CX0 2 A.R_getitem (spGet A) := by
  refine fnr T.d_R_getitem sc_Row___getitem__ (fun _ _ _ _ _ _ us hl => match us, hl with | [_, _], _ => rfl) (fun vs H Q E h => by obtain ⟨_, _, _, rfl, _⟩ := h; rfl) (fun fd cdv A' outer s H vs Q E hr h => ?_)
  obtain ⟨a, r, e, rfl, ⟨d, dx, h1, h2⟩, he, q⟩ := h
  have hu := hu_of hr
  refine ⟨_, (pss_cons (ps_if (pt_not (pt_val (pe_f (c_is_integer T) hr (by decide) (by rfl) T.g_is_integer T.k_is_integer (pa_cons (pv 1) pa_nil))))
      (pss_one ps_never)
      pss_nil)
    (pss_one (ps_ret (pe_dget2 hu (pe_own T (pv 0)) (pv 1) pe_int ⟨rfl, rfl, rfl, rfl⟩)))), ?_⟩
  refine ⟨_, rfl, _, _, rfl, .int e, _, rfl, ?_⟩
  rw [decide_eq_true he]
  refine iteF ⟨_, rfl, a, dx, d, rfl, h1, d, rfl, .inl ⟨_, .inl h2⟩, _, rfl, _, DGetI h2 e, ?_⟩
  rw [getD_val]
  exact q
def hasE (r : Rw) (e : Int) : Bool := (r.find? fun p => decide (p.1 = e)).isSome
def inRow (r : Rw) (b : Bool) : V → Bool
  | .int e => b && hasE r e
  | _ => false
def spHas (K : PySem.W.Frag) (A : Ad) : Sp := fun vs H Q _ => ∃ a r v b, vs = [.ref a, v] ∧ RowAt A H a r ∧ IntB K A H v b ∧ (b = true → ∃ e, v = .int e) ∧ Q (.bl (inRow r b v)) H
theorem c_contains (T : Txt K mg A) : FnR P w K mg base CX0 2 A.R_contains (spHas K A) := by
  refine fnr T.d_R_contains sc_Row___contains__ (fun _ _ _ _ _ _ us hl => match us, hl with | [_, _], _ => rfl) (fun vs H Q E h => by obtain ⟨_, _, _, _, rfl, _⟩ := h; rfl) (fun fd cdv A' outer s H vs Q E hr h => ?_)
  obtain ⟨a, r, v, b, rfl, ⟨d, dx, h1, h2⟩, hi, hb, q⟩ := h
  have hu := hu_of hr
  refine ⟨_, (pss_one (ps_ret (pe_and (pe_f (c_is_integer T) hr (by decide) (by rfl) T.g_is_integer T.k_is_integer (pa_cons (pv 1) pa_nil)) (pe_one (pe_cmp (pc_din hu (pv 1) (pe_own T (pv 0)))))))), ?_⟩
  refine ⟨_, rfl, v, b, rfl, hi, b, rfl, ?_⟩
  cases b with
  | true =>
    obtain ⟨e, rfl⟩ := hb rfl
    refine iteT ⟨_, rfl, _, rfl, a, dx, d, rfl, h1, d, _, rfl, DGetI h2 e, ?_⟩
    rw [Option.isSome_map]
    exact q
  | false =>
    refine iteF ?_
    have e : inRow r false v = false := by cases v <;> rfl
    rw [e] at q
    exact q
def spLen (A : Ad) : Sp := fun vs H Q _ => ∃ a r, vs = [.ref a] ∧ RowAt A H a r ∧ Q (.int r.length) H
theorem c_len (T : Txt K mg A) : FnR P w K mg base CX0 1 A.R_len (spLen A) := by
  refine fnr T.d_R_len sc_Row___len__ (fun _ _ _ _ _ _ us hl => match us, hl with | [_], _ => rfl) (fun vs H Q E h => by obtain ⟨_, _, rfl, _⟩ := h; rfl) (fun fd cdv A' outer s H vs Q E hr h => ?_)
  obtain ⟨a, r, rfl, ⟨d, dx, h1, h2⟩, q⟩ := h
  refine ⟨_, (pss_one (ps_ret (pe_callB call_lenD (by rfl) T.f_len (by decide +kernel) (pa_cons (pe_own T (pv 0)) pa_nil)))), ?_⟩
  refine ⟨_, rfl, a, dx, d, rfl, h1, d, _, rfl, h2, ?_⟩
  rw [kvI_len]
  exact q
/-- what stands on the right of row == -/
inductive EqRhs (K : PySem.W.Frag) (A : Ad) (H : Hp) (r : Rw) : V → Bool → Prop where
  | row {b : Addr} {q : Rw} (h : RowAt A H b q) (ha : Asc q) : EqRhs K A H r (.ref b) (decide (r = q))
  | no {y : V} {t : Value} (h : TyX K H y t) (k : PySem.W.kitOne K t (.ref A.Row) = some false) : EqRhs K A H r y false
def spEq (K : PySem.W.Frag) (A : Ad) : Sp := fun vs H Q _ => ∃ a r y b, vs = [.ref a, y] ∧ RowAt A H a r ∧ Asc r ∧ EqRhs K A H r y b ∧ Q (.bl b) H
theorem c_eq (T : Txt K mg A) : FnR P w K mg base CX0 1 A.R_eq (spEq K A) := by
  refine fnr T.d_R_eq sc_Row___eq__ (fun _ _ _ _ _ _ us hl => match us, hl with | [_, _], _ => rfl) (fun vs H Q E h => by obtain ⟨_, _, _, _, rfl, _⟩ := h; rfl) (fun fd cdv A' outer s H vs Q E hr h => ?_)
  obtain ⟨a, r, y, b, rfl, ⟨d, dx, h1, h2⟩, hA, hy, q⟩ := h
  refine ⟨_, (pss_one (ps_ret (pe_and (pe_callB (call_isiA T) (by rfl) T.f_isinstance (by decide +kernel) (pa_cons (pv 1) (pa_cons (pe_gc (by rfl) T.v_Row) pa_nil))) (pe_one (pe_cmpR (op_eqI hr.units0) (pe_own T (pv 0)) (pe_own T (pv 1)) (nomark _)))))), ?_⟩
  cases hy with
  | @row b q2 hb hq2 =>
    obtain ⟨d2, dx2, k1, k2⟩ := hb
    refine ⟨_, rfl, _, .ref A.Row, _, _, true, rfl, .own _, .own k1, T.rowrow, true, rfl, iteT ?_⟩
    exact ⟨_, rfl, a, dx, d, rfl, h1, _, rfl, b, dx2, d2, rfl, k1, d, d2, r, q2, rfl, rfl, h2, k2, hA, hq2, q⟩
  | no h k =>
    exact ⟨_, rfl, _, .ref A.Row, _, _, false, rfl, .own _, .any h, k, false, rfl, iteF q⟩
def spStr (A : Ad) : Sp := fun vs H Q _ => ∃ a r, vs = [.ref a] ∧ RowAt A H a r ∧ Bd r ∧ r.length ≤ 1000 ∧ ∀ H', Same H H' → Q (.str (S (rend r))) H'
theorem c_str (T : Txt K mg A) : FnR P w K mg base CX0 4 A.R_str (spStr A) := by
  refine fnr T.d_R_str sc_Row___str__ (fun _ _ _ _ _ _ us hl => match us, hl with | [_], _ => rfl) (fun vs H Q E h => by obtain ⟨_, _, rfl, _⟩ := h; rfl) (fun fd cdv A' outer s H vs Q E hr h => ?_)
  obtain ⟨a, r, rfl, ⟨d, dx, h1, h2⟩, hb, hl, q⟩ := h
  refine ⟨_, (pss_one (ps_ret (pe_joined1 (pe_fmt (pe_f (c_terms_text T) hr (by decide) (by rfl) T.g_terms_text T.k_terms_text (pa_cons (pe_own T (pv 0)) pa_nil)))))), ?_⟩
  refine ⟨_, rfl, a, dx, d, rfl, h1, d, r, rfl, h2, hb, hl, fun H' s1 => .inl ⟨_, rfl, ?_, q _ s1⟩⟩
  rw [S_len]
  exact len_small (by have := rend_len hb; omega)
end
end Wb

/-! The law's dice. -/
namespace Wb
open PySem PySem.Spec PyProof.Rows L2 SX TL
open C8 (pe_gc pss_cut tCut)
section
variable {P : Program} {w : World} {K : PySem.W.Frag} {mg : Str → Option Value} {base : Heap} {A : Ad} {X : Cx}
def DiceAt (H : Hp) (dd : Addr) : Prop := ∃ l s c : Int, H dd = some (.lst [.int l, .int s, .int c]) ∧ 0 ≤ l ∧ l < 10 ^ 120
def spDice (K : PySem.W.Frag) : Sp := fun vs H Q _ => ∃ (a : Addr) (ns : List Int) (k : Nat), vs = [.ref a, .int (k : Nat)] ∧ SqL K H a (ns.map V.int) ∧ ∀ p H', H p = none → Same H H' → DiceAt H' p → Q (.ref p) H'
theorem c_law_dice (T : Txt K mg A) : FnR P w K mg base CX0 1 A._law_dice (spDice K) := by
  refine fnr T.d__law_dice sc_law_dice (fun _ _ _ _ _ _ us hl => match us, hl with | [_, _], _ => rfl) (fun vs H Q E h => by obtain ⟨_, _, _, rfl, _⟩ := h; rfl) (fun fd cdv A' outer s H vs Q E hr h => ?_)
  obtain ⟨a, ns, k, rfl, ha, q⟩ := h
  refine ⟨_, (pss_cut (ps_set (i := 2) sc_law_dice.nd rfl (Or.inl rfl) (pe_ifExp (pt_cmpR op_lt (pv 1) (pe_callB call_len_seq (by rfl) T.f_len (by decide +kernel) (pa_cons (pv 0) pa_nil)) (nomark _)) (pe_callTy call_int1 (by rfl) T.f_int (by decide +kernel) (pa_cons (pe_ix ix_list (pv 0) (pv 1) (fun _ _ => rfl)) pa_nil)) (pe_op op_add (pe_op op_mul pe_int (pv 1)) pe_int)))
    (pss_cons (ps_set (i := 3) sc_law_dice.nd rfl (Or.inl rfl) (pe_op op_mod (pe_callB (call_max2 rfl) (by rfl) T.f_max (by decide +kernel) (pa_cons pe_int (pa_cons (pe_op op_sub (pe_callB call_abs (by rfl) T.f_abs (by decide +kernel) (pa_cons (pv 2) pa_nil)) (pe_op op_pow pe_int pe_int)) pa_nil))) (pe_op op_mulW (pe_op op_pow pe_int pe_int) (pe_op op_pow pe_int pe_int))))
    (pss_one (ps_ret (pe_lst (pa_cons (pv 3) (pa_cons (pe_op op_add (pe_op op_add (pe_op op_add (pe_op op_mul (pe_op op_mod (pe_callB call_abs (by rfl) T.f_abs (by decide +kernel) (pa_cons (pv 2) pa_nil)) pe_int) pe_int) (pe_op op_mul pe_int (pv 1))) (pe_op op_mul pe_int (pe_callTy call_int1 (by rfl) T.f_int (by decide +kernel) (pa_cons (pe_cmpR op_lt (pv 2) pe_int (nomark _)) pa_nil)))) pe_int) (pa_cons pe_int pa_nil)))))))), ?_⟩
  refine ⟨fun σ' H' => ∃ i : Int, σ' = [some (.ref a), some (.int (k : Nat)), some (.int i), none] ∧ H' = H, ?_, ?_⟩
  · refine ⟨_, rfl, _, rfl, a, _, rfl, .inl ha, _, _, rfl, rfl, _, rfl, ite2 (fun h => ?_) (fun h => ?_)⟩
    · have hk : k < ns.length := by
        have := of_decide_eq_true h
        rw [List.length_map] at this
        omega
      refine ⟨_, rfl, _, rfl, a, _, _, .int ns[k], rfl, rfl, ha, atI_nat (by simp [hk]), .inl ⟨_, rfl, _, rfl, rfl⟩⟩
    · exact ⟨_, rfl, _, _, rfl, rfl, .inl ⟨by decide, by decide⟩, _, _, rfl, rfl, _, rfl, rfl⟩
  rintro σ' H' ⟨i, rfl, rfl⟩
  refine ⟨_, rfl, i, rfl, _, _, rfl, rfl, ⟨by decide, by decide, by decide⟩, _, _, rfl, rfl, _, _, rfl, _, _, rfl, rfl, ⟨by decide, by decide, by decide⟩, _, _, rfl, rfl, ⟨by decide, by decide, by decide⟩, _, _, rfl, rfl, wide_mul (a := 400) (b := 400) (by decide +kernel) (by decide +kernel) (by decide) (by decide) (by decide), _, _, rfl, rfl, by show (0 : Int) < 10 ^ Int.toNat 60 * 10 ^ Int.toNat 60; decide +kernel, ?_⟩
  have hm : (0 : Int) < 10 ^ Int.toNat 60 * 10 ^ Int.toNat 60 := by decide +kernel
  have hb : (10 : Int) ^ Int.toNat 60 * 10 ^ Int.toNat 60 ≤ 10 ^ 120 := by decide +kernel
  refine ⟨_, rfl, _, rfl, i, rfl, _, _, rfl, rfl, by show (0 : Int) < 1152921504606846817; decide, _, _, rfl, rfl, .inr ⟨by decide, by decide⟩, _, rfl, _, _, rfl, rfl, .inl ⟨by decide, by decide⟩, _, _, rfl, rfl, _, rfl, _, _, rfl, rfl, .inr ⟨_, rfl, _, _, rfl, rfl, .inl ⟨by decide, by decide⟩, _, _, rfl, rfl, _, _, rfl, rfl, by show 3 ≤ sizeLine; decide, fun p hp => ?_⟩⟩
  refine q p _ hp (same_new hp) ⟨_, _, _, upd_same, Int.emod_nonneg _ (by omega), Int.lt_of_lt_of_le (Int.emod_lt_of_pos _ hm) hb⟩
/-- a roll -/
def spRoll : Sp := fun vs H Q _ => ∃ (dd : Addr) (n : Int), vs = [.ref dd, .int n] ∧ DiceAt H dd ∧ 0 < n ∧ n < 2 ^ 400 ∧ ∀ r H', 0 ≤ r → r < n → DiceAt H' dd → (∀ b, b ≠ dd → H' b = H b) → Q (.int r) H'
theorem c_law_roll (T : Txt K mg A) : FnR P w K mg base CX0 1 A._law_roll spRoll := by
  refine fnr T.d__law_roll sc_law_roll (fun _ _ _ _ _ _ us hl => match us, hl with | [_, _], _ => rfl) (fun vs H Q E h => by obtain ⟨_, _, rfl, _⟩ := h; rfl) (fun fd cdv A' outer s H vs Q E hr h => ?_)
  obtain ⟨dd, n, rfl, ⟨l, sd, c, hd, l0, l1⟩, n0, n1, q⟩ := h
  refine ⟨_, (pss_cons (ps_if (pt_cmpR op_gt (pe_ix ix_list (pv 0) pe_int (fun _ _ => rfl)) pe_int (nomark _))
      (pss_cons (ps_set (i := 2) sc_law_roll.nd rfl (Or.inl rfl) (pe_op op_mod (pe_callTy call_int1 (by rfl) T.f_int (by decide +kernel) (pa_cons (pe_ix ix_list (pv 0) pe_int (fun _ _ => rfl)) pa_nil)) (pv 1)))
        (pss_cons (ps_asg (pe_op op_fdivW (pe_ix ix_list (pv 0) pe_int (fun _ _ => rfl)) (pv 1)) (pg_sub (pv 0) pe_int set_list))
        (pss_one (ps_ret (pv 2)))))
      pss_nil)
    (pss_cons (ps_asg (pe_op op_add (pe_ix ix_list (pv 0) pe_int (fun _ _ => rfl)) pe_int) (pg_sub (pv 0) pe_int set_list))
    (pss_cons (ps_set (i := 3) sc_law_roll.nd rfl (Or.inl rfl) (pe_op op_mod (pe_callTy call_int1 (by rfl) T.f_int (by decide +kernel) (pa_cons (pe_op op_add (pe_ix ix_list (pv 0) pe_int (fun _ _ => rfl)) (pe_op op_mul pe_int (pe_ix ix_list (pv 0) pe_int (fun _ _ => rfl)))) pa_nil)) pe_int))
    (pss_cons (ps_set (i := 4) sc_law_roll.nd rfl (Or.inl rfl) (pe_op op_add (pe_op op_mul (pe_op op_mod (pe_callTy call_int1 (by rfl) T.f_int (by decide +kernel) (pa_cons (pe_op op_add (pe_op op_mul (pv 3) (pv 3)) (pe_op op_mul pe_int (pe_ix ix_list (pv 0) pe_int (fun _ _ => rfl)))) pa_nil)) pe_int) pe_int) (pv 3)))
    (pss_one (ps_ret (pe_op op_mod (pe_callTy call_int1 (by rfl) T.f_int (by decide +kernel) (pa_cons (pe_op op_fdiv (pv 4) pe_int) pa_nil)) (pv 1)))))))), ?_⟩
  have k0 : ∀ (H : Hp) (x y z : Int), H dd = some (.lst [.int x, .int y, .int z]) → SqL K H dd [.int x, .int y, .int z] := fun _ _ _ _ h => SqL.of h
  have hn : n.natAbs < 2 ^ 400 := by omega
  refine ⟨_, rfl, dd, _, 0, _, rfl, rfl, SqL.of hd, rfl, _, _, rfl, rfl, _, rfl, ite2 (fun h => ?_) (fun h => ?_)⟩
  · have hl : 0 < l := of_decide_eq_true h
    refine ⟨_, rfl, dd, _, 0, _, rfl, rfl, SqL.of hd, rfl, .inl ⟨_, rfl, _, rfl, _, _, rfl, rfl, n0, ?_⟩⟩
    refine ⟨_, rfl, dd, _, 0, _, rfl, rfl, SqL.of hd, rfl, _, rfl, _, _, rfl, rfl, wide_div n0 hn (by decide) (by decide), ?_⟩
    refine ⟨_, rfl, dd, _, 0, 0, rfl, rfl, hd, rfl, _, rfl, ?_⟩
    refine q _ _ (Int.emod_nonneg _ (by omega)) (Int.emod_lt_of_pos _ n0) ⟨_, _, _, upd_same, ?_, ?_⟩ fun b hb => upd_ne hb
    · exact Int.ediv_nonneg l0 (by omega)
    · exact Int.lt_of_le_of_lt (Int.ediv_le_self _ l0) l1
  · refine ⟨_, rfl, dd, _, 2, _, rfl, rfl, SqL.of hd, rfl, _, _, rfl, rfl, ?_⟩
    refine ⟨_, rfl, dd, _, 2, 2, rfl, rfl, hd, rfl, ?_⟩
    have h2 : (upd H dd (.lst ([V.int l, V.int sd, V.int c].set 2 (V.int (c + 1))))) dd = some (.lst [.int l, .int sd, .int (c + 1)]) := upd_same
    have hk : ∀ b, b ≠ dd → (upd H dd (.lst ([V.int l, V.int sd, V.int c].set 2 (V.int (c + 1))))) b = H b := fun b hb => upd_ne hb
    generalize upd H dd (.lst ([V.int l, V.int sd, V.int c].set 2 (V.int (c + 1)))) = H2 at h2 hk
    refine ⟨_, rfl, dd, _, 1, _, rfl, rfl, SqL.of h2, rfl, _, rfl, dd, _, 2, _, rfl, rfl, SqL.of h2, rfl, _, _, rfl, rfl, .inl ⟨by decide, by decide⟩, _, _, rfl, rfl, .inl ⟨_, rfl, _, _, rfl, rfl, by show (0 : Int) < 2305843009213693613; decide, ?_⟩⟩
    have a1 := Int.emod_nonneg (sd + 49979719 * (c + 1)) (b := 2305843009213693613) (by decide)
    have a2 := Int.emod_lt_of_pos (sd + 49979719 * (c + 1)) (b := 2305843009213693613) (by decide)
    generalize (sd + 49979719 * (c + 1)) % 2305843009213693613 = one at a1 a2
    refine ⟨_, rfl, _, rfl, _, _, rfl, rfl, .inl ⟨by omega, by omega⟩, _, rfl, dd, _, 2, _, rfl, rfl, SqL.of h2, rfl, _, _, rfl, rfl, .inl ⟨by decide, by decide⟩, _, _, rfl, rfl, .inl ⟨_, rfl, _, _, rfl, rfl, by show (0 : Int) < 2305843009213693907; decide, _, _, rfl, rfl, .inr ⟨by decide, by decide⟩, _, rfl, _, _, rfl, rfl, ?_⟩⟩
    refine ⟨_, rfl, _, _, rfl, rfl, ⟨by decide, by decide⟩, .inl ⟨_, rfl, _, rfl, _, _, rfl, rfl, n0, ?_⟩⟩
    exact q _ _ (Int.emod_nonneg _ (by omega)) (Int.emod_lt_of_pos _ n0) ⟨_, _, _, h2, l0, l1⟩ hk
end
end Wb

/-! The law's rows and texts. -/
namespace Wb
open PySem PySem.Spec PyProof.Rows L2 SX TL
open C8 (pe_gc pss_cut tCut)
section
variable {P : Program} {w : World} {K : PySem.W.Frag} {mg : Str → Option Value} {base : Heap} {A : Ad} {X : Cx}
theorem Paired.append {α β : Type} {F : α → β → Prop} : ∀ {xs : List α} {ys : List β} {us : List α} {ws : List β}, PySem.Paired F xs ys → PySem.Paired F us ws → PySem.Paired F (xs ++ us) (ys ++ ws)
  | _, _, _, _, .nil, k => k
  | _, _, _, _, .cons h t, k => .cons h (Paired.append t k)
theorem Paired.mapP' {α β : Type} {F G : α → β → Prop} : ∀ {xs : List α} {ys : List β}, PySem.Paired F xs ys → (∀ a b, a ∈ xs → F a b → G a b) → PySem.Paired G xs ys
  | _, _, .nil, _ => .nil
  | _, _, .cons h t, k => .cons (k _ _ (List.mem_cons_self ..) h) (Paired.mapP' t fun a b m => k a b (List.mem_cons_of_mem _ m))
theorem Paired.map_r' {α β γ : Type} {F : α → β → Prop} {G : α → γ → Prop} {g : β → γ} : ∀ {xs : List α} {ys : List β}, PySem.Paired F xs ys → (∀ a b, F a b → G a (g b)) → PySem.Paired G xs (ys.map g)
  | _, _, .nil, _ => .nil
  | _, _, .cons h t, k => .cons (k _ _ h) (Paired.map_r' t k)
def spPick : Sp := fun vs H Q _ => ∃ (dd p : Addr) (xs : List V), vs = [.ref dd, .ref p] ∧ DiceAt H dd ∧ H p = some (.lst xs) ∧ p ≠ dd ∧ xs ≠ [] ∧ xs.length ≤ 1000 ∧ ∀ v H', v ∈ xs → DiceAt H' dd → (∀ b, b ≠ dd → H' b = H b) → Q v H'
theorem c_law_pick (T : Txt K mg A) : FnR P w K mg base CX0 2 A._law_pick spPick := by
  refine fnr T.d__law_pick sc_law_pick (fun _ _ _ _ _ _ us hl => match us, hl with | [_, _], _ => rfl) (fun vs H Q E h => by obtain ⟨_, _, _, rfl, _⟩ := h; rfl) (fun fd cdv A' outer s H vs Q E hr h => ?_)
  obtain ⟨dd, p, xs, rfl, hd, hp, hne, hx, hl, q⟩ := h
  refine ⟨_, (pss_one (ps_ret (pe_ix ix_list (pv 1) (pe_f (c_law_roll T) hr (by decide) (by rfl) T.g__law_roll T.k__law_roll (pa_cons (pv 0) (pa_cons (pe_callB call_len_seq (by rfl) T.f_len (by decide +kernel) (pa_cons (pv 1) pa_nil)) pa_nil))) (fun _ _ => rfl)))), ?_⟩
  have h0 : 0 < xs.length := List.length_pos_iff.mpr hx
  refine ⟨_, rfl, _, rfl, _, rfl, p, xs, rfl, .inl (SqL.of hp), dd, _, rfl, hd, by omega, Int.lt_of_le_of_lt (show ((xs.length : Nat) : Int) ≤ 1000 by omega) (by decide +kernel), fun r H' r0 r1 hD hk => ?_⟩
  obtain ⟨k, rfl⟩ : ∃ k : Nat, r = (k : Int) := ⟨r.toNat, by omega⟩
  have hk2 : k < xs.length := by omega
  exact ⟨p, xs, _, xs[k], rfl, rfl, SqL.of (by rw [hk p hne]; exact hp), atI_nat (by simp [hk2]), q _ H' (List.getElem_mem hk2) hD hk⟩
/-! ### _law_row -/
theorem merge_fold (l acc : Rw) (h : NdK (acc ++ l)) : (kvI l).foldl (fun a kv => putK a kv.1 kv.2) (kvI acc) = kvI (acc ++ l) := by
  induction l generalizing acc with
  | nil => simp [kvI]
  | cons p l ih =>
    show ((kvI l).foldl (fun a kv => putK a kv.1 kv.2) (putK (kvI acc) (Sum.inl p.1) (.int p.2))) = _
    rw [putK_kvI, put_new]
    · rw [ih (acc ++ [(p.1, p.2)]) (by simpa using h)]
      simp
    · intro x hx e
      unfold NdK at h
      rw [List.map_append, List.map_cons, List.nodup_append] at h
      exact h.2.2 x.1 (List.mem_map.mpr ⟨x, hx, rfl⟩) p.1 (by simp) e
theorem mergeK_kvI {l : Rw} (h : NdK l) : mergeK [] (kvI l) = kvI l := merge_fold l [] h
def spLawRow : Sp := fun vs H Q _ => ∃ d t, vs = [.ref d] ∧ H d = some (.dK (kvI t)) ∧ NdK t ∧ t.length < 64 ∧ ∀ r H' p, Srt t r → H p = none → Same H H' → H' p = some (.dK (kvI r)) → Q (.ref p) H'
theorem c_law_row (T : Txt K mg A) : FnR P w K mg base CX0 1 A._law_row spLawRow := by
  refine fnr T.d__law_row sc_law_row (fun _ _ _ _ _ _ us hl => match us, hl with | [_], _ => rfl) (fun vs H Q E h => by obtain ⟨_, _, rfl, _⟩ := h; rfl) (fun fd cdv A' outer s H vs Q E hr h => ?_)
  obtain ⟨d, t, rfl, hd, hnd, hl, q⟩ := h
  have hu := hu_of hr
  refine ⟨_, (pss_one (ps_ret (pe_callTy (call_dictP rfl) (by rfl) T.f_dict (by decide +kernel) (pa_cons (pe_lc (own := [("_law_exponent", 1)]) rfl sc_law_row.nd (pi_list (pe_callB (call_sortedDI rfl) (by rfl) T.f_sorted (by decide +kernel) (pa_cons (pv 0) pa_nil))) (blkOk_by (own := [("_law_exponent", 1)]) (N := ["_law_terms", "_law_exponent"]) (sc := defScope s_law_row) (by decide +kernel)) (fun _ _ _ _ _ => (pg_name (i := 1) sc_law_row.nd rfl (Or.inl rfl))) (fun _ _ _ _ _ => (pts_one (pt_cmpR op_ne (pe_dget hu (pv 0) (pv 1) (fun _ _ => rfl)) pe_int (nomark _)))) (fun _ _ _ _ _ => (pe_tup (pa_cons (pv 1) (pa_cons (pe_dget hu (pv 0) (pv 1) (fun _ _ => rfl)) pa_nil))))) pa_nil)))), ?_⟩
  refine ⟨_, rfl, d, _, t.map (·.1), rfl, .inl hd, kvI_keys t, by rw [List.length_map]; exact hl, fun ys ps hperm hsort hps => ⟨ps, rfl, ⟨_, SqL.of upd_same⟩, fun D hD => ?_⟩⟩
  have hyl : ys.length < 64 := by rw [hperm.length_eq, List.length_map]; exact hl
  have s1 : Same H (upd H ps (.lst (ys.map V.int))) := same_new hps
  have hd1 := s1 _ _ hd
  have hpl : (upd H ps (.lst (ys.map V.int))) ps = some (.lst (ys.map V.int)) := upd_same
  generalize upd H ps (.lst (ys.map V.int)) = H1 at *
  refine lc_it (walk_list (xs := ys.map V.int)) (fun i H' => ∃ ts : List Addr, Acc H1 D (ts.map V.ref) H' ∧ Paired (fun t (p : Int × Int) => H' t = some (.tup [.int p.1, .int p.2])) ts (filt t (ys.take i)) ∧ (∀ a ∈ ts, a ≠ D)) ⟨[], Acc.start hD, .nil, by simp⟩ (fun i H' _ ⟨_, a, _⟩ => SqL.of (a.1 _ _ hpl)) ?_ ?_
  · rintro i x H2 H3 hi ⟨ts, ac, hp2, hts⟩ ⟨rfl, hx⟩
    rw [List.length_map] at hi
    rw [List.getElem?_map] at hx
    obtain ⟨e, he, rfl⟩ := Option.map_eq_some_iff.mp hx
    have hek : e ∈ t.map (·.1) := hperm.mem_iff.mp (List.mem_of_getElem? he)
    have etk : ys.take (i + 1) = ys.take i ++ [e] := by
      rw [List.take_succ_eq_append_getElem hi, (List.getElem?_eq_some_iff.mp he).2]
    have hg : ∀ H', Same H1 H' → DGet H' d (.int e) (some (.int (valI t e))) := fun H' s2 => by
      have := DGet.k (k := (Sum.inl e : Key)) (s2 _ _ hd1)
      rw [valV_key hek] at this
      exact this
    refine ⟨rfl, ?_⟩
    refine ⟨_, rfl, _, rfl, d, _, rfl, hg _ ac.1, rfl, _, rfl, ite2 (fun h => ?_) (fun h => ?_)⟩
    · have hne : valI t e ≠ 0 := by simpa using h
      refine ⟨_, rfl, _, rfl, _, rfl, d, _, rfl, hg _ ac.1, by show 2 ≤ sizeLine; decide, fun tp htp => ?_⟩
      have a3 := ac.same (same_new (o := .tup [.int e, .int (valI t e)]) htp)
      have htD : tp ≠ D := fun z => by rw [z, ac.2] at htp; cases htp
      refine ⟨_, a3.2, ?_, ts ++ [tp], ?_, ?_, ?_⟩
      · rw [List.length_map]
        refine len_small' ?_
        have l1 := Paired.length hp2
        have : (filt t (ys.take i)).length ≤ ys.length := by
          unfold filt
          rw [List.length_map]
          have := List.length_filter_le (fun e => decide (valI t e ≠ 0)) (ys.take i)
          rw [List.length_take] at this
          omega
        omega
      · rw [List.map_append]
        exact a3.push hD _
      · rw [etk, filt_snoc, if_pos hne]
        refine Paired.append (Paired.mapP' hp2 fun a b ha e1 => ?_) (.cons ?_ .nil)
        · rw [upd_ne (hts a ha), upd_ne (ne_of_none e1 htp)]
          exact e1
        · rw [upd_ne htD, upd_same]
      · intro a ha
        rcases List.mem_append.mp ha with ha | ha
        · exact hts a ha
        · rw [List.mem_singleton.mp ha]; exact htD
    · have h0 : valI t e = 0 := by simpa using h
      refine ⟨ts, ac, ?_, hts⟩
      rw [etk, filt_snoc, if_neg (by simpa using h0)]
      exact hp2
  · rintro H2 ⟨ts, ac, hp2, hts⟩
    rw [List.length_map, List.take_length] at hp2
    have hsr := filt_srt hnd hperm hsort
    generalize filt t ys = r at *
    refine ⟨D, ts, kvI r, rfl, SqL.of ac.2, ?_, fun p hp => ?_⟩
    · exact Paired.map_r' hp2 fun a b e => SqT.of e
    · rw [mergeK_kvI (asc_nd hsr.asc)]
      have s2 := s1.trans ac.1
      exact q r _ p hsr (s2.free hp) (s2.trans (same_new hp)) upd_same
end
end Wb

/-! _law_added, _law_is_row, _law_drawn_row, _law_row_text. -/
namespace Wb
open PySem PySem.Spec PyProof.Rows L2 SX TL
open C8 (pe_gc pss_cut tCut)
/-! ### a row's items as data -/
def itA (r : Rw) : List PyData := r.map fun p => .tuple [.int p.1, .int p.2]
theorem it_eqv : ∀ r q : Rw, PyData.eqvAll (itA r) (itA q) = decide (r = q)
  | [], [] => rfl
  | [], _ :: _ => by simp [itA, PyData.eqvAll]
  | _ :: _, [] => by simp [itA, PyData.eqvAll]
  | (a, b) :: r, (c, d) :: q => by
    have ih := it_eqv r q
    show (PyData.eqv (.tuple [.int a, .int b]) (.tuple [.int c, .int d]) && PyData.eqvAll (itA r) (itA q)) = _
    rw [ih]
    show (((a == c) && ((b == d) && true)) && decide (r = q)) = _
    rw [Bool.eq_iff_iff]
    simp [and_assoc]
theorem it_lay : ∀ r : Rw, PyData.canLayAll0 (itA r) = true
  | [] => rfl
  | p :: r => by
    show (PyData.canLay0 (.tuple [.int p.1, .int p.2]) && PyData.canLayAll0 (itA r)) = true
    rw [it_lay r]
    rfl
theorem it_depth : ∀ r : Rw, PyData.depthAll (itA r) ≤ 1
  | [] => Nat.zero_le _
  | p :: r => by
    show max (PyData.depth (.tuple [.int p.1, .int p.2])) (PyData.depthAll (itA r)) ≤ 1
    exact Nat.max_le.mpr ⟨Nat.le_refl _, it_depth r⟩
theorem it_shaped (r : Rw) : SeqAt.shaped (.list (itA r)) = true := by
  unfold SeqAt.shaped
  show (PyData.canLayAll0 (itA r) && decide (PyData.depthAll (itA r) + 1 ≤ 64)) = true
  rw [it_lay, Bool.true_and, decide_eq_true_eq]
  have := it_depth r
  omega
abbrev TupI (H : Hp) (t : Addr) (p : Int × Int) : Prop := H t = some (.tup [.int p.1, .int p.2])
theorem it_all {K : PySem.W.Frag} {H : Hp} : ∀ {ts : List Addr} {r : Rw}, Paired (TupI H) ts r → DpAll K H (ts.map V.ref) (itA r)
  | _, _, .nil => .nil
  | _, _, .cons h t => .cons (.tup (SqT.of h) (.cons (.int _) (.cons (.int _) .nil))) (it_all t)
theorem it_dp {K : PySem.W.Frag} {H : Hp} {a : Addr} {ts : List Addr} {r : Rw} (h : H a = some (.lst (ts.map V.ref))) (k : Paired (TupI H) ts r) : Dp K H (.ref a) (.list (itA r)) := .lst (SqL.of h) (it_all k)
theorem items_tup {H : Hp} {ts : List Addr} {r : Rw} (h : Paired (fun (t : Addr) (q : Key × V) => H t = some (.tup [kV q.1, q.2])) ts (kvI r)) : Paired (TupI H) ts r := Paired.map_r (F := fun (t : Addr) (q : Key × V) => H t = some (.tup [kV q.1, q.2])) (g := fun p : Int × Int => ((Sum.inl p.1 : Key), V.int p.2)) h
theorem nd_len : ∀ (r t : Rw), r.Nodup → (∀ p ∈ r, p ∈ t) → r.length ≤ t.length
  | [], _, _, _ => Nat.zero_le _
  | p :: r, t, hn, h => by
    have hp := h p (List.mem_cons_self ..)
    have hn' := List.nodup_cons.mp hn
    have ih := nd_len r (t.erase p) hn'.2 fun x hx => (List.mem_erase_of_ne (fun e => hn'.1 (by rw [← e]; exact hx))).mpr (h x (List.mem_cons_of_mem _ hx))
    rw [List.length_erase_of_mem hp] at ih
    have := List.length_pos_of_mem hp
    rw [List.length_cons]
    omega
theorem Srt.len {t r : Rw} (h : Srt t r) : r.length ≤ t.length := by
  refine nd_len r t ?_ fun p hp => ((h.mem p).mp hp).1
  exact h.asc.imp fun h e => by rw [e] at h; omega
section
variable {P : Program} {w : World} {K : PySem.W.Frag} {mg : Str → Option Value} {base : Heap} {A : Ad} {X : Cx}
theorem pe_terms {n : Nat} {e : Expr} {ta : TE} {pos : Pos} (T : Txt X.K X.mg A) (hr : Room n X.A) (hk : 2 ≤ n) (he : PE X e ta) (hb : attributeBase e "terms" X.env (eval e X.env) = eval e X.env := by rfl) : PE X (.Attribute e "terms" pos) (SlX.tPropSl A.Row (spTerms A) E0 ta) :=
  SlX.pe_propSl he T.scls T.a_terms T.b_terms T.t_terms T.r_terms (c_terms T) (hr.mono hk) (fun _ _ _ _ h => h) hb
def spIsRow (A : Ad) : Sp := fun vs H Q _ => ∃ a r d t q, vs = [.ref a, .ref d] ∧ RowAt A H a r ∧ H d = some (.dK (kvI t)) ∧ NdK t ∧ t.length < 64 ∧ Srt t q ∧ ∀ H', Same H H' → Q (.bl (decide (r = q))) H'
theorem c_law_is_row (T : Txt K mg A) : FnR P w K mg base CX0 3 A._law_is_row (spIsRow A) := by
  refine fnr T.d__law_is_row sc_law_is_row (fun _ _ _ _ _ _ us hl => match us, hl with | [_, _], _ => rfl) (fun vs H Q E h => by obtain ⟨_, _, _, _, _, rfl, _⟩ := h; rfl) (fun fd cdv A' outer s H vs Q E hr h => ?_)
  obtain ⟨a, r, d, t, q0, rfl, ha, hd, hnd, hl, hsr, q⟩ := h
  refine ⟨_, (pss_one (ps_ret (pe_and (pe_callB (call_isiA T) (by rfl) T.f_isinstance (by decide +kernel) (pa_cons (pv 0) (pa_cons (pe_gc (by rfl) T.v_Row) pa_nil))) (pe_one (pe_cmpR (op_eqD hr.units) (LiI.pe_listItems rfl (pe_terms T hr (by decide) (pv 0)) (by rfl) T.f_list (by decide +kernel)) (LiI.pe_listItems rfl (pe_f (c_law_row T) hr (by decide) (by rfl) T.g__law_row T.k__law_row (pa_cons (pv 1) pa_nil)) (by rfl) T.f_list (by decide +kernel)) (nomark _)))))), ?_⟩
  obtain ⟨d0, dx, h1, h2⟩ := id ha
  refine ⟨_, rfl, _, .ref A.Row, _, _, true, rfl, .own _, .own h1, T.rowrow, true, rfl, iteT ?_⟩
  refine ⟨_, rfl, a, dx, _, rfl, h1, a, r, rfl, ha, fun p hp => ?_⟩
  have s1 : Same H (upd H p (.dK (kvI r))) := same_new hp
  refine ⟨p, kvI r, rfl, upd_same, fun H2 pl ts s2 hpl hts hn hl2 hpr => ?_⟩
  refine ⟨_, rfl, d, t, rfl, s2 _ _ (s1 _ _ hd), hnd, hl, fun q1 H3 p3 hs3 hp3 s3 hd3 => ?_⟩
  cases hs3.uniq hsr
  refine ⟨p3, kvI q0, rfl, hd3, fun H4 pl4 ts4 s4 hpl4 hts4 hn4 hl4 hpr4 => ?_⟩
  have s34 : Same H2 H4 := s3.trans s4
  refine ⟨_, _, it_dp (s34 _ _ hl2) (Paired.mapP (items_tup hpr) fun b c e => s34 _ _ e), it_dp hl4 (items_tup hpr4), it_shaped _, it_shaped _, ?_⟩
  show Q (.bl (PyData.eqvAll (itA r) (itA q0))) H4
  rw [it_eqv]
  exact q _ (s1.trans (fun b o e => s34 _ _ (s2 _ _ e)))
def spAdded : Sp := fun vs H Q _ => ∃ d d2 r e, vs = [.ref d, .ref d2, .int 1] ∧ H d = some (.dK (kvI r)) ∧ H d2 = some (.dK (kvI [(e, 1)])) ∧ NdK r ∧ r.length < 63 ∧ ∀ q H' p, Srt (putI r e (valI r e + 1)) q → H p = none → Same H H' → H' p = some (.dK (kvI q)) → Q (.ref p) H'
theorem c_law_added (T : Txt K mg A) : FnR P w K mg base CX0 2 A._law_added spAdded := by
  refine fnr T.d__law_added sc_law_added (fun _ _ _ _ _ _ us hl => match us, hl with | [_, _, _], _ => rfl) (fun vs H Q E h => by obtain ⟨_, _, _, _, rfl, _⟩ := h; rfl) (fun fd cdv A' outer s H vs Q E hr h => ?_)
  obtain ⟨d, d2, r, e, rfl, hd, hd2, hnd, hl, q⟩ := h
  have hu := hu_of hr
  refine ⟨_, (pss_cons (ps_set (i := 3) sc_law_added.nd rfl (Or.inl rfl) (pe_callTy (call_dictP rfl) (by rfl) T.f_dict (by decide +kernel) (pa_cons (LiI.pe_listItems rfl (pv 0) (by rfl) T.f_list (by decide +kernel)) pa_nil)))
    (pss_cons (ps_lock (ps_for PassesOwn.never rfl (pi_keys (pv 1)) (pg_name (i := 4) sc_law_added.nd rfl (Or.inl rfl))
      (pss_one (ps_dput hu (pv 3) (pv 4) (pe_op op_add (pe_dget2 hu (pv 3) (pv 4) pe_int ⟨rfl, rfl, rfl, rfl⟩) (pe_op op_mul (pv 2) (pe_dget hu (pv 1) (pv 4) (fun _ _ => rfl)))) rfl))))
    (pss_one (ps_ret (pe_f (c_law_row T) hr (by decide) (by rfl) T.g__law_row T.k__law_row (pa_cons (pv 3) pa_nil)))))), ?_⟩
  refine ⟨_, rfl, d, _, rfl, hd, fun H1 p ts s1 hp hts hn hl1 hpr => ⟨p, ts, kvI r, rfl, SqL.of hl1, Paired.mapP hpr fun _ _ e => SqT.of e, fun pf hpf => ?_⟩⟩
  rw [mergeK_kvI hnd]
  have s1' : Same H H1 := s1
  have s2 := s1'.trans (same_new (o := .dK (kvI r)) hpf)
  have hpf0 : H pf = none := s1'.free hpf
  have hf : (upd H1 pf (.dK (kvI r))) pf = some (.dK (kvI r)) := upd_same
  generalize upd H1 pf (.dK (kvI r)) = H2 at s2 hf
  have n2 : pf ≠ d2 := fun z => by rw [z, hd2] at hpf0; cases hpf0
  refine ⟨d2, _, s2 _ _ hd2, by trivial, fun od => ⟨_, rfl, d2, od, rfl, .inl ⟨_, upd_same, ?_⟩⟩⟩
  refine for_it walk_keysI (fun i σ H' => ∃ x4, σ = [some (.ref d), some (.ref d2), some (.int 1), some (.ref pf), x4] ∧ H' d2 = some (.frz od (.dK (kvI [(e, 1)]))) ∧ (∀ b o, H b = some o → b ≠ d2 → H' b = some o) ∧ H' pf = some (.dK (kvI (if i = 0 then r else putI r e (valI r e + 1)))))
    ⟨none, rfl, upd_same, fun b o h hb => by rw [upd_ne hb]; exact s2 _ _ h, by rw [upd_ne n2]; exact hf⟩ (fun i σ H' _ ⟨_, _, h, _⟩ => h) ?_ ?_
  · rintro i x σ H3 H4 hi ⟨x4, rfl, h3, k3, f3⟩ ⟨rfl, p, hp, rfl⟩
    have hi0 : i = 0 := by simp at hi; exact hi
    subst hi0
    have ep : p = (e, 1) := by simpa using hp.symm
    subst ep
    have f3' : H4 pf = some (.dK (kvI r)) := f3
    refine ⟨_, rfl, pf, rfl, .inl ⟨_, .inl f3'⟩, _, rfl, _, DGetI f3' e, ?_⟩
    refine ⟨_, rfl, _, rfl, _, rfl, d2, .int 1, rfl, .inl ⟨_, Sum.inl e, .inr ⟨od, h3⟩, rfl, by rw [valV_kvI]; simp⟩, 1, 1, rfl, rfl, .inl ⟨by decide, by decide⟩, _, _, getD_val r e, rfl, ?_⟩
    refine ⟨_, rfl, _, rfl, pf, _, rfl, DPut.k (k := Sum.inl e) f3' (by rw [kvI_len]; exact len_small' (by omega)), ?_⟩
    refine ⟨_, rfl, by rw [upd_ne (Ne.symm n2)]; exact h3, fun b o h hb => ?_, ?_⟩
    · rw [upd_ne (ne_of_none h hpf0)]
      exact k3 b o h hb
    · rw [upd_same, putK_kvI]
      rfl
  · rintro σ H3 ⟨x4, rfl, h3, k3, f3⟩
    have f3' : H3 pf = some (.dK (kvI (putI r e (valI r e + 1)))) := f3
    have s3 : Same H (upd H3 d2 (.dK (kvI [(e, 1)]))) := fun b o h => by
      by_cases hb : b = d2
      · rw [hb, upd_same, ← hd2, ← hb, h]
      · rw [upd_ne hb]
        exact k3 b o h hb
    refine ⟨h3, _, rfl, pf, _, rfl, by rw [upd_ne n2]; exact f3', putI_nd hnd _ _, by have := putI_len r e (valI r e + 1); omega, fun r2 H4 p2 hs hp2 s4 hd4 => ?_⟩
    exact q r2 H4 p2 hs (s3.free hp2) (s3.trans s4) hd4
end
end Wb

/-! _law_drawn_row, _law_row_text. -/
namespace Wb
open PySem PySem.Spec PyProof.Rows L2 SX TL
open C8 (pe_gc pss_cut tCut)
/-- a row as it is drawn -/
structure Drawn (r : Rw) : Prop where
  asc : Asc r
  ne0 : ∀ p ∈ r, p.2 ≠ 0
  ex : ∀ p ∈ r, p.1.natAbs ≤ 10000
  num : ∀ p ∈ r, p.2.natAbs < 10 ^ 22
  len : r.length ≤ 7
theorem putI_mem {d : Rw} {e v : Int} {p : Int × Int} (h : p ∈ putI d e v) : p = (e, v) ∨ p ∈ d := by
  unfold putI at h
  split at h
  · obtain ⟨x, hx, e1⟩ := List.mem_map.mp h
    by_cases hc : x.1 = e
    · rw [if_pos hc] at e1
      left
      rw [← e1, hc]
    · rw [if_neg hc] at e1
      right
      rw [← e1]
      exact hx
  · rcases List.mem_append.mp h with h | h
    · exact .inr h
    · exact .inl (List.mem_singleton.mp h)
section
variable {P : Program} {w : World} {K : PySem.W.Frag} {mg : Str → Option Value} {base : Heap} {A : Ad} {X : Cx}
def spDrawn : Sp := fun vs H Q _ => ∃ (dd : Addr) (m : Int), vs = [.ref dd, .int 7, .int m] ∧ 0 < m ∧ m ≤ 10000 ∧ DiceAt H dd ∧ ∀ r H' p, Drawn r → H p = none → p ≠ dd → DiceAt H' dd → H' p = some (.dK (kvI r)) → (∀ b o, H b = some o → b ≠ dd → H' b = some o) → Q (.ref p) H'
theorem c_law_drawn_row (T : Txt K mg A) : FnR P w K mg base CX0 2 A._law_drawn_row spDrawn := by
  refine fnr T.d__law_drawn_row sc_law_drawn_row (fun _ _ _ _ _ _ us hl => match us, hl with | [_, _, _], _ => rfl) (fun vs H Q E h => by obtain ⟨_, _, rfl, _⟩ := h; rfl) (fun fd cdv A' outer s H vs Q E hr h => ?_)
  obtain ⟨dd, m, rfl, m0, m1, hD, q⟩ := h
  have hu := hu_of hr
  refine ⟨_, (pss_cons (ps_set (i := 3) sc_law_drawn_row.nd rfl (Or.inl rfl) pe_dnewK)
    (pss_cons (ps_for PassesOwn.never rfl (pi_range1 (by rfl) T.f_range (pa_cons (pe_f (c_law_roll T) hr (by decide) (by rfl) T.g__law_roll T.k__law_roll (pa_cons (pv 0) (pa_cons (pe_op op_add (pv 1) pe_int) pa_nil))) pa_nil)) (pg_name (i := 4) sc_law_drawn_row.nd rfl (Or.inl rfl))
      (pss_cut (ps_set (i := 5) sc_law_drawn_row.nd rfl (Or.inl rfl) (pe_ifExp (pt_cmpR op_gt (pe_f (c_law_roll T) hr (by decide) (by rfl) T.g__law_roll T.k__law_roll (pa_cons (pv 0) (pa_cons pe_int pa_nil))) pe_int (nomark _)) (pe_op op_sub (pe_f (c_law_roll T) hr (by decide) (by rfl) T.g__law_roll T.k__law_roll (pa_cons (pv 0) (pa_cons pe_int pa_nil))) pe_int) (pe_op op_sub (pe_op op_mul (pe_f (c_law_roll T) hr (by decide) (by rfl) T.g__law_roll T.k__law_roll (pa_cons (pv 0) (pa_cons (pe_op op_pow pe_int pe_int) pa_nil))) (pe_op op_pow pe_int pe_int)) pe_int)))
        (pss_one (ps_dput hu (pv 3) (pe_op op_sub (pe_f (c_law_roll T) hr (by decide) (by rfl) T.g__law_roll T.k__law_roll (pa_cons (pv 0) (pa_cons (pe_op op_add (pe_op op_mul pe_int (pv 2)) pe_int) pa_nil))) (pv 2)) (pv 5) rfl))))
    (pss_one (ps_ret (pe_f (c_law_row T) hr (by decide) (by rfl) T.g__law_row T.k__law_row (pa_cons (pv 3) pa_nil)))))), ?_⟩
  intro pf hpf
  have ddpf : pf ≠ dd := fun z => by obtain ⟨_, _, _, h, _⟩ := hD; rw [z, h] at hpf; cases hpf
  have hD1 : DiceAt (upd H pf (.dK [])) dd := by
    obtain ⟨l, s, c, h, h1⟩ := hD
    exact ⟨l, s, c, by rw [upd_ne (Ne.symm ddpf)]; exact h, h1⟩
  have h400 : (8 : Int) < 2 ^ 400 := by decide +kernel
  refine ⟨_, rfl, _, rfl, _, _, rfl, rfl, dd, _, rfl, hD1, by show (0 : Int) < 7 + 1; decide, h400, fun n H1 n0 n1 hD2 hk2 => ?_⟩
  refine ⟨n, rfl, by omega, by omega, ?_⟩
  refine for_it walk_range (fun i σ H' => ∃ x4 x5 t, σ = [some (.ref dd), some (.int 7), some (.int m), some (.ref pf), x4, x5] ∧ DiceAt H' dd ∧ H' pf = some (.dK (kvI t)) ∧ NdK t ∧ t.length ≤ i ∧ (∀ p ∈ t, p.1.natAbs ≤ 10000 ∧ p.2.natAbs < 10 ^ 22) ∧ (∀ b o, H b = some o → b ≠ dd → H' b = some o))
    ⟨none, none, [], rfl, hD2, by rw [hk2 _ ddpf, upd_same]; rfl, List.nodup_nil, Nat.le_refl _, by simp, fun b o h hb => by rw [hk2 b hb, upd_ne (ne_of_none h hpf)]; exact h⟩ (fun _ _ _ _ _ => True.intro) ?_ ?_
  · rintro i x σ H2 H3 hi ⟨x4, x5, t, rfl, hD3, hf, hnd, hl, hb, hk⟩ ⟨rfl, rfl⟩
    refine ⟨fun σ' H' => ∃ x4 v, σ' = [some (.ref dd), some (.int 7), some (.int m), some (.ref pf), x4, some (.int v)] ∧ v.natAbs < 10 ^ 22 ∧ DiceAt H' dd ∧ (∀ b, b ≠ dd → H' b = H3 b), ?_, ?_⟩
    · refine ⟨_, rfl, dd, _, rfl, hD3, by decide, by decide +kernel, fun r1 H4 r10 r11 hD4 hk4 => ?_⟩
      refine ⟨_, _, rfl, rfl, _, rfl, ite2 (fun h => ?_) (fun h => ?_)⟩
      · refine ⟨_, rfl, dd, _, rfl, hD4, by decide, by decide +kernel, fun r2 H5 r20 r21 hD5 hk5 => ⟨_, _, rfl, rfl, ?_⟩⟩
        exact ⟨_, _, rfl, by omega, hD5, fun b hb => (hk5 b hb).trans (hk4 b hb)⟩
      · refine ⟨_, rfl, _, _, rfl, rfl, ⟨by decide, by decide, by decide⟩, dd, _, rfl, hD4, by decide +kernel, by decide +kernel, fun r2 H5 r20 r21 hD5 hk5 => ?_⟩
        have r21' : r2 < 10 ^ 12 := r21
        refine ⟨_, _, rfl, rfl, ⟨by decide, by decide, by decide⟩, _, _, rfl, rfl, .inl ⟨by omega, by omega⟩, _, _, rfl, rfl, ?_⟩
        refine ⟨_, _, rfl, ?_, hD5, fun b hb => (hk5 b hb).trans (hk4 b hb)⟩
        show (r2 * 10 ^ 9 - 7).natAbs < 10 ^ 22
        omega
    · rintro σ' H' ⟨x4, v, rfl, hv, hD4, hk4⟩
      refine ⟨_, rfl, _, rfl, _, rfl, _, rfl, _, _, rfl, rfl, .inl ⟨by decide, by decide⟩, _, _, rfl, rfl, dd, _, rfl, hD4, by omega, ?_, fun r1 H5 r10 r11 hD5 hk5 => ?_⟩
      · exact Int.lt_of_le_of_lt (show 2 * m + 1 ≤ 20001 by omega) (by decide +kernel)
      have hf5 : H5 pf = some (.dK (kvI t)) := by rw [hk5 _ ddpf, hk4 _ ddpf]; exact hf
      refine ⟨_, rfl, _, _, rfl, rfl, pf, _, rfl, DPut.k (k := Sum.inl (r1 - m)) hf5 (by rw [kvI_len]; exact len_small' (by omega)), ?_⟩
      refine ⟨_, _, putI t (r1 - m) v, rfl, ?_, by rw [upd_same, putK_kvI], putI_nd hnd _ _, by have := putI_len t (r1 - m) v; omega, fun p hp => ?_, fun b o h hb' => ?_⟩
      · obtain ⟨l, s, c, h, h1⟩ := hD5
        exact ⟨l, s, c, by rw [upd_ne (Ne.symm ddpf)]; exact h, h1⟩
      · rcases putI_mem hp with e | hp
        · rw [e]
          exact ⟨by show (r1 - m).natAbs ≤ 10000; omega, hv⟩
        · exact hb p hp
      · rw [upd_ne (ne_of_none h hpf), hk5 _ hb', hk4 _ hb']
        exact hk b o h hb'
  · rintro σ H2 ⟨x4, x5, t, rfl, hD3, hf, hnd, hl, hb, hk⟩
    have hl7 : t.length ≤ 7 := by omega
    refine ⟨_, rfl, pf, t, rfl, hf, hnd, by omega, fun r H3 p hs hp s3 hd3 => ?_⟩
    refine q r H3 p ⟨hs.asc, hs.ne0, fun z hz => (hb z ((hs.mem z).mp hz).1).1, fun z hz => (hb z ((hs.mem z).mp hz).1).2, Nat.le_trans hs.len hl7⟩ ?_ ?_ ?_ hd3 fun b o h hb' => s3 _ _ (hk b o h hb')
    · cases e : H p with
      | none => rfl
      | some o =>
        by_cases z : p = dd
        · obtain ⟨_, _, _, h, _⟩ := hD3
          rw [z, h] at hp
          cases hp
        · rw [hk p o e z] at hp
          cases hp
    · rintro rfl
      obtain ⟨_, _, _, h, _⟩ := hD3
      rw [h] at hp
      cases hp
    · obtain ⟨l, s, c, h, h1⟩ := hD3
      exact ⟨l, s, c, s3 _ _ h, h1⟩
def spRowText : Sp := fun vs H Q _ => ∃ d r, vs = [.ref d] ∧ H d = some (.dK (kvI r)) ∧ NdK r ∧ Bd r ∧ r.length ≤ 1000 ∧ ∀ H', Same H H' → Q (.str (S (rend r))) H'
theorem c_law_row_text (T : Txt K mg A) : FnR P w K mg base CX0 1 A._law_row_text spRowText := by
  refine fnr T.d__law_row_text sc_law_row_text (fun _ _ _ _ _ _ us hl => match us, hl with | [_], _ => rfl) (fun vs H Q E h => by obtain ⟨_, _, rfl, _⟩ := h; rfl) (fun fd cdv A' outer s H vs Q E hr h => ?_)
  obtain ⟨d, r, rfl, hd, hnd, hb, hl, q⟩ := h
  have hu := hu_of hr
  refine ⟨_, (pss_cons (ps_set (i := 1) sc_law_row_text.nd rfl (Or.inl rfl) pe_str)
    (pss_cons (ps_lock (ps_for PassesOwn.never rfl (pi_keys (pv 0)) (pg_name (i := 2) sc_law_row_text.nd rfl (Or.inl rfl))
      (pss_cons (ps_set (i := 3) sc_law_row_text.nd rfl (Or.inl rfl) (pe_dget hu (pv 0) (pv 2) (fun _ _ => rfl)))
        (pss_cut (ps_set (i := 4) sc_law_row_text.nd rfl (Or.inl rfl) (pe_ifExp (pt_cmpR op_eq (pv 2) pe_int (nomark _)) pe_str (pe_ifExp (pt_cmpR op_eq (pv 2) pe_int (nomark _)) pe_str (pe_op op_add_str pe_str (pe_callTy call_str_int (by rfl) T.f_str (by decide +kernel) (pa_cons (pv 2) pa_nil))))))
        (pss_cut (ps_set (i := 5) sc_law_row_text.nd rfl (Or.inl rfl) (pe_ifExp (PW.pt (pw_and (pt_cmpR op_eq (pe_callB call_abs (by rfl) T.f_abs (by decide +kernel) (pa_cons (pv 3) pa_nil)) pe_int (nomark _)) (pw_and1 (pt_cmpR op_ne (pv 4) pe_str (nomark _))))) (pv 4) (pe_op op_add_str (pe_callTy call_str_int (by rfl) T.f_str (by decide +kernel) (pa_cons (pe_callB call_abs (by rfl) T.f_abs (by decide +kernel) (pa_cons (pv 3) pa_nil)) pa_nil)) (pv 4))))
        (pss_cut (ps_set (i := 6) sc_law_row_text.nd rfl (Or.inl rfl) (pe_ifExp (pt_cmpR op_lt (pv 3) pe_int (nomark _)) pe_str pe_str))
        (pss_cut (ps_if (pt_cmpR op_ne (pv 1) pe_str (nomark _))
          (pss_one (ps_set (i := 6) sc_law_row_text.nd rfl (Or.inl rfl) (pe_ifExp (pt_cmpR op_lt (pv 3) pe_int (nomark _)) pe_str pe_str)))
          pss_nil)
        (pss_one (ps_set (i := 1) sc_law_row_text.nd rfl (Or.inl rfl) (pe_op op_add_str (pe_op op_add_str (pv 1) (pv 6)) (pv 5)))))))))))
    (pss_one (ps_ret (pe_ifExp (pt_cmpR op_ne (pv 1) pe_str (nomark _)) (pv 1) pe_str))))), ?_⟩
  refine ⟨d, _, hd, by trivial, fun od => ⟨_, rfl, d, od, rfl, .inl ⟨_, upd_same, ?_⟩⟩⟩
  refine for_it walk_keysI (fun i σ H2 => ∃ x2 x3 x4 x5 x6, σ = [some (.ref d), some (.str (S (body (r.take i)))), x2, x3, x4, x5, x6] ∧ H2 = upd H d (.frz od (.dK (kvI r)))) ⟨none, none, none, none, none, rfl, rfl⟩ (fun i σ H2 _ ⟨_, _, _, _, _, _, e⟩ => by rw [e]; exact upd_same) ?_ ?_
  · rintro i x σ H2 H3 hi ⟨x2, x3, x4, x5, x6, rfl, rfl⟩ ⟨rfl, ⟨e, v⟩, hp, rfl⟩
    have hm : (e, v) ∈ r := List.mem_of_getElem? hp
    have he := hb.ex _ hm
    have hv := hb.num _ hm
    have hg : DGet (upd H d (.frz od (.dK (kvI r)))) d (.int e) (some (.int v)) := .inl ⟨_, Sum.inl e, .inr ⟨od, upd_same⟩, rfl, by rw [valV_kvI, valI_mem hnd hm]; rfl⟩
    generalize upd H d (.frz od (.dK (kvI r))) = H2 at hg
    have l0 := body_len (hb.take i)
    have l1 : (r.take i).length ≤ 1000 := by rw [List.length_take]; omega
    have l2 : (termT e v).length ≤ 68 := termT_len he hv
    have l3 := lead_len (body (r.take i)) v
    have l4 : (powT e).length ≤ 8 := powT_len he
    have l5 := len_num (n := v.natAbs) (k := 60) (by decide) hv
    refine ⟨_, rfl, _, rfl, d, _, rfl, hg, ?_⟩
    refine ⟨fun σ' H' => σ' = [some (.ref d), some (.str (S (body (r.take i)))), some (.int e), some (.int v), some (.str (S (powT e))), x5, x6] ∧ H' = H2, ?_, ?_⟩
    · refine ⟨_, rfl, rfl, _, rfl, ite2 (fun h => ?_) (fun h => ?_)⟩
      · have e0 : e = 0 := by simpa using h
        subst e0
        exact ⟨rfl, rfl⟩
      have e0 : e ≠ 0 := by simpa using h
      refine ⟨_, rfl, rfl, _, rfl, ite2 (fun h => ?_) (fun h => ?_)⟩
      · have e1 : e = 1 := by simpa using h
        subst e1
        exact ⟨rfl, rfl⟩
      have e1 : e ≠ 1 := by simpa using h
      have ht : (Str.ofString "x^" ++ (toString e : Str)) = S (powT e) := by
        rw [ts_int, show Str.ofString "x^" = S [120, 94] from rfl, S_cat]
        unfold powT
        rw [if_neg e0, if_neg e1]
        rfl
      refine ⟨_, rfl, _, rfl, log1920 (show e.natAbs < 10 ^ 120 by omega), _, _, rfl, rfl, ?_, ?_⟩
      · have : (intT e).length ≤ 6 := intT_len he
        have h2 : (Str.ofString "x^").length = 2 := rfl
        rw [ts_int, S_len (intT e)]
        exact len_small (by omega)
      · show [_, _, _, _, some (V.str (Str.ofString "x^" ++ (toString e : Str))), _, _] = _ ∧ _
        rw [ht]
        exact ⟨rfl, rfl⟩
    rintro σ' H' ⟨rfl, rfl⟩
    refine ⟨fun σ' H2 => σ' = [some (.ref d), some (.str (S (body (r.take i)))), some (.int e), some (.int v), some (.str (S (powT e))), some (.str (S (termT e v))), x6] ∧ H2 = H', ?_, ?_⟩
    · have pne : powT e ≠ [] ↔ e ≠ 0 := by
        unfold powT
        by_cases z : e = 0
        · simp [z]
        · by_cases z1 : e = 1
          · simp [z1]
          · simp [z, z1]
      have bad : ¬ (v.natAbs = 1 ∧ e ≠ 0) → tOp (fun x y H Q => ∃ i j, x = .str i ∧ y = .str j ∧ i.length + j.length ≤ sizeLine ∧ Q (.str (i ++ j)) H) (tCB (fun xs H Q => ∃ i : Int, xs = [.int i] ∧ i.natAbs.log2 < 1920 ∧ Q (.str (toString i)) H) (tCons (tCB (fun xs H Q => ∃ i, xs = [.int i] ∧ Q (.int (if i < 0 then -i else i)) H) (tCons (tVar 3) tNil)) tNil)) (tVar 4)
          [some (.ref d), some (.str (S (body (r.take i)))), some (.int e), some (.int v), some (.str (S (powT e))), x5, x6] H' (fun x H1 => ([some (.ref d), some (.str (S (body (r.take i)))), some (.int e), some (.int v), some (.str (S (powT e))), x5, x6].set 5 (some x)) = [some (.ref d), some (.str (S (body (r.take i)))), some (.int e), some (.int v), some (.str (S (powT e))), some (.str (S (termT e v))), x6] ∧ H1 = H') := fun hn => by
        refine ⟨_, rfl, v, rfl, (v.natAbs : Int), congrArg (fun x => [V.int x]) (absE v), log1920' (by simpa using hv), _, rfl, _, _, rfl, rfl, ?_, ?_⟩
        · rw [ts_nat, S_len, S_len]
          exact len_small (by omega)
        · rw [ts_nat, S_cat]
          refine ⟨?_, rfl⟩
          unfold termT
          rw [if_neg hn]
          rfl
      refine ⟨_, rfl, v, rfl, rfl, _, rfl, ite2 (fun h => ?_) (fun h => ?_)⟩
      · have h1 : v.natAbs = 1 := by
          rw [absE] at h
          have := of_decide_eq_true h
          injection this
          omega
        refine ⟨_, rfl, rfl, _, rfl, ite2 (fun h => ?_) (fun h => ?_)⟩
        · have e0 : e ≠ 0 := pne.mp (tne_t (b := []) rfl h)
          refine ⟨_, rfl, ?_, rfl⟩
          rw [show termT e v = powT e from if_pos ⟨h1, e0⟩]
          rfl
        · exact bad fun z => pne.mpr z.2 (tne_f (b := []) rfl h)
      · refine bad fun z => h ?_
        rw [absE, z.1]
        rfl
    rintro σ' H2 ⟨rfl, rfl⟩
    refine ⟨fun σ' H3 => σ' = [some (.ref d), some (.str (S (body (r.take i)))), some (.int e), some (.int v), some (.str (S (powT e))), some (.str (S (termT e v))), some (.str (S (if v < 0 then [45] else [])))] ∧ H3 = H2, ?_, ?_⟩
    · refine ⟨_, rfl, _, _, rfl, rfl, _, rfl, ite2 (fun h => ?_) (fun h => ?_)⟩
      · have hv : v < 0 := of_decide_eq_true h
        refine ⟨?_, rfl⟩
        rw [if_pos hv]
        rfl
      · have hv : ¬ v < 0 := fun z => h (decide_eq_true z)
        refine ⟨?_, rfl⟩
        rw [if_neg hv]
        rfl
    rintro σ' H3 ⟨rfl, rfl⟩
    refine ⟨fun σ' H2 => σ' = [some (.ref d), some (.str (S (body (r.take i)))), some (.int e), some (.int v), some (.str (S (powT e))), some (.str (S (termT e v))), some (.str (S (lead (body (r.take i)) v)))] ∧ H2 = H3, ?_, ?_⟩
    · refine ⟨_, rfl, rfl, _, rfl, ite2 (fun h => ?_) (fun h => ?_)⟩
      · have hne : body (r.take i) ≠ [] := tne_t rfl h
        refine ⟨_, rfl, _, _, rfl, rfl, _, rfl, ite2 (fun h => ?_) (fun h => ?_)⟩
        · have hv : v < 0 := of_decide_eq_true h
          refine ⟨?_, rfl⟩
          unfold lead
          rw [if_neg hne, if_pos hv, if_pos hv]
          rfl
        · have hv : ¬ v < 0 := fun z => h (decide_eq_true z)
          refine ⟨?_, rfl⟩
          unfold lead
          rw [if_neg hne, if_neg hv, if_neg hv]
          rfl
      · have hne : body (r.take i) = [] := tne_f rfl h
        refine ⟨?_, rfl⟩
        unfold lead
        rw [if_pos hne]
    rintro σ' H2 ⟨rfl, rfl⟩
    refine ⟨_, rfl, _, rfl, _, _, rfl, rfl, ?_, _, rfl, _, _, rfl, rfl, ?_, ?_⟩
    · rw [S_len, S_len]
      exact len_small (by omega)
    · rw [S_cat, S_len, S_len, List.length_append]
      exact len_small (by omega)
    · refine ⟨some (.int e), some (.int v), some (.str (S (powT e))), some (.str (S (termT e v))), some (.str (S (lead (body (r.take i)) v))), ?_, rfl⟩
      rw [S_cat, S_cat]
      show [_, some (V.str (S (step (body (r.take i)) (e, v)))), _, _, _, _, _] = _
      rw [show step (body (r.take i)) (e, v) = body (r.take (i + 1)) from (take_fold (t := []) hp).symm]
  · rintro σ H2 ⟨x2, x3, x4, x5, x6, rfl, rfl⟩
    refine ⟨upd_same, ?_⟩
    rw [List.take_length, upd_upd]
    have s2 : Same H (upd H d (.dK (kvI r))) := fun b o h => by
      by_cases z : b = d
      · rw [z, upd_same, ← hd, ← z, h]
      · rw [upd_ne z]; exact h
    have q2 := q _ s2
    unfold rend at q2
    refine ⟨_, rfl, rfl, _, rfl, ite2 (fun h => ?_) (fun h => ?_)⟩
    · rw [if_neg (tne_t (b := []) rfl h)] at q2
      exact ⟨_, rfl, q2⟩
    · rw [if_pos (tne_f (b := []) rfl h)] at q2
      exact q2
end
end Wb

/-! Rules that the layer lacks, 6: for i, c in enumerate(text). -/
namespace Wb
open PySem PySem.Spec PyProof.Rows L2
def Ites (x : Str) : It :=
  ⟨fun i _ => i < x.cps.size, fun i H v H' => ∃ T c, v = .ref T ∧ H T = none ∧ H' = upd H T (.tup [.int (i : Nat), .str ⟨#[c]⟩]) ∧ x.cps[i]? = some c, fun i _ => x.cps.size ≤ i⟩
theorem draws_str {prog : Program} {w : World} {A : Around} (hh : A.handled = none) (it : Addr) (x : Str) (t : Tok) : Draws prog w A it [it] x.cps.size (SignAt x) (fun i h => h.IsStrIter it (strIterType x) x t i) := by
  unfold strIterType
  split
  · exact Draws.strAscii hh it x t
  · exact Draws.strWide hh it x t
theorem turn_enumS {P : Program} {w : World} {K : PySem.W.Frag} {elts : List Expr} {kk : Nat} {tpos : Pos} (x : Str) (t : Tok) (e it : Addr) :
    Turn P w K (.Tuple elts kk tpos) (Ites x) [e, it] e (fun i h => (∃ old, IsEnum h e it ((i : Nat) : Int) old) ∧ h.IsStrIter it (strIterType x) x t i ∧ e ≠ it ∧ i ≤ x.cps.size) where
  mem := by simp
  obj := fun i h st b hb => by
    obtain ⟨⟨old, he⟩, ⟨o, ho, hc, hd⟩, _, _⟩ := st
    have e' : b = e ∨ b = it := by simpa using hb
    rcases e' with z | z
    · rw [z]; exact ⟨_, he, fun v q => nomatch q⟩
    · rw [z]; exact ⟨o, ho, fun v q => by rw [hd] at q; cases q⟩
  keep := fun i h h' st k => let ⟨⟨old, he⟩, ⟨o, ho, r⟩, hne, hle⟩ := st; ⟨⟨old, k e (by simp) _ he⟩, ⟨o, k it (by simp) o ho, r⟩, hne, hle⟩
  item := by
    intro X hP hw hK hc i pins s σ H E I hf st hg
    subst hP hw hK
    obtain ⟨⟨old, he⟩, hit, hne, hle⟩ := st
    have D := draws_str (prog := X.prog) (w := X.w) (A := X.A.in1) (I.ok.hd hc) it x t
    have hel : e < s.heap.objs.size := Heap.lt_size he
    have hil : it < s.heap.objs.size := by obtain ⟨_, q, _⟩ := hit; exact Heap.lt_size q
    refine wpAny_pyNext_enum_itemD D he hit hg hne (by simpa using hne) fun u h' tk hP ho hit' hT hsz hk => ?_
    obtain ⟨c, tc, hcx, rfl⟩ := hP
    refine ⟨_, rfl, wpAny_letOwnedTupleGo_enum (s := { s with heap := h', toks := tk + 1 }) ho fun h'' he' sb => ?_⟩
    have hT2 : h''.get? s.heap.objs.size = some { cls := .type "tuple", data := .seq #[.int i tk, .str ⟨#[c]⟩ tc] } := (sb.2 _ (Nat.ne_of_gt hel)).trans hT
    have new : ObjOk X.prog X.w (upd H s.heap.objs.size (.tup [.int (i : Nat), .str ⟨#[c]⟩])) h'' s.heap.objs.size (.tup [.int (i : Nat), .str ⟨#[c]⟩]) :=
      ⟨by show 2 ≤ sizeLine; decide, [.int i tk, .str ⟨#[c]⟩ tc], .cons ⟨_, rfl⟩ (.cons ⟨_, rfl⟩ .nil), ⟨_, hT2, rfl, _, rfl⟩⟩
    have I1 : Inv X pins σ (upd H s.heap.objs.size (.tup [.int (i : Nat), .str ⟨#[c]⟩])) { s with heap := h'', toks := tk + 1 } :=
      I.turnedNew (ch := [e, it]) (fun b ob hb q => (sb.2 b (fun z => hb (by simp [z]))).trans (hk b ob (fun z => hb (by simp [z])) (fun z => hb (by simp [z])) q)) hf (Nat.le_refl _) new
    refine ⟨.ref s.heap.objs.size, _, I1, rfl, ⟨_, c, rfl, I.hok.fresh (Nat.le_refl _), rfl, hcx⟩, ⟨⟨.str ⟨#[c]⟩ tc, ?_⟩, ?_, hne, hg⟩, fun b hb => ?_⟩
    · have e1 : ((i + 1 : Nat) : Int) = (i : Int) + 1 := by omega
      rw [e1]; exact he'
    · obtain ⟨o, ho', r⟩ := hit'
      exact ⟨o, (sb.2 it (Ne.symm hne)).trans ho', r⟩
    · have hb' : b < s.heap.objs.size := by
        have e' : b = e ∨ b = it := by simpa using hb
        rcases e' with z | z
        · rw [z]; exact hel
        · rw [z]; exact hil
      rw [upd_ne (Nat.ne_of_lt hb')]
      exact (hf b hb).1
  done := by
    intro X hP hw hK hc i pins s σ H E I hf st hg
    subst hP hw hK
    obtain ⟨⟨old, he⟩, hit, hne, hle⟩ := st
    obtain ⟨f0, f1, f2, f3, f4, f5⟩ := hf it (by simp)
    have D := draws_str (prog := X.prog) (w := X.w) (A := X.A.in1) (I.ok.hd hc) it x t
    have ei : i = x.cps.size := Nat.le_antisymm hle hg
    subst ei
    exact wpAny_pyNext_enum_endD D he hit fun h' eb => ⟨rfl, I.turned (t' := s.toks) (fun b o hb q => eb b o hb q) f0 f1 f3 f4 f5⟩
  self := fun A i s Q E st h => let ⟨⟨_, he⟩, _⟩ := st; wpAny_pyIter_enum he h
def iEnumS (ta : TA) : TI := fun σ H R => ta σ H fun vs H1 => ∃ x, vs = [.str x] ∧ R (Ites x) H1
theorem pi_enumS {X : Cx} {e : Expr} {ta : TA} {p pos tpos : Pos} {elts : List Expr} {kk : Nat} (hg : Gl X "enumerate") (hm : X.mg "enumerate" = none) (ha : PA X [e] ta) (hs : starEach [e] X.env = [(false, eval e X.env)] := by rfl) :
    PI X (.Tuple elts kk tpos) (.Call (.Name "enumerate" p) [e] [] pos) (iEnumS ta) := by
  refine ⟨fun pins s σ H R I h => ?_⟩
  refine Call_ (ld_blt I hg hm boot_enumerate (PyProof.Rows.callWith_type1 (thn (ha.run pos pins s σ H _ I h) fun us s1 ⟨vs, H1, I1, r1, q1⟩ => ?_) hs rfl))
  obtain ⟨x, ex, q⟩ := q1
  subst ex
  cases r1 with
  | cons r rr =>
    cases rr
    obtain ⟨t, rfl⟩ := r
    refine call_enumerate_str fun h' he hit hsz hk => wpAny_pyIter_enum he ?_
    have I2 : Inv X pins σ H1 { s1 with heap := h' } := I1.kept (t' := s1.toks) hk
    refine ⟨s1.heap.objs.size + 1, [s1.heap.objs.size + 1, s1.heap.objs.size], _, _, H1, rfl, I2, turn_enumS x t (s1.heap.objs.size + 1) s1.heap.objs.size, ⟨⟨.none, he⟩, hit, Nat.succ_ne_self _, Nat.zero_le _⟩, fun b hb => ?_, q⟩
    have e' : b = s1.heap.objs.size + 1 ∨ b = s1.heap.objs.size := by simpa using hb
    have hle : s1.heap.objs.size ≤ b := by
      rcases e' with z | z
      · rw [z]; exact Nat.le_add_right _ _
      · rw [z]; exact Nat.le_refl _
    exact I1.fpOk hle (I1.hok.fresh hle)
theorem walk_enumS {z : Str} : Walk (Ites z) z.cps.size (fun _ => True) (fun i H v H' => ∃ T c, v = .ref T ∧ H T = none ∧ H' = upd H T (.tup [.int (i : Nat), .str ⟨#[c]⟩]) ∧ z.cps[i]? = some c) :=
  ⟨fun _ _ hi _ => hi, fun _ _ => Nat.le_refl _, fun _ _ _ _ _ _ y => y⟩
end Wb

/-! _law_term_read. -/
namespace Wb
open PySem PySem.Spec PyProof.Rows L2 SX TL
open C8 (pe_gc pss_cut tCut)
theorem isDigit_dig {c : Nat} (h : c < 128) : Unicode.isDigit c = dig c := by
  have k : ∀ n : Fin 128, Unicode.isDigit n.val = dig n.val := by decide +kernel
  exact k ⟨c, h⟩
theorem all_cong {f g : Nat → Bool} : ∀ {l : List Nat}, (∀ c ∈ l, f c = g c) → l.all f = l.all g
  | [], _ => rfl
  | c :: l, h => by rw [List.all_cons, List.all_cons, h c (List.mem_cons_self ..), all_cong fun x hx => h x (List.mem_cons_of_mem _ hx)]
theorem isdigit_S {a : List Nat} (h : ∀ c ∈ a, c < 128) : Txt.isdigit (S a) = (decide (a ≠ []) && a.all dig) := by
  unfold Txt.isdigit
  have e1 : decide ((S a).length > 0) = decide (a ≠ []) := by
    rw [S_len, decide_eq_decide]
    cases a <;> simp
  have e2 : (S a).cps.all Unicode.isDigit = a.all dig := by
    show a.toArray.all Unicode.isDigit = _
    rw [List.all_toArray]
    exact all_cong fun c hc => isDigit_dig (h c hc)
  rw [e1, e2]
theorem tw_take : ∀ (l : List Nat) (i : Nat), i < l.length → (l.take (i + 1)).all dig = decide (i < (l.takeWhile dig).length)
  | [], i, h => by simp at h
  | c :: l, 0, _ => by
    by_cases hc : dig c = true
    · simp [hc, List.takeWhile_cons]
    · simp [hc, List.takeWhile_cons]
  | c :: l, i + 1, h => by
    have ih := tw_take l i (by simpa using h)
    rw [List.take_succ_cons, List.all_cons, ih]
    by_cases hc : dig c = true
    · simp [hc, List.takeWhile_cons]
    · simp [hc, List.takeWhile_cons]
theorem tw_get : ∀ (l : List Nat) (i : Nat), i < (l.takeWhile dig).length → (l.takeWhile dig)[i]? = l[i]?
  | [], i, h => by simp at h
  | c :: l, i, h => by
    by_cases hc : dig c = true
    · rw [List.takeWhile_cons, if_pos hc] at h ⊢
      cases i with
      | zero => rfl
      | succ i => exact tw_get l i (by simpa using h)
    · rw [List.takeWhile_cons, if_neg hc] at h
      simp at h
theorem tw_len_le : ∀ l : List Nat, (l.takeWhile dig).length ≤ l.length
  | [] => by simp
  | c :: l => by
    have := tw_len_le l
    rw [List.takeWhile_cons]
    split <;> simp <;> omega
theorem take_tw : ∀ l : List Nat, l.take (l.takeWhile dig).length = l.takeWhile dig
  | [] => by simp
  | c :: l => by
    have ih := take_tw l
    rw [List.takeWhile_cons]
    split
    · rw [List.length_cons, List.take_succ_cons, ih]
    · rfl
theorem drop_tw : ∀ l : List Nat, l.drop (l.takeWhile dig).length = l.dropWhile dig
  | [] => by simp
  | c :: l => by
    have ih := drop_tw l
    rw [List.takeWhile_cons, List.dropWhile_cons]
    split
    · rw [List.length_cons, List.drop_succ_cons, ih]
    · rfl
theorem cut_mid (a : List Nat) : cutS (S a) (some 2) (some 3) = S ((a.drop 2).take 1) := by
  apply TL.ext_tl
  show ((a.drop (HT.sIx (S a).length 0 (some 2))).take (HT.sIx (S a).length (S a).length (some 3) - HT.sIx (S a).length 0 (some 2))) = (a.drop 2).take 1
  have e2 : HT.sIx (S a).length 0 (some 2) = min 2 a.length := by rw [S_len]; exact HT.sIx_nat a.length 0 2
  have e3 : HT.sIx (S a).length (S a).length (some 3) = min 3 a.length := by rw [S_len]; exact HT.sIx_nat a.length a.length 3
  rw [e2, e3]
  by_cases h : 3 ≤ a.length
  · rw [Nat.min_eq_left h, Nat.min_eq_left (by omega)]
  · rw [List.drop_of_length_le (show a.length ≤ 2 by omega), Nat.min_eq_right (show a.length ≤ 2 by omega), List.drop_of_length_le (Nat.le_refl _)]
    simp
section
variable {P : Program} {w : World} {K : PySem.W.Frag} {mg : Str → Option Value} {base : Heap} {A : Ad} {X : Cx}
theorem inV_x (c : List Nat) : inV (.str (S c)) [.str (Str.ofString ""), .str (Str.ofString "x")] = decide (c = [] ∨ c = [120]) := by
  show ((Str.ofString "" == S c) || ((Str.ofString "x" == S c) || false)) = _
  rw [show Str.ofString "" = S [] from rfl, show Str.ofString "x" = S [120] from rfl, S_beq_eq, S_beq_eq, Bool.or_false, Bool.eq_iff_iff]
  simp only [Bool.or_eq_true, decide_eq_true_eq]
  exact ⟨fun h => h.imp Eq.symm Eq.symm, fun h => h.imp Eq.symm Eq.symm⟩
def spTermRead : Sp := fun vs H Q _ => ∃ l, vs = [.str (S l)] ∧ l.length ≤ 100000 ∧ (∀ c ∈ l, c < 128) ∧ ∀ H', Same H H' → optP (termRead l) H' Q
theorem c_law_term_read (T : Txt K mg A) : FnR P w K mg base CX0 1 A._law_term_read spTermRead := by
  refine fnr T.d__law_term_read sc_law_term_read (fun _ _ _ _ _ _ us hl => match us, hl with | [_], _ => rfl) (fun vs H Q E h => by obtain ⟨_, rfl, _⟩ := h; rfl) (fun fd cdv A' outer s H vs Q E hr h => ?_)
  obtain ⟨l, rfl, hl, hasc, q⟩ := h
  refine ⟨_, (pss_cons (ps_set (i := 1) sc_law_term_read.nd rfl (Or.inl rfl) (pe_callB call_len_seq (by rfl) T.f_len (by decide +kernel) (pa_cons (pe_lc (own := [("_law_at", 6), ("_law_sign", 7)]) (g := gTup K 2 (gCons (gName 6) (gCons (gName 7) gNil))) rfl sc_law_term_read.nd (pi_enumS (by rfl) T.f_enumerate (pa_cons (pv 0) pa_nil)) (blkOk_by (own := [("_law_at", 6), ("_law_sign", 7)]) (N := ["_law_text", "_law_cut", "_law_number", "_law_rest", "_law_many", "_law_digits", "_law_at", "_law_sign"]) (sc := defScope s_law_term_read) (by decide +kernel)) (fun _ _ _ _ _ => (pg_tup rfl (pgs_cons (pg_name (i := 6) sc_law_term_read.nd rfl (Or.inl rfl)) (pgs_cons (pg_name (i := 7) sc_law_term_read.nd rfl (Or.inl rfl)) pgs_nil)))) (fun _ _ _ _ _ => (pts_one (pt_val (pe_m0 PySem.F.slot_str_isdigit PySem.F.type_str_isdigit mt_isdigit (pe_slice sl_str (pv 0) po_none (po_some (pe_op op_add (pv 6) pe_int))))))) (fun _ _ _ _ _ => (pv 7))) pa_nil)))
    (pss_cons (ps_par rfl sc_law_term_read.nd (i := 2) (j := 3) rfl rfl (by decide) rfl rfl (pa_cons (pe_slice sl_str (pv 0) po_none (po_some (pv 1))) (pa_cons (pe_slice sl_str (pv 0) (po_some (pv 1)) po_none) pa_nil)) (by rfl))
    (pss_cut (ps_if (PW.pt (pw_or (pt_cmpR op_gt (pe_callB call_len_str (by rfl) T.f_len (by decide +kernel) (pa_cons (pv 2) pa_nil)) pe_int (nomark _)) (pw_or1 (PW.pt (pw_and (pt_cmpR op_eq (pv 2) pe_str (nomark _)) (pw_and1 (pt_cmpR op_eq (pv 3) pe_str (nomark _))))))))
      (pss_one (ps_ret pe_non))
      pss_nil)
    (pss_cut (ps_set (i := 4) sc_law_term_read.nd rfl (Or.inl rfl) (pe_ifExp (pt_cmpR op_eq (pv 2) pe_str (nomark _)) pe_int (pe_callTy call_int_str (by rfl) T.f_int (by decide +kernel) (pa_cons (pv 2) pa_nil))))
    (pss_cons (ps_if (pt_cmpR op_in_seq (pv 3) (pe_tup (pa_cons pe_str (pa_cons pe_str pa_nil))) (by with_unfolding_all rfl))
      (pss_one (ps_ret (pe_tup (pa_cons (pe_callB call_len_str (by rfl) T.f_len (by decide +kernel) (pa_cons (pv 3) pa_nil)) (pa_cons (pv 4) pa_nil)))))
      pss_nil)
    (pss_cut (ps_set (i := 5) sc_law_term_read.nd rfl (Or.inl rfl) (pe_ifExp (pt_cmpR op_eq (pe_slice sl_str (pv 3) (po_some pe_int) (po_some pe_int)) pe_str (nomark _)) (pe_slice sl_str (pv 3) (po_some pe_int) po_none) (pe_slice sl_str (pv 3) (po_some pe_int) po_none)))
    (pss_cons (ps_if (PW.pt (pw_or (pt_cmpR op_ne (pe_slice sl_str (pv 3) po_none (po_some pe_int)) pe_str (nomark _)) (pw_or (pt_not (pt_val (pe_m0 PySem.F.slot_str_isdigit PySem.F.type_str_isdigit mt_isdigit (pv 5)))) (pw_or1 (pt_cmpR op_gt (pe_callB call_len_str (by rfl) T.f_len (by decide +kernel) (pa_cons (pv 5) pa_nil)) pe_int (nomark _))))))
      (pss_one (ps_ret pe_non))
      pss_nil)
    (pss_one (ps_ret (pe_tup (pa_cons (pe_ifExp (pt_cmpR op_eq (pe_slice sl_str (pv 3) (po_some pe_int) (po_some pe_int)) pe_str (nomark _)) (pe_un un_neg (pe_callTy call_int_str (by rfl) T.f_int (by decide +kernel) (pa_cons (pv 5) pa_nil))) (pe_callTy call_int_str (by rfl) T.f_int (by decide +kernel) (pa_cons (pv 5) pa_nil))) (pa_cons (pv 4) pa_nil)))))))))))), ?_⟩
  have hz : (S l).length ≤ sizeLine := by rw [S_len]; exact len_small (by omega)
  refine ⟨_, rfl, S l, rfl, fun D hD => ?_⟩
  refine lc_it walk_enumS (fun i H' => Acc H D (((l.takeWhile dig).take i).map fun c => V.str (S [c])) H') (Acc.start hD) (fun _ _ _ _ => True.intro) ?_ ?_
  · rintro i x H2 H3 hi ac ⟨Tp, c, rfl, hT, rfl, hc⟩
    have hc' : l[i]? = some c := by simpa using hc
    have hil : i < l.length := (List.getElem?_eq_some_iff.mp hc').1
    have a3 := ac.same (same_new (o := .tup [.int (i : Nat), .str ⟨#[c]⟩]) hT)
    have hcut : cutS (S l) none (some ((i : Int) + 1)) = S (l.take (i + 1)) := by
      rw [cut_to (by omega)]
      rfl
    refine ⟨Tp, _, rfl, SqT.of upd_same, rfl, _, _, rfl, _, _, rfl, rfl, rfl, ?_⟩
    refine ⟨_, rfl, _, rfl, _, _, rfl, rfl, _, rfl, _, rfl, hz, ⟨_, rfl⟩, _, rfl, rfl, True.intro, _, rfl, ?_⟩
    rw [hcut, isdigit_S fun x hx => hasc x (List.mem_of_mem_take hx), tw_take l i hil]
    have hne : decide (l.take (i + 1) ≠ []) = true := decide_eq_true (by intro z; have := congrArg List.length z; rw [List.length_take, List.length_nil] at this; omega)
    rw [hne, Bool.true_and]
    refine ite2 (fun h => ?_) (fun h => ?_)
    · have hi2 : i < (l.takeWhile dig).length := of_decide_eq_true h
      have hg : (l.takeWhile dig)[i]? = some c := (tw_get l i hi2).trans hc'
      refine ⟨_, rfl, _, a3.2, ?_, ?_⟩
      · rw [List.length_map, List.length_take]
        exact len_small' (by omega)
      · rw [all_map_take hg]
        exact a3.push hD _
    · have hi2 : (l.takeWhile dig).length ≤ i := by have : ¬ i < (l.takeWhile dig).length := fun z => h (decide_eq_true z); omega
      rw [List.take_of_length_le (by omega)]
      rw [List.take_of_length_le hi2] at a3
      exact a3
  rintro H2 ac
  have s2 := ac.1
  have hD2 := ac.2
  have htwl := tw_len_le l
  rw [show (S l).cps.size = l.length from S_len l, List.take_of_length_le htwl] at hD2
  have ha1 : cutS (S l) none (some ((l.takeWhile dig).length : Int)) = S (l.takeWhile dig) := by rw [cut_to (by omega), Int.toNat_natCast, take_tw]
  have hb1 : cutS (S l) (some ((l.takeWhile dig).length : Int)) none = S (l.dropWhile dig) := by rw [cut_from (by omega), Int.toNat_natCast, drop_tw]
  have hbl : (l.dropWhile dig).length ≤ 100000 := by rw [← drop_tw, List.length_drop]; omega
  have hba : ∀ c ∈ l.dropWhile dig, c < 128 := fun c hc => by rw [← drop_tw] at hc; exact hasc c (List.mem_of_mem_drop hc)
  have had : (l.takeWhile dig).all dig = true := by
    exact List.all_takeWhile
  have etr : ∀ H', Same H H' → optP (termRead l) H' Q := q
  unfold termRead at etr
  generalize hA : l.takeWhile dig = a at *
  generalize hB : l.dropWhile dig = b at *
  have hza : (S a).length ≤ sizeLine := by rw [S_len]; exact len_small (by omega)
  have hzb : (S b).length ≤ sizeLine := by rw [S_len]; exact len_small (by omega)
  refine ⟨D, _, rfl, .inl (SqL.of hD2), ?_⟩
  rw [List.length_map]
  refine ⟨_, rfl, _, rfl, _, rfl, _, rfl, hz, _, rfl, _, rfl, _, rfl, _, rfl, hz, _, _, rfl, ?_⟩
  rw [ha1, hb1]
  have stop : (70 < a.length ∨ (a = [] ∧ b = [])) → Q .non H2 := fun h => by
    have := etr _ s2
    rw [if_pos h] at this
    exact this
  refine ⟨fun σ' H' => σ' = [some (.str (S l)), some (.int (a.length : Nat)), some (.str (S a)), some (.str (S b)), none, none, none, none] ∧ H' = H2 ∧ ¬ 70 < a.length ∧ ¬ (a = [] ∧ b = []), ?_, ?_⟩
  · refine ⟨_, rfl, _, rfl, hza, _, _, rfl, rfl, _, rfl, ite2 (fun h => ?_) (fun h => ?_)⟩
    · have h70 : 70 < a.length := by
        have := of_decide_eq_true h
        rw [S_len] at this
        omega
      exact stop (.inl h70)
    have h70 : ¬ 70 < a.length := by
      intro z
      exact h (decide_eq_true (by rw [S_len]; omega))
    refine ⟨_, rfl, rfl, _, rfl, ite2 (fun h => ?_) (fun h => ?_)⟩
    · have e1 : a = [] := teq_t rfl h
      refine ⟨_, rfl, rfl, _, rfl, ite2 (fun h => ?_) (fun h => ?_)⟩
      · exact stop (.inr ⟨e1, teq_t rfl h⟩)
      · exact ⟨rfl, rfl, h70, fun z => teq_f (b := []) rfl h z.2⟩
    · exact ⟨rfl, rfl, h70, fun z => teq_f (b := []) rfl h z.1⟩
  rintro σ' H' ⟨rfl, rfl, h70, hn⟩
  have go : ∀ H'', Same H H'' → optP (if b = [] ∨ b = [120] then some (((b.length : Nat) : Int), if a = [] then 1 else ((dv a : Nat) : Int))
      else if b.take 2 ≠ [120, 94] ∨ ¬ ((if (b.drop 2).take 1 = [45] then b.drop 3 else b.drop 2) ≠ [] ∧ (if (b.drop 2).take 1 = [45] then b.drop 3 else b.drop 2).all dig = true) ∨ 6 < (if (b.drop 2).take 1 = [45] then b.drop 3 else b.drop 2).length then none
      else some (if (b.drop 2).take 1 = [45] then -((dv (b.drop 3) : Nat) : Int) else ((dv (b.drop 2) : Nat) : Int), if a = [] then 1 else ((dv a : Nat) : Int))) H'' Q := fun H'' s' => by
    have := etr H'' s'
    rw [if_neg (by rintro (z | z); exact h70 z; exact hn z)] at this
    exact this
  clear etr stop
  obtain ⟨m, hm⟩ : ∃ m : Int, m = if a = [] then 1 else ((dv a : Nat) : Int) := ⟨_, rfl⟩
  rw [← hm] at go
  refine ⟨fun σ' H2 => σ' = [some (.str (S l)), some (.int (a.length : Nat)), some (.str (S a)), some (.str (S b)), some (.int m), none, none, none] ∧ H2 = H', ?_, ?_⟩
  · refine ⟨_, rfl, rfl, _, rfl, ite2 (fun h => ?_) (fun h => ?_)⟩
    · rw [if_pos (teq_t (b := []) rfl h)] at hm
      subst hm
      exact ⟨rfl, rfl⟩
    · have ea : a ≠ [] := teq_f rfl h
      rw [if_neg ea] at hm
      subst hm
      exact ⟨_, rfl, _, _, rfl, int_S had ea (by omega), by rw [S_len]; omega, rfl, rfl⟩
  rintro σ' H2 ⟨rfl, rfl⟩
  refine ⟨_, rfl, by show 2 ≤ sizeLine; decide, fun tp htp => ?_⟩
  have s3 := s2.trans (same_new (o := .tup [V.str (Str.ofString ""), V.str (Str.ofString "x")]) htp)
  have hin := inV_x b
  refine ⟨tp, _, rfl, .inr (SqT.of upd_same), rfl, rfl, _, rfl, ?_⟩
  generalize upd H2 tp (.tup [V.str (Str.ofString ""), V.str (Str.ofString "x")]) = H3 at s3
  refine ite2 (fun h => ?_) (fun h => ?_)
  · have hb : b = [] ∨ b = [120] := by
      have h' : inV (.str (S b)) [.str (Str.ofString ""), .str (Str.ofString "x")] = true := h
      rw [hin] at h'
      exact of_decide_eq_true h'
    have := go _ s3
    rw [if_pos hb] at this
    refine ⟨_, rfl, _, rfl, hzb, _, rfl, by show 2 ≤ sizeLine; decide, fun t ht => ?_⟩
    have := this t ht
    rw [S_len]
    exact this
  have hb : ¬ (b = [] ∨ b = [120]) := by
    intro z
    have h' : ¬ inV (.str (S b)) [.str (Str.ofString ""), .str (Str.ofString "x")] = true := h
    rw [hin] at h'
    exact h' (decide_eq_true z)
  rw [if_neg hb] at go
  have c23 := cut_mid b
  have c3 : cutS (S b) (some 3) none = S (b.drop 3) := cut_from (by decide)
  have c2 : cutS (S b) (some 2) none = S (b.drop 2) := cut_from (by decide)
  have t2 : cutS (S b) none (some 2) = S (b.take 2) := cut_to (by decide)
  obtain ⟨dg, hdg⟩ : ∃ dg, dg = if (b.drop 2).take 1 = [45] then b.drop 3 else b.drop 2 := ⟨_, rfl⟩
  have hres : (if (b.drop 2).take 1 = [45] then -((dv (b.drop 3) : Nat) : Int) else ((dv (b.drop 2) : Nat) : Int)) = if (b.drop 2).take 1 = [45] then -((dv dg : Nat) : Int) else ((dv dg : Nat) : Int) := by
    by_cases z : (b.drop 2).take 1 = [45]
    · rw [if_pos z] at hdg
      rw [if_pos z, if_pos z, hdg]
    · rw [if_neg z] at hdg
      rw [if_neg z, if_neg z, hdg]
  rw [← hdg, hres] at go
  have dgl : dg.length ≤ 100000 := by
    rw [hdg]
    split <;> rw [List.length_drop] <;> omega
  have dga : ∀ c ∈ dg, c < 128 := fun c hc => by
    rw [hdg] at hc
    split at hc
    · exact hba c (List.mem_of_mem_drop hc)
    · exact hba c (List.mem_of_mem_drop hc)
  have hzd : (S dg).length ≤ sizeLine := by rw [S_len]; exact len_small (by omega)
  refine ⟨fun σ' H2 => σ' = [some (.str (S l)), some (.int (a.length : Nat)), some (.str (S a)), some (.str (S b)), some (.int m), some (.str (S dg)), none, none] ∧ H2 = H3, ?_, ?_⟩
  · refine ⟨_, rfl, _, rfl, _, rfl, _, rfl, hzb, rfl, _, rfl, ?_⟩
    rw [c23]
    refine ite2 (fun h => ?_) (fun h => ?_)
    · rw [if_pos (teq_t (b := [45]) rfl h)] at hdg
      refine ⟨_, rfl, _, rfl, _, rfl, hzb, ?_⟩
      rw [c3, ← hdg]
      exact ⟨rfl, rfl⟩
    · rw [if_neg (teq_f (b := [45]) rfl h)] at hdg
      refine ⟨_, rfl, _, rfl, _, rfl, hzb, ?_⟩
      rw [c2, ← hdg]
      exact ⟨rfl, rfl⟩
  rintro σ' H4 ⟨rfl, rfl⟩
  have stop : (b.take 2 ≠ [120, 94] ∨ ¬ (dg ≠ [] ∧ dg.all dig = true) ∨ 6 < dg.length) → Q .non H4 := fun z => by
    have := go _ s3
    rw [if_pos z] at this
    exact this
  have hdig := isdigit_S dga
  refine ⟨_, rfl, _, rfl, _, rfl, hzb, ?_⟩
  rw [t2]
  refine ⟨rfl, _, rfl, ite2 (fun h => stop (.inl (tne_t (b := [120, 94]) rfl h))) (fun h1 => ?_)⟩
  have k1 : b.take 2 = [120, 94] := tne_f (b := [120, 94]) rfl h1
  refine ⟨_, rfl, ⟨_, rfl⟩, _, rfl, rfl, True.intro, _, rfl, ?_⟩
  rw [hdig]
  refine ite2 (fun h => stop (.inr (.inl fun z => ?_))) (fun h2 => ?_)
  · rw [decide_eq_true z.1, z.2] at h
    cases h
  have k2 : dg ≠ [] ∧ dg.all dig = true := by simpa using h2
  refine ⟨_, rfl, _, rfl, hzd, _, _, rfl, rfl, _, rfl, ite2 (fun h => stop (.inr (.inr ?_))) (fun h3 => ?_)⟩
  · have := of_decide_eq_true h
    rw [S_len] at this
    omega
  have k3 : ¬ 6 < dg.length := fun z => h3 (decide_eq_true (by rw [S_len]; omega))
  have fin := go _ s3
  rw [if_neg (by rintro (z | z | z); exact z k1; exact z k2; exact k3 z)] at fin
  have hi : intText? (S dg) = some ((dv dg : Nat) : Int) := int_S k2.2 k2.1 (by omega)
  have h640 : (S dg).length ≤ 640 := by rw [S_len]; omega
  refine ⟨_, rfl, _, rfl, _, rfl, _, rfl, hzb, rfl, _, rfl, ?_⟩
  rw [c23]
  refine ite2 (fun h => ?_) (fun h => ?_)
  · rw [if_pos (teq_t (b := [45]) rfl h)] at fin
    exact ⟨_, rfl, _, _, rfl, hi, h640, _, rfl, _, rfl, by show 2 ≤ sizeLine; decide, fin⟩
  · rw [if_neg (teq_f (b := [45]) rfl h)] at fin
    exact ⟨_, rfl, _, _, rfl, hi, h640, _, rfl, by show 2 ≤ sizeLine; decide, fin⟩
end
end Wb

/-! _law_text_read. -/
namespace Wb
open PySem PySem.Spec PyProof.Rows L2 SX TL
open C8 (pe_gc pss_cut tCut)
theorem words_sub {t w : List Nat} (h : w ∈ words t) : ∀ c ∈ w, c ∈ t := by
  suffices ∀ (l : List Nat) (k : Nat) (acc : List Nat), ∀ w ∈ TL.spl [32] k acc l, ∀ c ∈ w, c ∈ acc ∨ c ∈ l from fun c hc => (this t 0 [] w h c hc).resolve_left (by simp)
  intro l
  induction l with
  | nil => intro k acc w hw c hc; rw [TL.spl_nil] at hw; simp at hw; rw [hw] at hc; exact .inl hc
  | cons x r ih =>
    intro k acc w hw c hc
    cases k with
    | zero =>
      by_cases hx : TL.pre [32] (x :: r) = true
      · rw [TL.spl_hit hx] at hw
        rcases List.mem_cons.mp hw with e | hw
        · rw [e] at hc; exact .inl hc
        · rcases ih _ _ w hw c hc with h | h
          · simp at h
          · exact .inr (List.mem_cons_of_mem _ h)
      · rw [TL.spl_miss (by simpa using hx)] at hw
        rcases ih _ _ w hw c hc with h | h
        · rcases List.mem_append.mp h with h | h
          · exact .inl h
          · rw [List.mem_singleton.mp h]; exact .inr (List.mem_cons_self ..)
        · exact .inr (List.mem_cons_of_mem _ h)
    | succ k =>
      rcases ih k acc w hw c hc with h | h
      · exact .inl h
      · exact .inr (List.mem_cons_of_mem _ h)
section
variable {P : Program} {w : World} {K : PySem.W.Frag} {mg : Str → Option Value} {base : Heap} {A : Ad} {X : Cx}
def badB (p : Int × Int) : Bool := decide (10000 < p.1.natAbs) || decide (10 ^ 60 ≤ p.2.natAbs)
def spTextRead : Sp := fun vs H Q _ => ∃ t, vs = [.str (S t)] ∧ t.length ≤ 100000 ∧ (∀ c ∈ t, c < 128) ∧ (words t).length ≤ 60 ∧ ∀ H', Same H H' → (readAll t = none → Q .non H') ∧ ∀ d r, readAll t = some d → Srt d r →
  ((r.all fun p => !badB p) = true → rend r = t → ∀ p, H p = none → H' p = some (.dK (kvI r)) → Q (.ref p) H') ∧ (((r.all fun p => !badB p) = false ∨ rend r ≠ t) → Q .non H')
theorem ints_dp {K : PySem.W.Frag} {H : Hp} : ∀ ns : List Int, DpAll K H (ns.map V.int) (ns.map PyData.int)
  | [] => .nil
  | n :: ns => .cons (.int n) (ints_dp ns)
theorem nil_eqv (ds : List PyData) : PyData.eqv (.list ds) (.list []) = ds.isEmpty := by cases ds <;> simp [PyData.eqv, PyData.eqvAll]
theorem c_law_text_read (T : Txt K mg A) : FnR P w K mg base CX0 2 A._law_text_read spTextRead := by
  refine fnr T.d__law_text_read sc_law_text_read (fun _ _ _ _ _ _ us hl => match us, hl with | [_], _ => rfl) (fun vs H Q E h => by obtain ⟨_, rfl, _⟩ := h; rfl) (fun fd cdv A' outer s H vs Q E hr h => ?_)
  obtain ⟨t, rfl, hl, hasc, hwn, q⟩ := h
  have hu := hu_of hr
  refine ⟨_, (pss_cons (ps_par rfl sc_law_text_read.nd (i := 1) (j := 2) rfl rfl (by decide) rfl rfl (pa_cons (pe_split (pv 0) pe_str) (pa_cons pe_dnewK pa_nil)) (by rfl))
    (pss_cut (ps_set (i := 3) sc_law_text_read.nd rfl (Or.inl rfl) (pe_ifExp (pt_cmpR op_eq (pe_slice sl_str (pe_ix ix_list (pv 1) pe_int (fun _ _ => rfl)) po_none (po_some pe_int)) pe_str (nomark _)) (pe_un un_neg pe_int) pe_int))
    (pss_cons (ps_for PassesOwn.never rfl (pi_enum (by rfl) T.f_enumerate (pa_cons (pv 1) pa_nil)) (pg_tup rfl (pgs_cons (pg_name (i := 4) sc_law_text_read.nd rfl (Or.inl rfl)) (pgs_cons (pg_name (i := 5) sc_law_text_read.nd rfl (Or.inl rfl)) pgs_nil)))
      (pss_cons (ps_if (pt_cmpR op_eq (pe_op op_mod (pv 4) pe_int) pe_int (nomark _))
          (pss_cons (ps_set (i := 3) sc_law_text_read.nd rfl (Or.inl rfl) (pe_ifExp (pt_cmpR op_eq (pv 5) pe_str (nomark _)) pe_int (pe_un un_neg pe_int)))
            (pss_one ps_continue))
          pss_nil)
        (pss_cut (ps_set (i := 6) sc_law_text_read.nd rfl (Or.inl rfl) (pe_f (c_law_term_read T) hr (by decide) (by rfl) T.g__law_term_read T.k__law_term_read (pa_cons (pe_ifExp (PW.pt (pw_and (pt_cmpR op_eq (pv 4) pe_int (nomark _)) (pw_and1 (pt_cmpR op_eq (pe_slice sl_str (pv 5) po_none (po_some pe_int)) pe_str (nomark _))))) (pe_slice sl_str (pv 5) (po_some pe_int) po_none) (pv 5)) pa_nil)))
        (pss_cons (ps_if (pt_cmpR op_isN (pv 6) pe_non (nomark _))
          (pss_one (ps_ret pe_non))
          pss_nil)
        (pss_one (ps_dput hu (pv 2) (pe_ix ix_tup (pv 6) pe_int (fun _ _ => rfl)) (pe_op op_mul (pv 3) (pe_ix ix_tup (pv 6) pe_int (fun _ _ => rfl))) rfl))))))
    (pss_cons (ps_set (i := 7) sc_law_text_read.nd rfl (Or.inr rfl) (pe_f (c_law_row T) hr (by decide) (by rfl) T.g__law_row T.k__law_row (pa_cons (pv 2) pa_nil)))
    (pss_cons (ps_lock (ps_setLc (i := 8) (own := [("_law_one", 9)]) rfl sc_law_text_read.nd rfl rfl (sw_true rfl rfl rfl (by decide +kernel)) (pi_keys (pv 7)) (blkOk_by (own := [("_law_one", 9)]) (N := ["_law_text", "_law_words", "_law_found", "_law_sign", "_law_at", "_law_word", "_law_term", "_law_terms", "_law_great", "_law_one"]) (sc := defScope s_law_text_read) (by decide +kernel)) (fun _ _ _ _ _ => (pg_name (i := 9) sc_law_text_read.nd rfl (Or.inl rfl))) (fun _ _ _ _ _ => (pts_one (PW.pt (pw_or (pt_cmpR op_gt (pe_callB call_abs (by rfl) T.f_abs (by decide +kernel) (pa_cons (pv 9) pa_nil)) pe_int (nomark _)) (pw_or1 (pt_cmpR op_ge (pe_callB call_abs (by rfl) T.f_abs (by decide +kernel) (pa_cons (pe_dget hu (pv 7) (pv 9) (fun _ _ => rfl)) pa_nil)) (pe_op op_pow pe_int pe_int) (nomark _))))))) (fun _ _ _ _ _ => (pv 9))))
    (pss_one (ps_ret (pe_ifExp (PW.pt (pw_or (pt_cmpR (op_neD hr.units) (pv 8) (pe_lst pa_nil) (nomark _)) (pw_or1 (pt_cmpR op_ne (pe_f (c_law_row_text T) hr (by decide) (by rfl) T.g__law_row_text T.k__law_row_text (pa_cons (pv 7) pa_nil)) (pv 0) (nomark _))))) pe_non (pv 7))))))))), ?_⟩
  have hz : (S t).length ≤ sizeLine := by rw [S_len]; exact len_small (by omega)
  have hsp : Txt.split (S t) (Str.ofString " ") = (words t).map S := split_S (b := [32]) (by simp) (by decide)
  obtain ⟨w0, wr, ew⟩ := words_ne t
  have hwm : ∀ w ∈ words t, w.length ≤ 100000 ∧ ∀ c ∈ w, c < 128 := fun w hw => ⟨Nat.le_trans (words_mem hw) hl, fun c hc => hasc c (words_sub hw c hc)⟩
  refine ⟨_, rfl, ⟨_, rfl⟩, S t, _, rfl, rfl, by decide, by rw [S_len]; exact len_small (by omega), fun pw hpw => ?_⟩
  rw [hsp]
  have hWt : (upd H pw (.lst (((words t).map S).map V.str))) pw = some (.lst ((words t).map fun w => V.str (S w))) := by rw [upd_same, List.map_map]; rfl
  have s1 : Same H (upd H pw (.lst (((words t).map S).map V.str))) := same_new hpw
  generalize upd H pw (.lst (((words t).map S).map V.str)) = H1 at hWt s1
  intro pf hpf
  have hpf0 : H pf = none := s1.free hpf
  refine ⟨_, _, rfl, ?_⟩
  have hat : atI ((words t).map fun w => V.str (S w)) 0 = some (.str (S w0)) := atI_nat (j := 0) (by rw [ew]; rfl)
  have hw0 := hwm w0 (by rw [ew]; exact List.mem_cons_self ..)
  have hzw : (S w0).length ≤ sizeLine := by rw [S_len]; exact len_small (by omega)
  have ht1 : cutS (S w0) none (some 1) = S (w0.take 1) := cut_to (by decide)
  have s2 : Same H1 (upd H1 pf (.dK [])) := same_new hpf
  have hf0 : (upd H1 pf (.dK [])) pf = some (.dK (kvI [])) := upd_same
  generalize upd H1 pf (.dK []) = H2 at s2 hf0
  have hW2 := s2 _ _ hWt
  refine ⟨fun σ' H' => σ' = [some (.str (S t)), some (.ref pw), some (.ref pf), some (.int (if w0.take 1 = [45] then -1 else 1)), none, none, none, none, none, none] ∧ H' = H2, ?_, ?_⟩
  · refine ⟨_, rfl, pw, _, 0, _, rfl, rfl, SqL.of hW2, hat, 1, rfl, _, rfl, hzw, rfl, _, rfl, ?_⟩
    rw [ht1]
    refine ite2 (fun h => ?_) (fun h => ?_)
    · rw [if_pos (teq_t (b := [45]) rfl h)]
      exact ⟨1, rfl, rfl, rfl⟩
    · rw [if_neg (teq_f (b := [45]) rfl h)]
      exact ⟨rfl, rfl⟩
  rintro σ' H' ⟨rfl, rfl⟩
  refine ⟨_, rfl, pw, _, rfl, SqL.of hW2, ?_⟩
  refine for_it (walk_enum (xs := (words t).map fun w => V.str (S w))) (fun i σ H3 => ∃ x4 x5 x6 sg d, σ = [some (.str (S t)), some (.ref pw), some (.ref pf), some (.int sg), x4, x5, x6, none, none, none] ∧ Same H1 H3 ∧ H3 pf = some (.dK (kvI d)) ∧ readFrom i sg d ((words t).drop i) = readAll t ∧ NdK d ∧ d.length ≤ i ∧ (sg = 1 ∨ sg = -1))
    ⟨none, none, none, _, [], rfl, s2, hf0, ?_, List.nodup_nil, Nat.le_refl _, ?_⟩ (fun i σ H3 _ ⟨_, _, _, _, _, _, s3, _⟩ => SqL.of (s3 _ _ hWt)) ?_ ?_
  · unfold readAll
    rw [ew]
    rfl
  · split
    · exact .inr rfl
    · exact .inl rfl
  · rintro i x σ H3 H4 hi ⟨x4, x5, x6, sg, d, rfl, s3, hf, hrd, hnd, hdl, hsg⟩ ⟨Tp, x, y, rfl, hT, rfl, hx, hy⟩
    rw [List.length_map] at hi
    have hy : ((words t).map fun w => V.str (S w))[i]? = some y := hy
    rw [List.getElem?_map] at hy
    obtain ⟨wd, hwd, rfl⟩ := Option.map_eq_some_iff.mp hy
    cases hx
    obtain ⟨hwl, hwa⟩ := hwm wd (List.mem_of_getElem? hwd)
    have hzd : (S wd).length ≤ sizeLine := by rw [S_len]; exact len_small (by omega)
    have edr : (words t).drop i = wd :: (words t).drop (i + 1) := by
      rw [List.drop_eq_getElem_cons hi, (List.getElem?_eq_some_iff.mp hwd).2]
    rw [edr] at hrd
    have s4 := s3.trans (same_new (o := .tup [V.int (i : Nat), V.str (S wd)]) hT)
    have hf4 : (upd H3 Tp (.tup [V.int (i : Nat), V.str (S wd)])) pf = some (.dK (kvI d)) := by rw [upd_ne (ne_of_none hf hT)]; exact hf
    refine ⟨Tp, _, rfl, SqT.of upd_same, rfl, _, _, rfl, _, _, rfl, rfl, ?_⟩
    generalize upd H3 Tp (.tup [V.int (i : Nat), V.str (S wd)]) = H4 at s4 hf4
    refine ⟨_, rfl, _, _, rfl, rfl, by show (0 : Int) < 2; decide, rfl, _, rfl, ite2 (fun h => ?_) (fun h => ?_)⟩
    · have hi1 : i % 2 = 1 := by
        have := of_decide_eq_true h
        injection this with this
        omega
      have hrd' : readFrom (i + 1) (if wd = [43] then 1 else -1) d ((words t).drop (i + 1)) = readAll t := by
        rw [← hrd]
        show _ = (if i % 2 = 1 then _ else _)
        rw [if_pos hi1]
      refine ⟨_, rfl, rfl, _, rfl, ite2 (fun h => ?_) (fun h => ?_)⟩
      · rw [if_pos (teq_t (b := [43]) rfl h)] at hrd'
        exact ⟨_, _, _, 1, d, rfl, s4, hf4, hrd', hnd, by omega, .inl rfl⟩
      · rw [if_neg (teq_f (b := [43]) rfl h)] at hrd'
        exact ⟨1, rfl, _, _, _, -1, d, rfl, s4, hf4, hrd', hnd, by omega, .inr rfl⟩
    have hi0 : ¬ i % 2 = 1 := fun z => h (decide_eq_true (congrArg V.int (show ((i : Nat) : Int) % 2 = 1 by omega)))
    have hrd' : (match termRead (wordOf i wd) with | none => none | some q => readFrom (i + 1) sg (putI d q.1 (sg * q.2)) ((words t).drop (i + 1))) = readAll t := by
      rw [← hrd]
      show _ = (if i % 2 = 1 then _ else _)
      rw [if_neg hi0]
      all_goals (cases termRead (wordOf i wd) <;> rfl)
    have hw1 : (wordOf i wd).length ≤ 100000 ∧ ∀ c ∈ wordOf i wd, c < 128 := by
      unfold wordOf
      split
      · exact ⟨by rw [List.length_drop]; omega, fun c hc => hwa c (List.mem_of_mem_drop hc)⟩
      · exact ⟨hwl, hwa⟩
    have ht2 : cutS (S wd) none (some 1) = S (wd.take 1) := cut_to (by decide)
    have hd2 : cutS (S wd) (some 1) none = S (wd.drop 1) := cut_from (by decide)
    refine ⟨fun σ' H' => ∃ v, σ' = [some (.str (S t)), some (.ref pw), some (.ref pf), some (.int sg), some (.int (i : Nat)), some (.str (S wd)), some v, none, none, none] ∧ Same H4 H' ∧ ((termRead (wordOf i wd) = none ∧ v = .non) ∨ ∃ q tq, termRead (wordOf i wd) = some q ∧ v = .ref tq ∧ H' tq = some (.tup [.int q.1, .int q.2])), ?_, ?_⟩
    · have mid : ∀ u : List Nat, u = wordOf i wd → spTermRead [.str (S u)] H4 (fun v H' => ∃ v', [some (.str (S t)), some (.ref pw), some (.ref pf), some (.int sg), some (.int (i : Nat)), some (.str (S wd)), some v, none, none, none] = [some (.str (S t)), some (.ref pw), some (.ref pf), some (.int sg), some (.int (i : Nat)), some (.str (S wd)), some v', none, none, none] ∧ Same H4 H' ∧ ((termRead (wordOf i wd) = none ∧ v' = .non) ∨ ∃ q tq, termRead (wordOf i wd) = some q ∧ v' = .ref tq ∧ H' tq = some (.tup [.int q.1, .int q.2]))) E0 := fun u eu => by
        subst eu
        refine ⟨_, rfl, hw1.1, hw1.2, fun H' s' => ?_⟩
        cases e : termRead (wordOf i wd) with
        | none => exact ⟨_, rfl, s', .inl ⟨rfl, rfl⟩⟩
        | some q => exact fun tq htq => ⟨_, rfl, s'.trans (same_new htq), .inr ⟨q, tq, rfl, rfl, upd_same⟩⟩
      refine ⟨_, rfl, rfl, _, rfl, ite2 (fun h => ?_) (fun h => ?_)⟩
      · have e0 : i = 0 := by
          have := of_decide_eq_true h
          injection this with this
          omega
        refine ⟨_, rfl, 1, rfl, _, rfl, hzd, rfl, _, rfl, ?_⟩
        rw [ht2]
        refine ite2 (fun h => ?_) (fun h => ?_)
        · refine ⟨_, rfl, 1, rfl, _, rfl, hzd, ?_⟩
          rw [hd2]
          exact mid _ (by unfold wordOf; rw [if_pos ⟨e0, teq_t (b := [45]) rfl h⟩])
        · exact ⟨_, rfl, mid _ (by unfold wordOf; rw [if_neg fun z => teq_f (b := [45]) rfl h z.2])⟩
      · have e0 : i ≠ 0 := fun z => h (decide_eq_true (congrArg V.int (show ((i : Nat) : Int) = 0 by omega)))
        exact ⟨_, rfl, mid _ (by unfold wordOf; rw [if_neg fun z => e0 z.1])⟩
    rintro σ' H5 ⟨v, rfl, s5, hv⟩
    have s45 := s4.trans s5
    rcases hv with ⟨e, rfl⟩ | ⟨qv, tq, e, rfl, htq⟩
    · rw [e] at hrd'
      exact ⟨_, rfl, rfl, _, rfl, iteT ((q _ (s1.trans s45)).1 hrd'.symm)⟩
    · rw [e] at hrd'
      refine ⟨_, rfl, rfl, _, rfl, iteF ?_⟩
      have hf5 := s5 _ _ hf4
      refine ⟨_, rfl, _, rfl, tq, _, 1, _, rfl, rfl, SqT.of htq, rfl, sg, qv.2, rfl, rfl, .inl (by rcases hsg with z | z <;> rw [z] <;> decide), ?_⟩
      refine ⟨_, rfl, _, rfl, tq, _, 0, _, rfl, rfl, SqT.of htq, rfl, pf, _, rfl, DPut.k (k := Sum.inl qv.1) hf5 (by rw [kvI_len]; exact len_small' (by omega)), ?_⟩
      refine ⟨_, _, _, sg, putI d qv.1 (sg * qv.2), rfl, fun b o hb => ?_, by rw [upd_same, putK_kvI], hrd', putI_nd hnd _ _, by have := putI_len d qv.1 (sg * qv.2); omega, hsg⟩
      rw [upd_ne (ne_of_none hb hpf)]
      exact s45 _ _ hb
  · rintro σ H3 ⟨x4, x5, x6, sg, d, rfl, s3, hf, hrd, hnd, hdl, hsg⟩
    rw [List.length_map] at hdl hrd
    rw [List.drop_of_length_le (Nat.le_refl _)] at hrd
    have hread : readAll t = some d := hrd.symm
    refine ⟨_, rfl, pf, d, rfl, hf, hnd, by omega, fun r H4 pr hsr hpr s4 hd4 => ?_⟩
    have s14 := s1.trans (s3.trans s4)
    have hpr0 : H pr = none := (s1.trans s3).free hpr
    have hrl := hsr.len
    have hrn := asc_nd hsr.asc
    refine ⟨pr, _, hd4, by trivial, fun od => ⟨_, rfl, pr, od, rfl, .inl ⟨_, upd_same, fun D hD => ?_⟩⟩⟩
    have nDr : D ≠ pr := fun z => by rw [z, upd_same] at hD; cases hD
    refine lc_it walk_keysI (fun i H' => Acc (upd H4 pr (.frz od (.dK (kvI r)))) D (((r.take i).filter badB).map fun p => V.int p.1) H') (Acc.start hD) (fun i H' _ a => a.1 _ _ upd_same) ?_ ?_
    · rintro i x H5 H6 hi ac ⟨rfl, p, hp, rfl⟩
      have hpm := List.mem_of_getElem? hp
      have etk : r.take (i + 1) = r.take i ++ [p] := by
        rw [List.take_succ_eq_append_getElem hi, (List.getElem?_eq_some_iff.mp hp).2]
      have hg : DGet H6 pr (.int p.1) (some (.int p.2)) := .inl ⟨_, Sum.inl p.1, .inr ⟨od, ac.1 _ _ upd_same⟩, rfl, by rw [valV_kvI, valI_mem hrn (show (p.1, p.2) ∈ r from hpm)]; rfl⟩
      have hlen : (((r.take i).filter badB).map fun p => V.int p.1).length < sizeLine := by
        rw [List.length_map]
        have := List.length_filter_le badB (r.take i)
        rw [List.length_take] at this
        exact len_small' (by omega)
      have yes : badB p = true → ∃ acc, H6 D = some (.lst acc) ∧ acc.length < sizeLine ∧ Acc (upd H4 pr (.frz od (.dK (kvI r)))) D (((r.take (i + 1)).filter badB).map fun p => V.int p.1) (upd H6 D (.lst (acc ++ [.int p.1]))) := fun hb => by
        refine ⟨_, ac.2, hlen, ?_⟩
        rw [etk, List.filter_append, List.map_append, List.filter_cons, if_pos hb]
        exact ac.push hD _
      have no : badB p = false → Acc (upd H4 pr (.frz od (.dK (kvI r)))) D (((r.take (i + 1)).filter badB).map fun p => V.int p.1) H6 := fun hb => by
        rw [etk, List.filter_append, List.filter_cons, if_neg (by rw [hb]; decide), List.filter_nil, List.append_nil]
        exact ac
      refine ⟨rfl, ?_⟩
      refine ⟨_, rfl, _, rfl, _, _, rfl, rfl, _, rfl, ?_⟩
      rw [absE]
      refine ite2 (fun h => ?_) (fun h => ?_)
      · have h1 : 10000 < p.1.natAbs := by have := of_decide_eq_true h; omega
        exact ⟨_, rfl, yes (by unfold badB; rw [decide_eq_true h1]; rfl)⟩
      · have h1 : ¬ 10000 < p.1.natAbs := fun z => h (decide_eq_true (by omega))
        refine ⟨_, rfl, _, rfl, pr, _, rfl, hg, p.2, rfl, _, _, rfl, rfl, ⟨by decide, by decide, by decide⟩, _, _, rfl, rfl, _, rfl, ?_⟩
        rw [absE]
        refine ite2 (fun h => ?_) (fun h => ?_)
        · have h2 : 10 ^ 60 ≤ p.2.natAbs := by
            have := of_decide_eq_true h
            have : (10 : Int) ^ 60 ≤ (p.2.natAbs : Int) := this
            omega
          exact ⟨_, rfl, yes (by unfold badB; rw [decide_eq_true h2, Bool.or_true])⟩
        · have h2 : ¬ 10 ^ 60 ≤ p.2.natAbs := fun z => h (decide_eq_true (show (10 : Int) ^ 60 ≤ (p.2.natAbs : Int) by omega))
          exact no (by unfold badB; rw [decide_eq_false h1, decide_eq_false h2]; rfl)
    · rintro H5 ac
      obtain ⟨h1, h2⟩ := lock_same hd4 ac.1
      refine ⟨h1, ?_⟩
      have hD2 : (upd H5 pr (.dK (kvI r))) D = some (.lst ((r.filter badB).map fun p => V.int p.1)) := by
        rw [upd_ne nDr, ac.2, List.take_length]
      have hr5 : (upd H5 pr (.dK (kvI r))) pr = some (.dK (kvI r)) := upd_same
      generalize upd H5 pr (.dK (kvI r)) = H6 at h2 hD2 hr5
      have s6 := s14.trans h2
      have hall : (r.all fun p => !badB p) = (r.filter badB).isEmpty := by
        rw [Bool.eq_iff_iff, List.all_eq_true, List.isEmpty_iff, List.filter_eq_nil_iff]
        simp
      refine ⟨_, rfl, Nat.zero_le _, fun l hl => ?_⟩
      have s7 := s6.trans (same_new (o := .lst []) hl)
      have hr7 := same_new (o := .lst []) hl _ _ hr5
      refine ⟨.list (((r.filter badB).map (·.1)).map PyData.int), .list [], .lst (SqL.of (same_new hl _ _ hD2)) ?_, .lst (SqL.of upd_same) .nil, PySem.W.ke_shaped_ints _, by decide +kernel, _, rfl, ?_⟩
      · have := ints_dp (K := K) (H := upd H6 l (.lst [])) ((r.filter badB).map (·.1))
        rw [List.map_map] at this
        exact this
      rw [nil_eqv, List.isEmpty_map, List.isEmpty_map, ← hall]
      generalize upd H6 l (.lst []) = H7 at s7 hr7
      have q7 := fun H8 (s8 : Same H7 H8) => (q _ (s7.trans s8)).2 d r hread hsr
      cases hok : r.all fun p => !badB p with
      | false => exact iteT (iteT ((q7 _ (Same.refl _)).2 (.inl hok)))
      | true =>
        have hbd : Bd r := by
          refine ⟨fun p hp => ?_, fun p hp => ?_⟩
          · have := List.all_eq_true.mp hok p hp
            unfold badB at this
            simp at this
            omega
          · have := List.all_eq_true.mp hok p hp
            unfold badB at this
            simp at this
            omega
        refine iteF ⟨_, rfl, pr, r, rfl, hr7, hrn, hbd, by omega, fun H8 s8 => ?_⟩
        refine ⟨_, rfl, rfl, _, rfl, ite2 (fun h => ?_) (fun h => ?_)⟩
        · have hne : rend r ≠ t := by
            have : S (rend r) ≠ S t := by simpa using h
            exact fun z => this (by rw [z])
          exact (q7 _ s8).2 (.inr hne)
        · have heq : rend r = t := by
            have : S (rend r) = S t := by simpa using h
            exact S_inj this
          exact ⟨_, rfl, (q7 _ s8).1 hok heq pr hpr0 (s8 _ _ hr7)⟩
end
end Wb

/-! ParseError: its __init__ calls super().__init__(..) over a class of the program's own and stores a field. -/
namespace Wb
open PySem PySem.W PySem.Calls PyProof.Rows PySem.HandSPX
abbrev s_prs : Stmt := L2.inClass (top 8) 0
/-- what the written part says of ParseError -/
structure PrsTxt (P : Program) (K : Frag) (mg : Str → Option Value) (C fI : Addr) : Prop where
  gC : mg "ParseError" = some (.ref C)
  sup : mg "super" = none
  cls : ∃ nm q N bs bm sn sub ab col dd k0 k1 k2 k3 k5, K.lookup C = some (excClassObj nm q C N bs bm true sn sub ab col dd k0 k1 k2 k3 k5 "ValueError.__new__") ∧ refsVE bm = true
  sa : findIn K (.ref C) "__setattr__" = some (some (.builtin "object.__setattr__"))
  ga : findIn K (.ref C) "__getattribute__" = some (some (.builtin "BaseException.__getattribute__"))
  gg : findIn K (.ref C) "__getattr__" = some none
  noN : findIn K (.ref C) "number" = some none
  iC : findIn K (.ref C) "__init__" = some (some (.ref fI))
  tC : typeIn K (.ref fI) = some (.type "function")
  kC : keepIn K (.ref C) = true
  exC : subIn K (.ref C) (.type "BaseException") = some true
  tyC : typeIn K (.ref C) = some (.type "type")
  hdC : hasDictIn K C = true
  te : exmOne K (.ref C) (.ref C) = some true
  alo : ks_superIn K C C "__init__" = some (some (.builtin "ValueError.__init__"))
  sVE : subIn K (.ref C) (.type "ValueError") = some true
  own : mroIn K C (.ref C) = some true
  opq : nsIn K cStatics "thirdparty.any" = some none
  fn : ∃ (oc : Value) (od : Option Addr) (doc pm : Value) (an : Option Addr) (ct : Value) (osl : Array (Option Value)) (cda cc : Addr) (ccl cl : Value) (cdd cld : Option Addr) (vs : Array Value) (ccs csl : Array (Option Value)) (file : Str) (tf : Tok),
    K.lookup fI = some ⟨oc, od, .func (ksFn "__init__" "ParseError.__init__" (L2.defArgs s_prs) (L2.defBody s_prs) (L2.defScope s_prs) .none .none doc pm an (.ref cda) ct cc), osl⟩ ∧ codeIn K (.ref cda) "ParseError.__init__" = true ∧
    K.lookup cda = some ⟨ccl, cdd, .fields vs, ccs⟩ ∧ vs[2]? = some (.str file tf) ∧ ((P.main.file : Str) == file) = true ∧ K.lookup cc = some ⟨cl, cld, .cell (some (.ref C)), csl⟩
  top : (P.main.scope.names.lookup ("super" : Str)).isSome = false
/-- what __init__ leaves of a fresh exception at x -/
structure InitEnd (h h' : Heap) (x C dx t1 : Addr) (v : Value) : Prop where
  keep : ∀ b o, b ≠ x → h.get? b = some o → h'.get? b = some o
  obj : h'.get? x = some { cls := .ref C, dict := some dx, data := .fields #[.ref t1, .none, .none, .none, .bool false, .none] }
  dbig : h.objs.size ≤ dx
  dne : dx ≠ x
  ns : h'.Ns1 dx (fun y => if y = "number" then some v else none)
theorem one_size (v : Value) : [v].length ≤ sizeLine := by
  rw [sizeLine_eq]
  exact (by decide : 1 ≤ 16777216)
theorem kept_but {K : Frag} {h h' : Heap} {x : Addr} (X : K.In h) (hx : K.lookup x = none) (k : ∀ b o, b ≠ x → h.get? b = some o → h'.get? b = some o) : K.In h' := fun a o e =>
  k a o (fun z => by rw [z, hx] at e; cases e) (X a o e)
section
variable {prog : Program} {w : World} {A : Around} {E : Value → Shared → Prop} {R : Result → Shared → Prop} {s : Shared} {K : Frag} {mg : Str → Option Value} {C fI : Addr}
theorem prs_body : L2.defBody s_prs = [.Expr (.Call (.Attribute (.Call (.Name "super" ⟨17, 8, 17, 13⟩) [] [] ⟨17, 8, 17, 15⟩) "__init__" ⟨17, 8, 17, 24⟩) [.Constant (.str "a text is expected") 0 ⟨17, 25, 17, 45⟩] [] ⟨17, 8, 17, 46⟩) ⟨17, 8, 17, 46⟩, .Assign [.Attribute (.Name "self" ⟨18, 8, 18, 12⟩) "number" ⟨18, 8, 18, 19⟩] (.Name "number" ⟨18, 22, 18, 28⟩) ⟨18, 8, 18, 28⟩] := rfl
theorem prs_loc (x : Addr) (v : Value) : ∀ y ∈ ([("self", .ref x), ("number", v)] : List (Str × Value)), (L2.defScope s_prs).names.lookup y.1 = some .local := by
  have h1 : (L2.defScope s_prs).names.lookup ("self" : Str) = some .local := by decide +kernel
  have h2 : (L2.defScope s_prs).names.lookup ("number" : Str) = some .local := by decide +kernel
  intro y hy
  rcases List.mem_cons.mp hy with rfl | hy
  · exact h1
  · rw [List.mem_singleton.mp hy]
    exact h2
theorem prs_kinds : (L2.defScope s_prs).names.lookup ("super" : Str) = some .globalImplicit ∧ (L2.defScope s_prs).names.lookup ("__class__" : Str) = some .free ∧ (L2.defScope s_prs).names.lookup ("self" : Str) = some .local ∧ (L2.defScope s_prs).names.lookup ("number" : Str) = some .local ∧ (L2.defScope s_prs).kind = .function := by decide +kernel
theorem ldK {M : Model} {name : Str} {scope : Scope} {L a cc : Addr} {cd : Value} {m : Str → Option Value} {x : Str} {pos : Pos} {v : Value} {Q : Value → Shared → Prop} {h : Heap} {g : Array GenState} {d : PySem.Drawn} {t : Nat} {os : OsState} (hn : h.Ns L m) (hv : m x = some v) (hk : scope.kind = .function) (hl : scope.names.lookup x = some .local) (hd : (x == ("__debug__" : Str)) = false) (h' : Q v ⟨h, g, d, t, os⟩) :
    wpAny M A (eval (.Name x pos) (ksEnv name scope L a cd cc)) Q E ⟨h, g, d, t, os⟩ := wpAny_Name (wpAny_loadName_local (env := ksEnv name scope L a cd cc) hk hl hn hv h') hd
theorem prs_init (T : PrsTxt prog K mg C fI) {x t0 : Addr} {v : Value} (X : K.In s.heap) (hlim : s.heap.NoLimit) (hg : s.heap.Ns mainGlobals mg) (hb : ∃ mb, s.heap.Ns builtinsNs mb ∧ ∀ x : Str, x ≠ "__name__" → mb x = bootBuiltins x) (hx : s.heap.get? x = some (excO C t0)) (hnx : K.lookup x = none) (hroom : A.depth < recursionLimit)
    (hq : ∀ h' tk dx t1, InitEnd s.heap h' x C dx t1 v → R (.ok (.ret .none)) { s with heap := h', toks := tk }) :
    codeAny (model prog w) A (.call (.ref fI) ⟨[.ref x, v], []⟩) R s := by
  obtain ⟨oc, od, doc, pm, an, ct, osl, cda, cc, ccl, cl, cdd, cld, vs, ccs, csl, file, tf, ho, hcd, hcode, hvs, hfile, hcell⟩ := T.fn
  obtain ⟨nm, q, N, bs, bm, sn, sub, ab, col, dd, k0, k1, k2, k3, k5, hC, hbm⟩ := T.cls
  have hcl : clsIn K C = some { name := nm, bases := bs, mro := .ref C :: bm, ns := N, qualname := q, hasDict := true, slotNames := sn, subclasses := sub, abstract := ab, collection := col, hasDel := false } := by unfold clsIn; rw [hC] <;> rfl
  refine ks_codeAny_call_defAt (fd := ksFn "__init__" "ParseError.__init__" (L2.defArgs s_prs) (L2.defBody s_prs) (L2.defScope s_prs) .none .none doc pm an (.ref cda) ct cc) (body := L2.defBody s_prs) (binds := [("self", .ref x), ("number", v)]) hroom (X _ _ ho) rfl hlim (codeRec_of X hcd) rfl (BindsTo.of_eq rfl) (by show ∀ x ∈ (L2.defScope s_prs).names, x.2 ≠ .cell; decide +kernel) (prs_loc x v) (fun h₁ hns hk₁ => ?_)
  rw [prs_body]
  have hxL : x < s.heap.objs.size := Heap.lt_size hx
  have X₁ : K.In h₁ := X.keeps hk₁
  have hx₁ := hk₁ _ _ hx
  obtain ⟨kn1, kn2, kn3, kn4, kn5⟩ := prs_kinds
  obtain ⟨mb, hb, hbb⟩ := hb
  have hxC : x ≠ C := fun z => by rw [z, hC] at hnx; cases hnx
  -- super().__init__('a text is expected')
  refine ks_wpAt_execs_cons (ks_wpAt_Expr_any (ks_wpAt_MethodCall ?_))
  have hC₁ := X₁ _ _ hC
  refine ks_wpAt_super_base (env := ksEnv "ParseError.__init__" (L2.defScope s_prs) s.heap.objs.size fI (.ref cda) cc) kn1 kn2 (by decide +kernel) rfl (X₁ _ _ ho) rfl rfl rfl (X₁ _ _ hcode) rfl hvs hfile T.top ?_
  refine ks_loadName_global kn5 kn1 (loadGlobal_builtin (env := ksEnv "ParseError.__init__" (L2.defScope s_prs) s.heap.objs.size fI (.ref cda) cc) (hg.keeps hk₁) T.sup (hb.keeps hk₁) ((hbb _ (by decide +kernel)).trans (by decide +kernel : bootBuiltins "super" = some (.type "super"))) ⟨rfl, ?_⟩)
  refine wpAny_loadName_free kn5 kn2 rfl ⟨_, X₁ _ _ hcell, rfl⟩ ?_
  refine wpAny_loadName_local kn5 kn3 hns rfl ?_
  refine ks_wpAny_isType_cls hC₁ rfl ⟨rfl, ?_⟩
  refine ks_wpAny_call_super hC₁ rfl hx₁ rfl (fun c e => nomatch e) (looks_mroIn X₁ T.own) (fun h₂ e₂ k₂ => ?_)
  have X₂ : K.In h₂ := X₁.keeps k₂
  have hx₂ := k₂ _ _ hx₁
  have I₂ : InstAt h₂ x (excO C t0) C none := ⟨hx₂, rfl, rfl, trivial⟩
  have halo : alongIn K "__init__" (((.ref C :: bm).dropWhile (· != .ref C)).drop 1) = some (some (.builtin "ValueError.__init__")) := by
    have := T.alo
    unfold ks_superIn at this
    rw [hcl] at this
    exact this
  refine kxs_getMethod kxs_ValueError e₂ (looks_opaque X₂ T.opq) (l₀ := .ref C :: bm) (fun A Q E s k q => wpAny_bind ((looks_clsIn X₂ hcl) A _ E s k (wpAny_pure q))) rfl X₂ halo (I₂.type.andThen (looks_subIn X₂ T.sVE)) hxC (by decide +kernel) ?_
  have he : ∀ env, starEach [.Constant (.str "a text is expected") 0 ⟨17, 25, 17, 45⟩] env = (false, eval (.Constant (.str "a text is expected") 0 ⟨17, 25, 17, 45⟩) env) :: starEach [] env := fun _ => rfl
  rw [he]
  refine kxs_callWith (i := "ValueError.__init__") (x := x) rfl ?_
  refine evalArgs_plain (x := eval (.Constant (.str "a text is expected") 0 ⟨17, 25, 17, 45⟩) _) (rest := backTo ⟨17, 8, 17, 46⟩ (starEach [] _)) ?_
  refine Calls.spliced_cons ?_
  refine Calls.Constant_str ?_
  refine Calls.spliced_nil ?_
  have hu : (h₂.push (kxs_mw "ValueError.__init__" x)).get? h₂.objs.size = some (kxs_mw "ValueError.__init__" x) := Heap.get?_push_size _ rfl
  refine ⟨hu, ?_⟩
  have k₃ : ∀ b o, h₂.get? b = some o → (h₂.push (kxs_mw "ValueError.__init__" x)).get? b = some o := fun b o e => Heap.get?_push_of_some _ e
  generalize h₂.push (kxs_mw "ValueError.__init__" x) = h₃ at hu k₃
  have X₃ : K.In h₃ := X₂.keeps k₃
  have hx₃ := k₃ _ _ hx₂
  refine wpAny_call (codeAny_of_tree ?_)
  show wpAny _ _ (callAny (.ref h₂.objs.size) _) _ _ _
  simp only [callAny]
  refine wpAny_bind (wpAny_load hu ?_)
  simp only [kxs_mw, show (Value.type "method-wrapper" == Value.type "method" || Value.type "method-wrapper" == Value.type "builtin_function_or_method" || Value.type "method-wrapper" == Value.type "method-wrapper") = true by decide, if_true]
  refine KFB.if_so (by decide) ?_
  refine wpAny_bind (check_bound_init F.excBase_ValueError.toExcCallFacts (X₃ _ _ hC) hx₃ rfl ?_)
  refine wpAny_bind (wpAny_pure (wpAny_pure ?_))
  refine ⟨plainId_quiet F.excBase_ValueError.init.plain _, codeAny_builtin F.excBase_ValueError.initEntry ?_⟩
  refine exc_init_tree (cls := .ref C) (t0 := t0) (dv := none) (c2 := .none) (c3 := .none) (b4 := .bool false) hx₃ (one_size _) (fun h₄ k₄ hx₄ ht₄ => ?_)
  have k : ∀ b o, b ≠ x → s.heap.get? b = some o → h₄.get? b = some o := fun b o hbx e => k₄ b o hbx (k₃ _ _ (k₂ _ _ (hk₁ _ _ e)))
  have X₄ : K.In h₄ := kept_but X hnx k
  have hLx : s.heap.objs.size ≠ x := Nat.ne_of_gt hxL
  have hns₄ : h₄.Ns s.heap.objs.size (fun y => ([("self", Value.ref x), ("number", v)] : List (Str × Value)).reverse.lookup y) := by
    obtain ⟨oL, es, ep, hL, r⟩ := hns
    exact ⟨oL, es, ep, k₄ _ _ hLx (k₃ _ _ (k₂ _ _ hL)), r⟩
  obtain ⟨m₄, hm₄, hv1, hv2⟩ : ∃ m₄, h₄.Ns s.heap.objs.size m₄ ∧ m₄ ("number" : Str) = some v ∧ m₄ ("self" : Str) = some (.ref x) := ⟨_, hns₄, by first | rfl | with_unfolding_all rfl | kernel_rfl, by first | rfl | with_unfolding_all rfl | kernel_rfl⟩
  -- self.number = number
  refine ks_wpAt_execs_cons (ks_wpAt_Assign_Attr ?_)
  refine wpAt_of_wpAny (ldK (name := "ParseError.__init__") (scope := L2.defScope s_prs) (cd := .ref cda) (cc := cc) (v := v) (m := m₄) hm₄ hv1 kn5 kn4 (by decide) ?_)
  refine ldK (name := "ParseError.__init__") (scope := L2.defScope s_prs) (cd := .ref cda) (cc := cc) (v := .ref x) (m := m₄) hm₄ hv2 kn5 kn3 (by decide) ?_
  refine set_plain X₄ (ox := { cls := .ref C, dict := none, data := .fields #[.ref h₃.objs.size, .none, .none, .none, .bool false, .none] }) (od := none) ⟨hx₄, rfl, rfl, trivial⟩ T.sa ?_
  refine exc_osa X₄ hx₄ hcl (show refsVE (.ref C :: bm) = true from hbm) rfl T.noN (fun h₅ tk₅ dx k₅ dn dne hx₅ hn₅ => ?_)
  have hz : s.heap.objs.size < h₄.objs.size := hns₄.lt
  exact wpAt_of_wpAny (wpAny_execs_nil (hq h₅ tk₅ dx h₃.objs.size ⟨fun b o hb e => k₅ b o hb (k b o hb e), hx₅, Nat.le_of_lt (Nat.lt_of_lt_of_le hz dn), dne, hn₅⟩))
end
end Wb

/-! ParseError(number) made, raised, and its field read in the clause's suite. -/
namespace Wb
open PySem PySem.W PySem.Calls PyProof.Rows PySem.HandSPX
structure OwnMade (h h' : Heap) (e C d : Addr) (v : Value) : Prop where
  keep : ∀ b o, h.get? b = some o → h'.get? b = some o
  new : h.objs.size ≤ e
  obj : ∃ oe vs, h'.get? e = some oe ∧ oe.cls = .ref C ∧ oe.dict = some d ∧ oe.data = .fields vs ∧ vs[1]? = some .none
  dbig : h.objs.size ≤ d
  dne : d ≠ e
  ns : h'.Ns1 d (fun y => if y = "number" then some v else none)
section
variable {prog : Program} {w : World} {A : Around} {R : Result → Shared → Prop} {s : Shared} {K : Frag} {mg : Str → Option Value} {C fI : Addr}
theorem prs_made (T : PrsTxt prog K mg C fI) {v : Value} (X : K.In s.heap) (hlim : s.heap.NoLimit) (hg : s.heap.Ns mainGlobals mg) (hb : ∃ mb, s.heap.Ns builtinsNs mb ∧ ∀ x : Str, x ≠ "__name__" → mb x = bootBuiltins x) (hroom : A.depth + 1 < recursionLimit)
    (hq : ∀ h' tk e d, OwnMade s.heap h' e C d v → R (.ok (.ret (.ref e))) { s with heap := h', toks := tk }) :
    codeAny (model prog w) A (.call (.ref C) ⟨[v], []⟩) R s := by
  obtain ⟨nm, q, N, bs, bm, sn, sub, ab, col, dd, k0, k1, k2, k3, k5, hC, hbm⟩ := T.cls
  obtain ⟨hp, g, dr, tk, os⟩ := s
  have k : ∀ b o, hp.get? b = some o → ((hp.push (kdv_tup [v])).push (excO C hp.objs.size)).get? b = some o := fun b o e => Heap.get?_push_of_some _ (Heap.get?_push_of_some _ e)
  have hget : ((hp.push (kdv_tup [v])).push (excO C hp.objs.size)).get? (hp.objs.size + 1) = some (excO C hp.objs.size) := by heap_get
  have hnx : K.lookup (hp.objs.size + 1) = none := by
    cases e : K.lookup (hp.objs.size + 1) with
    | none => rfl
    | some o =>
      have z : hp.get? (hp.objs.size + 1) = some o := X _ _ e
      exact absurd (Nat.lt_of_succ_lt (Heap.lt_size z)) (Nat.lt_irrefl _)
  refine call_own F.excBase_ValueError (fun X => refsVE_contains X bm hbm) (X _ _ hC) (looks_findIn X T.iC) (fun self => bind_fn X self T.tC) (one_size v) ?_
  refine prs_init (s := ⟨(hp.push (kdv_tup [v])).push (excO C hp.objs.size), g, dr, tk, os⟩) T (X.keeps k) (hlim.keeps k) (hg.keeps k) (hb.imp fun m z => ⟨z.1.keeps k, z.2⟩) hget hnx ?_ fun h' tk' dx t1 ⟨k', hx, dn, dne, hns⟩ => ?_
  · show A.depth + 1 < recursionLimit
    exact hroom
  · have old : ∀ b o, hp.get? b = some o → h'.get? b = some o := fun b o e => k' b o (Nat.ne_of_lt (Nat.lt_succ_of_lt (Heap.lt_size e))) (k b o e)
    have z : hp.objs.size + 1 + 1 ≤ dx := by
      first
        | (simpa only [Heap.size_push] using dn)
        | exact dn
        | (have q := dn; rw [Heap.size_push, Heap.size_push] at q; exact q)
    exact ⟨rfl, hq h' tk' (hp.objs.size + 1) dx ⟨old, Nat.le_succ _, ⟨_, _, hx, rfl, rfl, rfl, rfl⟩, Nat.le_trans (Nat.le_trans (Nat.le_succ _) (Nat.le_succ _)) z, dne, hns⟩⟩
end
end Wb
namespace Wb
open PySem PySem.Spec PyProof.Rows L2
theorem relO_num {v : V} {v' : Value} (r : RelV v v') (f : Str) : RelO (List.lookup f [(("number" : Str), v)]) (if f = "number" then some v' else none) := by
  by_cases hw : f = "number"
  · subst hw
    rw [if_pos rfl]
    have q : List.lookup ("number" : Str) [(("number" : Str), v)] = some v := by simp [List.lookup]
    rw [q]
    exact r
  · rw [if_neg hw]
    have qw : (f == ("number" : Str)) = false := by simpa using hw
    have q2 : List.lookup f [(("number" : Str), v)] = none := by simp [List.lookup, qw]
    rw [q2]
    trivial
section
variable {X : Cx} {C fI : Addr}
/-- ParseError(e) -/
def tMkPrs (C : Addr) (ta : TA) : L2.St → Hp → XK → Prop := fun σ H Q => ta σ H fun vs H1 => ∃ v, vs = [v] ∧ ∀ d, H1 d = none → Q (.ref C) (some d) (upd H1 d (.xd [(("number" : Str), v)]))
theorem pmk_prs {a : Expr} {ta : TA} {p pos : Pos} {k : Nat} (T : PrsTxt X.prog X.K X.mg C fI) (hr : Room k X.A) (ha : PA X [a] ta) (hg : Gl X "ParseError" := by rfl)
    (he : starEach (a :: []) X.env = (false, eval a X.env) :: starEach [] X.env := by rfl) (hpl : (backTo pos (starEach [] X.env)).any (·.1) = false := by rfl) :
    PMk X (.Call (.Name "ParseError" p) [a] [] pos) (tMkPrs C ta) := by
  intro pins s σ H Q I h
  refine wpAny_Call_Name_kw (ld_glob I hg T.gC ?_)
  refine PySem.W.callWith_K (h₀ := X.base) I.ok.mod.kin T.kC (thn (ha.run pos pins s σ H _ I h) fun us s1 hh => ?_) he hpl
  obtain ⟨vs, H1, I1, r1, v, ev, q1⟩ := hh
  subst ev
  refine ⟨I1.kIn, ?_⟩
  cases r1 with
  | cons rv rn =>
    rename_i v' us'
    cases rn
    show wpAny _ _ (call (.ref C) [v']) _ _ _
    have hlim := I1.nolimit
    have hgl := I1.ok.mod.glob.keeps I1.bk
    have hbl := I1.ok.mod.blt.imp fun m (z : X.base.Ns builtinsNs m ∧ _) => And.intro (z.1.keeps I1.bk) z.2
    obtain ⟨hp, g, dr, tk, os⟩ := s1
    refine wpAny_call (prs_made T I1.kIn hlim hgl hbl (by have := hr.dp; omega) fun h' tk' e d M => ?_)
    show MkP X pins σ Q (.ref e) ⟨h', g, dr, tk', os⟩
    obtain ⟨oe, fv, hoe, hc, hd, hdat, h1⟩ := M.obj
    have hns := M.ns
    obtain ⟨G', g1, g2⟩ := restrict h' fun b => decide (b ≠ e)
    have gk : ∀ b, b ≠ e → G'.get? b = h'.get? b := fun b hb => g1 b (decide_eq_true hb)
    have ge : G'.get? e = none := g2 e (by simp)
    have old : ∀ b o, hp.get? b = some o → G'.get? b = some o := fun b o q => (gk b (Nat.ne_of_lt (Nat.lt_of_lt_of_le (Heap.lt_size q) M.new))).trans (M.keep b o q)
    have ob : ObjOk X.prog X.w (upd H1 d (.xd [(("number" : Str), v)])) G' d (.xd [(("number" : Str), v)]) :=
      ⟨_, hns.at (fun o q => (gk d M.dne).trans q), fun f => relO_num rv f⟩
    have J : Inv X pins σ (upd H1 d (.xd [(("number" : Str), v)])) ⟨G', g, dr, tk', os⟩ := I1.laid (t' := tk') old M.dbig ob
    refine ⟨e, oe, fv, ⟨G', g, dr, tk', os⟩, _, .ref C, some d, rfl, J, fun b o q => ?_, ge, hoe, ⟨hc, hd⟩, hdat, h1, ?_, rfl, I1.bare, raises_own T.exC T.tyC, q1 d (I1.hok.fresh M.dbig)⟩
    · by_cases hb : b = e
      · have q' : G'.get? b = some o := q
        rw [hb, ge] at q'; cases q'
      · exact (gk b hb).symm.trans q
    · rw [upd_ne (Ne.symm M.dne)]
      exact I1.hok.fresh M.new
/-- raise ParseError(e) -/
def tRaisePrs (C : Addr) (W : WX) (ta : TA) : TS := fun _ σ H => tMkPrs C ta σ H fun cls d H' => W cls d σ H'
theorem ps_raisePrs {a : Expr} {ta : TA} {W : WX} {p pos pos2 : Pos} {k : Nat} (hc : X.calm = true) (T : PrsTxt X.prog X.K X.mg C fI) (hr : Room k X.A) (tk : Takes X W) (ha : PA X [a] ta) (hg : Gl X "ParseError" := by rfl)
    (he : starEach (a :: []) X.env = (false, eval a X.env) :: starEach [] X.env := by rfl) (hpl : (backTo pos (starEach [] X.env)).any (·.1) = false := by rfl) :
    PS X (.Raise (some (.Call (.Name "ParseError" p) [a] [] pos)) none pos2) (tRaisePrs C W ta) := ps_raise hc tk (pmk_prs T hr ha hg he hpl)
/-- e.number, e the exception that the suite holds (at a; its class cls, its dict d) -/
def tNum (C : Addr) (a : Addr) (cls : Value) (d : Option Addr) (te : TE) : TE := fun σ H Q => te σ H fun x H1 => x = .ref a ∧ cls = .ref C ∧ ∃ (dd : Addr) (v : V), d = some dd ∧ H1 dd = some (.xd [(("number" : Str), v)]) ∧ Q v H1
theorem pe_num {a : Addr} {oe : Obj} {cls : Value} {d : Option Addr} {pn : List (Addr × Obj)} {e : Expr} {te : TE} {pos : Pos} (T : PrsTxt X.prog X.K X.mg C fI) (hz : Zc cls d oe) (hf : ∃ vs, oe.data = .fields vs) (he : PE (X.suite a ((a, oe) :: pn)) e te)
    (hb : attributeBase e "number" X.env (eval e X.env) = eval e X.env := by rfl) :
    PE (X.suite a ((a, oe) :: pn)) (.Attribute e "number" pos) (tNum C a cls d te) := by
  refine ⟨fun pins s σ H Q I h => ?_⟩
  refine attr_of hb (thn (he.run pins s σ H _ I h) fun u s1 hh => ?_)
  obtain ⟨x, H1, I1, rx, ex, ec, dd, v, ed, ea, q⟩ := hh
  subst ex
  obtain rfl : u = Value.ref a := rx
  subst ec
  subst ed
  obtain ⟨ha, _⟩ := I1.pin (a, oe) (List.mem_append_left _ List.mem_cons_self)
  obtain ⟨vs, hd⟩ := hf
  have hx : ObjOk X.prog X.w H1 s1.heap dd (.xd [(("number" : Str), v)]) := I1.hok dd _ ea
  obtain ⟨mA, hns, hr⟩ := hx
  obtain ⟨od, ho, hl⟩ := lookIn_ns hns
  have l : List.lookup ("number" : Str) [(("number" : Str), v)] = some v := by simp [List.lookup]
  obtain ⟨u, hu, ru⟩ := RelO.some_of (v := v) (o := mA "number") (by rw [← l]; exact hr "number")
  have J : PySem.W.InstAt s1.heap a oe C (some od) := ⟨ha, hz.1, by unfold PySem.W.notCls; rw [hd] <;> rfl, by rw [hz.2]; exact ho⟩
  exact HandSPX.exc_get I1.kIn J T.ga T.gg T.exC (PySem.W.findObj_own T.hdC T.noN rfl (by rw [hl, hu])) (handed_of ru) ⟨v, H1, I1.tok _, ru, q⟩
end
end Wb

/-! Row.of_text, _law_of_text. -/
namespace Wb
open PySem PySem.Spec PyProof.Rows L2 SX TL
open C8 (pe_gc pss_cut tCut)
theorem ok_all {r : Rw} (h : Ok r) : okB r = true := List.all_eq_true.mpr fun p hp => by
  simp only [Bool.and_eq_true, decide_eq_true_eq]
  exact ⟨h.ex p hp, h.num p hp, h.ne0 p hp⟩
theorem ok_srt {d r : Rw} (h : okB d = true) (s : Srt d r) : Ok r :=
  ⟨s.asc, s.ne0, fun p hp => (srt_ok h p ((s.mem p).mp hp).1).2.1, fun p hp => (srt_ok h p ((s.mem p).mp hp).1).2.2⟩
/-- t is no row's text -/
def NoRow (t : List Nat) : Prop := ∀ r, Ok r → rend r ≠ t
theorem no_told {t : List Nat} (h : told t = none) : NoRow t := fun r ok e => by rw [← e, told_rend ok] at h; cases h
theorem no_ok {t : List Nat} {d : Rw} (h : told t = some d) (hb : okB d = false) : NoRow t := fun r ok e => by
  rw [← e, told_rend ok] at h
  cases h
  rw [ok_all ok] at hb
  cases hb
theorem no_text {t : List Nat} {d r : Rw} (h : told t = some d) (s : Srt d r) (hn : rend r ≠ t) : NoRow t := fun q ok e => by
  rw [← e, told_rend ok] at h
  cases h
  rw [s.uniq (Srt.self ok.asc ok.ne0)] at hn
  exact hn e
def PErrAt (H : Hp) (d : Addr) : Prop := H d = some (.xd [(("number" : Str), V.non)])
section
variable {P : Program} {w : World} {K : PySem.W.Frag} {mg : Str → Option Value} {base : Heap} {A : Ad} {X : Cx}
/-- a value that is no text -/
def NoStr (K : PySem.W.Frag) (A : Ad) (H : Hp) (v : V) : Prop := (∀ y, v ≠ .str y) ∧ ∃ t, TyX K H v t ∧ PySem.W.kitOne K t (.type "str") = some false
def spOf (K : PySem.W.Frag) (A : Ad) : Sp := fun vs H Q E => ∃ v, vs = [.ref A.Row, v] ∧ (NoStr K A H v ∨ ∃ t, v = .str (S t) ∧ t.length ≤ 100000 ∧ (words t).length ≤ 60) ∧
  (∀ t r H' a, v = .str (S t) → Ok r → rend r = t → H a = none → Same H H' → RowAt A H' a r → Q (.ref a) H') ∧
  ((∀ t, v = .str (S t) → NoRow t) → ∀ H' d, Same H H' → H' d = none → E (.ref A.PErr) (some d) (upd H' d (.xd [(("number" : Str), V.non)])))
theorem ok_of_text (T : Txt K mg A) (TP : PrsTxt P K mg A.PErr A.PErr_init) {fd : FuncData} (F : Fun K "of_text" "Row.of_text" s_Row_of_text A.R_of_text fd) : FnOk P w K mg base (L2.CX P w) 6 A.R_of_text fd ["cls", "text"] (spOf K A) := by
  refine F.okX sc_Row_of_text (fun vs H Q E h => by obtain ⟨_, rfl, _⟩ := h; rfl) (fun cdv A' outer s H vs Q E hr h => ?_)
  obtain ⟨v, rfl, hv, q1, q2⟩ := h
  refine ⟨_, (pss_cons (ps_set (i := 2) sc_Row_of_text.nd rfl (Or.inl rfl) (pe_ifExp (pt_val (pe_callB (call_isiA T) (by rfl) T.f_isinstance (by decide +kernel) (pa_cons (pv 1) (pa_cons (pe_bltn (v := .ty "str") (by rfl) T.f_str (by decide +kernel) rfl) pa_nil)))) (pe_f (c_terms_told T) hr (by decide) (by rfl) T.g_terms_told T.k_terms_told (pa_cons (pv 1) pa_nil)) pe_non))
    (pss_cons (ps_if (PW.pt (pw_or (pt_cmpR op_isN (pv 2) pe_non (nomark _)) (pw_or (pt_not (pt_val (pe_f (c_are_terms T) hr (by decide) (by rfl) T.g_are_terms T.k_are_terms (pa_cons (pv 2) pa_nil)))) (pw_or1 (pt_cmpR op_ne (pe_f (c_terms_text T) hr (by decide) (by rfl) T.g_terms_text T.k_terms_text (pa_cons (pe_f (c_sorted_terms T) hr (by decide) (by rfl) T.g_sorted_terms T.k_sorted_terms (pa_cons (pv 2) pa_nil)) pa_nil)) (pv 1) (nomark _))))))
      (pss_one (ps_raisePrs (W := fun cls d _ H => E cls d H) rfl TP hr (takes_of rfl rfl rfl rfl) (by exact (pa_cons pe_non pa_nil))))
      pss_nil)
    (pss_one (ps_ret (pe_row T hr (by decide) (by rfl) (pa_cons (pv 2) pa_nil)))))), ?_⟩
  have no : (∀ t, v = .str (S t) → NoRow t) → ∀ H', Same H H' → ∃ v', [V.non] = [v'] ∧ ∀ d, H' d = none → E (.ref A.PErr) (some d) (upd H' d (.xd [(("number" : Str), v')])) := fun hn H' s' => ⟨_, rfl, fun d hd => q2 hn H' d s' hd⟩
  rcases hv with ⟨hns, ty, hty, hk⟩ | ⟨t, rfl, hl, hw⟩
  · refine ⟨_, rfl, v, .ty "str", _, _, false, rfl, .ty _, .any hty, hk, false, rfl, iteF ?_⟩
    refine ⟨_, rfl, rfl, _, rfl, iteT ?_⟩
    refine no (fun t e => ?_) _ (Same.refl _)
    exact absurd e (hns _)
  · refine ⟨_, rfl, _, .ty "str", _, _, true, rfl, .ty _, .any (.base (.str _)), kit_ty (by decide +kernel), true, rfl, iteT ?_⟩
    refine ⟨_, rfl, t, rfl, hl, fun H1 s1 => ⟨fun e => ?_, fun d p e hp hpd => ?_⟩⟩
    · refine ⟨_, rfl, rfl, _, rfl, iteT ?_⟩
      exact no (fun t' e' => by injection e' with e'; rw [← S_inj e']; exact no_told e) _ s1
    · obtain ⟨hnd, hdl⟩ := told_nd e
      refine ⟨_, rfl, rfl, _, rfl, iteF ?_⟩
      refine ⟨_, rfl, p, d, rfl, hpd, by omega, fun H2 s2 => ?_⟩
      cases hb : okB d with
      | false =>
        refine ⟨_, rfl, iteT ?_⟩
        exact no (fun t' e' => by injection e' with e'; rw [← S_inj e']; exact no_ok e hb) _ (s1.trans s2)
      | true =>
        have hd2 := s2 _ _ hpd
        refine ⟨_, rfl, iteF ?_⟩
        refine ⟨_, rfl, p, d, rfl, hd2, hnd, by omega, fun p' hp' _ => (srt_ok hb p' hp').2.1, fun r H3 pr hsr hpr s3 hr3 => ?_⟩
        have ok := ok_srt hb hsr
        have hrl := hsr.len
        refine ⟨pr, r, rfl, hr3, ⟨ok.ex, ok.num⟩, by omega, fun H4 s4 => ?_⟩
        have s14 := s1.trans (s2.trans (s3.trans s4))
        refine ⟨_, rfl, rfl, _, rfl, ite2 (fun h => ?_) (fun h => ?_)⟩
        · have hne : rend r ≠ t := by
            have : S (rend r) ≠ S t := by simpa using h
            exact fun z => this (by rw [z])
          exact no (fun t' e' => by injection e' with e'; rw [← S_inj e']; exact no_text e hsr hne) _ s14
        · have heq : rend r = t := by
            have : S (rend r) = S t := by simpa using h
            exact S_inj this
          refine ⟨_, rfl, p, d, rfl, s4 _ _ (s3 _ _ hd2), hnd, by omega, hb, fun r' H5 a hs' ha s5 ra => ?_⟩
          cases hs'.uniq hsr
          exact q1 t r H5 a rfl ok heq (s14.free ha) (s14.trans s5) ra
/-! ### a classmethod's call that lets an exception out -/
theorem run_cmS {pins : List (Addr × Obj)} {σ : L2.St} {H : Hp} {s : Shared} {CX : CXT} {k : Nat} {q C g : Addr} {fd : FuncData} {ps : List Str} {sp : Sp} {E : XK} {Q : VK} {us : List Value} {vs : List V} (F : FnOk X.prog X.w X.K X.mg X.base CX k g fd ps sp) (hr : Room k X.A) (hb : Binds X.K fd ps []) (hx : PassesAt CX X σ E)
    (I : Inv X ((q, PySem.W.methodObj (.ref g) (.ref C)) :: pins) σ H s) (r : Vals vs us) (h : sp (.ref C :: vs) H Q E) : wpAny (model X.prog X.w) X.A (call (.ref q) us) (EP X pins σ Q) X.xe s := by
  have rv : Vals (V.ref C :: vs) (Value.ref C :: us) := .cons rfl r
  have hl : (Value.ref C :: us).length = ps.length := by rw [← rv.length]; exact F.len _ _ _ _ h
  have b := hb s (Value.ref C :: us) I.kIn (by rw [List.append_nil]; exact hl)
  rw [List.append_nil] at b
  have z : wpAny (model X.prog X.w) X.A (call (.ref q) us) (EP X ((q, PySem.W.methodObj (.ref g) (.ref C)) :: pins) σ Q) X.xe s := by
    refine wpAny_call (PySem.W.method_call (ClX.pin_at I) ?_)
    refine codeAny_mono (F.run X.A X.stack s H ⟨.ref C :: us, []⟩ (.ref C :: us) (.ref C :: vs) Q E hr I.env0 b rv h) fun r s' hq => ?_
    cases r with
    | error e => exact hx _ H s e s' I hq
    | ok fl =>
      cases fl with
      | ret u => exact I.after hq
      | next => exact False.elim hq
      | brk => exact False.elim hq
      | cont => exact False.elim hq
  exact thn z fun _ _ y => ClX.unpinE y
def tCMethS (C : Addr) (sp : Sp) (E : L2.St → XK) (ta : TE) (t : TA) : TE := fun σ H Q => ta σ H fun x H1 => x = .ref C ∧ t σ H1 fun vs H2 => sp (.ref C :: vs) H2 Q (E σ)
theorem pe_cmethS {CX : CXT} {k : Nat} {C p g : Addr} {mc : Value} {fd : FuncData} {ps : List Str} {sp : Sp} {E : L2.St → XK} {o e : Expr} {es : List Expr} {m : Str} {pos apos : Pos} {ta : TE} {t : TA} {pl : Sem Bool} (he : PE X o ta) (r : ClX.CRead X.K C mc) (c : ClX.CMet X.K C mc m p g)
    (F : FnOk X.prog X.w X.K X.mg X.base CX k g fd ps sp) (hr : Room k X.A) (hb : Binds X.K fd ps []) (hx : ∀ σ, PassesAt CX X σ (E σ)) (ha : PA X (e :: es) t)
    (hst : starEach (e :: es) X.env = (false, eval e X.env) :: starEach es X.env := by rfl) (hpl : (backTo pos (starEach es X.env)).any (·.1) = false := by rfl)
    (ht : eval (.Call (.Attribute o m apos) (e :: es) [] pos) X.env = (do
      let ov ← eval o X.env
      standAt apos.atName
      let (f, first) ← holding [ov] (getMethod ov m pl)
      callWith pos f first (backTo pos (starEach (e :: es) X.env)) (backToKw pos (keywordEach [] X.env))) := by rfl) :
    PE X (.Call (.Attribute o m apos) (e :: es) [] pos) (tCMethS C sp E ta t) := by
  refine ⟨fun pins s σ H Q I h => ?_⟩
  refine PySem.W.methodCall_KW (pl := pl) (thn (he.run pins s σ H _ I h) fun u s1 ⟨x, H1, I1, rx, ex, q⟩ => ?_) ht
  subst ex
  obtain rfl : u = Value.ref C := rx
  refine ClX.getmethcm_ok I1 r c fun s2 I2 => ?_
  refine ClX.callwith_cm I2 (ClX.base_none I1 (Nat.le_refl _)) c.fi (thn (ha.run pos _ s2 σ H1 _ I2 q) fun us s3 ⟨vs, H2, I3, rv, q2⟩ => ⟨⟨ClX.pin_at I3, I3.kIn⟩, ?_⟩) hst hpl
  exact run_cmS F hr hb (hx σ) I3 rv q2
/-! ### _law_of_text -/
abbrev TupPN (H : Hp) (p : Addr) : Prop := H p = some (.tup [.str (Str.ofString "parse"), .non])
def spLawOf (K : PySem.W.Frag) (A : Ad) : Sp := fun vs H Q _ => ∃ v, vs = [v] ∧ (NoStr K A H v ∨ ∃ t, v = .str (S t) ∧ t.length ≤ 100000 ∧ (words t).length ≤ 60) ∧
  (∀ t r H' a, v = .str (S t) → Ok r → rend r = t → H a = none → Same H H' → RowAt A H' a r → Q (.ref a) H') ∧
  ((∀ t, v = .str (S t) → NoRow t) → ∀ H' p, Same H H' → H p = none → TupPN H' p → Q (.ref p) H')
theorem c_law_of_text (T : Txt K mg A) (TP : PrsTxt P K mg A.PErr A.PErr_init) : FnR P w K mg base CX0 7 A._law_of_text (spLawOf K A) := by
  refine fnr T.d__law_of_text sc_law_of_text (fun _ _ _ _ _ _ us hl => match us, hl with | [_], _ => rfl) (fun vs H Q E h => by obtain ⟨_, rfl, _⟩ := h; rfl) (fun fd cdv A' outer s H vs Q E hr h => ?_)
  obtain ⟨v, rfl, hv, q1, q2⟩ := h
  obtain ⟨fdo, FO⟩ := T.d_R_of_text
  have GO : FnOk P w K mg base (L2.CX P w) 6 A.R_of_text fdo ["cls", "text"] (spOf K A) := ok_of_text T TP FO
  have bO := FO.binds (ps := ["cls", "text"]) fun _ _ _ _ _ _ us hl => match us, hl with | [_, _], _ => rfl
  refine ⟨_, (pss_one (ps_try_as (i := 1) (tb := fun W => tRet (tCMethS A.Row (spOf K A) (WE W) (tC (.ref A.Row)) (tCons (tVar 0) tNil))) (ts := fun a cls d => tRet (tTup (tCons (tC (.str (Str.ofString "parse"))) (tCons (tNum A.PErr a cls d (tVar 1)) tNil)))) (Wout := fun _ _ _ _ => False) rfl rfl sc_law_of_text.nd rfl rfl ⟨rfl, by decide, Or.inl TP.gC⟩ takes0
      (fun W pn xe tk _ => pss_one (ps_ret (pe_cmethS (pe_gc (by rfl) T.v_Row) T.cread T.c_of_text GO hr bO (fun σ => passAt tk σ) (by exact (pa_cons (pv 0) pa_nil)))))
      (fun a oe cls d pn hz hf => pss_one (ps_ret (pe_tup (by exact (pa_cons pe_str (pa_cons (pe_num TP hz hf (pv 1)) pa_nil)))))))), ?_⟩
  refine ⟨rfl, _, rfl, v, rfl, hv, q1, fun hn H' d s' hd => ?_⟩
  refine ⟨true, TP.te, fun _ a ha => ?_, fun q => Bool.noConfusion q⟩
  refine ⟨_, rfl, rfl, rfl, d, _, rfl, upd_same, by show 2 ≤ sizeLine; decide, fun p hp => ?_⟩
  have s2 := s'.trans (same_new (o := .xd [(("number" : Str), V.non)]) hd)
  exact q2 hn _ p (s2.trans (same_new hp)) (s2.free hp) upd_same
end
end Wb

/-! Row.__iter__, len of a row whose dict is locked, list(row). -/
namespace Wb
open PySem PySem.Spec PyProof.Rows L2 SX TL
/-- an iterator over the pairs of the dict at d, which is locked as od -/
def ItmO (od : Obj) (d it : Addr) (n : Nat) : HO := .ext fun h => ∃ es ep, od.data = .dict es ep ∧ IsItemIter h it d 0 n ep .none .none
theorem itm_ok {P : Program} {w : World} {H : Hp} {h : Heap} {od : Obj} {d it : Addr} {n ep : Nat} {es : Array DictEntry} (hd : od.data = .dict es ep) (e : IsItemIter h it d 0 n ep .none .none) : ObjOk P w H h it (ItmO od d it n) :=
  ⟨⟨es, ep, hd, e⟩, ⟨_, e⟩, fun h1 h2 ⟨es, ep, x, y⟩ k => ⟨es, ep, x, k _ y⟩⟩
/-- a row whose dict is locked -/
def RowL (A : Ad) (H : Hp) (a d : Addr) (od : Obj) (r : Rw) : Prop := ∃ dx, SlX.Slt H a A.Row dx [some (.ref d)] ∧ H d = some (.frz od (.dK (kvI r)))
section
variable {X : Cx}
theorem call_lenR : CallR X (.builtin "len") (fun xs H Q => ∃ a kvs, xs = [V.ref a] ∧ Rd H a (.dK kvs) ∧ Q (.int kvs.length) H) := by
  intro pins s σ H xs us Q I r h
  obtain ⟨a, kvs, rfl, ha, q⟩ := h
  obtain ⟨u, rfl, ru⟩ := vals1 r
  cases ru
  exact d_len I ha fun t s' I' => ⟨.int kvs.length, H, I', ⟨t, rfl⟩, q⟩
def tIterItems (te : TE) : TE := fun σ H Q => te σ H fun x H1 => ∃ (d : Addr) (od : Obj) (kvs : List (Key × V)), x = .ref d ∧ H1 d = some (.frz od (.dK kvs)) ∧ ∀ it, (∀ b o, H1 b = some o → b < it) → Q (.ref it) (upd H1 it (ItmO od d it kvs.length))
/-- iter(e.items()), the dict locked -/
theorem pe_iterItems {e : Expr} {te : TE} {p apos cpos pos : Pos} (he : PE X e te) (hg : Gl X "iter") (hm : X.mg "iter" = none) (hbase : attributeBase e "items" X.env (eval e X.env) = eval e X.env := by rfl) (hline : (apos.endLine == cpos.line) = true := by rfl)
    (hs : starEach [.Call (.Attribute e "items" apos) [] [] cpos] X.env = (false, eval (.Call (.Attribute e "items" apos) [] [] cpos) X.env) :: starEach [] X.env := by rfl) :
    PE X (.Call (.Name "iter" p) [.Call (.Attribute e "items" apos) [] [] cpos] [] pos) (tIterItems te) := by
  refine ⟨fun pins s σ H Q I hq => ?_⟩
  refine wpAny_Call_Name_kw (ld_blt (u := .builtin "iter") I hg hm (by first | rfl | decide +kernel) ?_ (by decide) (by decide))
  refine PyProof.Rows.callWith_builtin1 ?_ hs rfl
  rw [hs]
  show wpAny _ _ (spliced ((false, eval (.Call (.Attribute e "items" apos) [] [] cpos) X.env) :: backTo pos (starEach [] X.env))) _ _ s
  refine Calls.spliced_cons ?_
  refine wpAny_Call_method (T := "dict") (id := "dict.items") hbase rfl hline F.plainAttrs_dict F.slot_dict_items F.type_dict_items (thn (he.run pins s σ H _ I hq) fun u s1 ⟨x, H1, I1, rx, d, od, kvs, ex, hd, q⟩ => ?_)
  subst ex
  obtain rfl : u = Value.ref d := rx
  obtain ⟨hod, hz, hs0, vs, kv, hdo⟩ := I1.hok d _ hd
  obtain ⟨ep, hat⟩ := hdo.dictAt
  have lk : kvs.length = vs.length := Paired.length kv
  obtain ⟨o', es, ho', _, hdat, _⟩ := id hat
  rw [hod] at ho'
  cases ho'
  have I2 : Inv X pins σ H1 { s1 with heap := s1.heap.push { cls := .type "dict_items", data := .fields #[.ref d] } } := I1.kept (t' := s1.toks) fun b ob q => Heap.get?_push_of_some _ q
  refine ⟨hdo.typeIs, hdo.mapOf.noDict, ?_⟩
  show wpAny _ _ (callWith cpos (.builtin "dict.items") [.ref d] [] []) _ X.xe s1
  refine method_meetsIn F.slot_dict_items F.entry_dict_items rfl (PySem.evalArgs_none ⟨rfl, hdo.typeIs, F.args_dict_items_1 _, _, meets_dict_items (mixKind X.prog X.w) d hs0, ⟨vs, hdo⟩, ?_⟩)
  refine Calls.spliced_nil ?_
  refine Calls.call_function_entry (by decide +kernel) (by decide +kernel) PySem.W.kdk_entry_iter (PySem.W.kdk_args_iter _) ?_
  unfold Builtin.«iter»
  refine wpAny_bind (m := someArgs "iter" 1 2 _) (wpAny_of_eq (a := [Value.ref s1.heap.objs.size]) (by first | rfl | kernel_rfl!) ?_)
  show wpAny _ _ (pyIter (.ref s1.heap.objs.size) >>= _) _ _ _
  refine wpAny_bind (wpAny_pyIter_items (knd := mixKind X.prog X.w) (kvs := vs) (ep := ep) ⟨_, Heap.get?_push_size _ rfl, rfl, rfl⟩ (hat.push _) ?_)
  refine wpAny_pure ⟨_, rfl, ?_⟩
  refine ⟨.ref _, _, I2.laid (t' := s1.toks) (fun b u e => Heap.get?_push_of_some _ e) (Nat.le_refl _) (itm_ok (n := kvs.length) hdat ?_), rfl, q _ fun b o e => ObjOk.lt (I2.hok b o e)⟩
  rw [lk]
  exact Heap.get?_push_size _ rfl
end
section
variable {P : Program} {w : World} {K : PySem.W.Frag} {mg : Str → Option Value} {base : Heap} {A : Ad} {X : Cx}
def spLenL (A : Ad) : Sp := fun vs H Q _ => ∃ a d od r, vs = [.ref a] ∧ RowL A H a d od r ∧ Q (.int r.length) H
theorem c_lenL (T : Txt K mg A) : FnR P w K mg base CX0 1 A.R_len (spLenL A) := by
  refine fnr T.d_R_len sc_Row___len__ (fun _ _ _ _ _ _ us hl => match us, hl with | [_], _ => rfl) (fun vs H Q E h => by obtain ⟨_, _, _, _, rfl, _⟩ := h; rfl) (fun fd cdv A' outer s H vs Q E hr h => ?_)
  obtain ⟨a, d, od, r, rfl, ⟨dx, h1, h2⟩, q⟩ := h
  refine ⟨_, (pss_one (ps_ret (pe_callB call_lenR (by rfl) T.f_len (by decide +kernel) (pa_cons (pe_own T (pv 0)) pa_nil)))), ?_⟩
  refine ⟨_, rfl, a, dx, d, rfl, h1, d, _, rfl, .inr ⟨_, h2⟩, ?_⟩
  rw [kvI_len]
  exact q
def spIterL (A : Ad) : Sp := fun vs H Q _ => ∃ a d od r, vs = [.ref a] ∧ RowL A H a d od r ∧ ∀ it, (∀ b o, H b = some o → b < it) → Q (.ref it) (upd H it (ItmO od d it r.length))
theorem c_iterL (T : Txt K mg A) : FnR P w K mg base CX0 1 A.R_iter (spIterL A) := by
  refine fnr T.d_R_iter sc_Row___iter__ (fun _ _ _ _ _ _ us hl => match us, hl with | [_], _ => rfl) (fun vs H Q E h => by obtain ⟨_, _, _, _, rfl, _⟩ := h; rfl) (fun fd cdv A' outer s H vs Q E hr h => ?_)
  obtain ⟨a, d, od, r, rfl, ⟨dx, h1, h2⟩, q⟩ := h
  refine ⟨_, (pss_one (ps_ret (pe_iterItems (pe_own T (pv 0)) (by rfl) T.f_iter))), ?_⟩
  refine ⟨_, rfl, a, dx, d, rfl, h1, d, od, _, rfl, h2, fun it hi => ?_⟩
  rw [kvI_len]
  exact q it hi
end
end Wb

/-! list(row), the row's dict locked. -/
namespace Wb
open PySem PySem.Spec PyProof.Rows L2 SX TL
section
variable {prog : Program} {w : World} {κ : Type} [DecidableEq κ] {knd : KeyKind prog w κ} {A : Around}
def ItRel (knd : KeyKind prog w κ) (kvs : List (κ × Value)) (j : Nat) (k v : Value) : Prop := ∃ kk, kvs[j]? = some (kk, v) ∧ knd.is kk k = true
theorem src_items (hh : A.handled = none) {it d S : Addr} {kvs : List (κ × Value)} {ep : Nat} (hI : it ≠ S) (hd : d ≠ S) (hdi : d ≠ it) :
    Src prog w A it S [it] kvs.length (ItRel knd kvs) (fun i h => PySem.W.KdxSt h it d S i kvs.length ep ∧ h.DictAt knd d kvs ep) where
  off := fun hm => hI (List.mem_singleton.mp hm).symm
  frame := fun i h h' st hk => ⟨st.1.keep hk hI, st.2.at' fun o e => hk d o hd e⟩
  item := fun i s Q E hi st hS hQ => by
    obtain ⟨⟨kk, x⟩, hx⟩ : ∃ p, kvs[i]? = some p := ⟨kvs[i], List.getElem?_eq_getElem hi⟩
    refine PySem.W.kdx_item st.1 hS st.2 hx fun key h' hk st' ht hz hkeep => ?_
    exact hQ key x h' s.toks ⟨kk, hx, hk⟩ ht hz ⟨st', st.2.at' fun o e => hkeep d o hdi e⟩ fun b o hb e => hkeep b o (fun z => hb (by simp [z])) e
  done := fun s Q E st hQ => by
    refine PySem.W.kdx_done hh st.1 st.2 (List.getElem?_eq_none (Nat.le_refl _)) fun h' he => ?_
    exact hQ h' s.toks fun b o hb e => he b o (fun z => hb (by simp [z])) e
end
section
variable {X : Cx} {pins : List (Addr × Obj)} {σ : L2.St} {H : Hp} {s : Shared}
/-- the list at S (tracked so far as an empty one) is filled with new pairs, the thing at it (forgotten) has turned -/
theorem got_laid2 {h' : Heap} {tk : Nat} {ps : List (V × V)} {Rel : Nat → Value → Value → Prop} {acc : Array Value} {c S it lo : Addr} {as : List Addr} (I : Inv X pins σ H s) (hz : ps.length ≤ sizeLine) (hRel : ∀ j k v, Rel j k v → ∃ p, ps[j]? = some p ∧ RelV p.1 k ∧ RelV p.2 v)
    (hHS : H S = some (.lst [])) (hF : FpOk X pins H it) (hk : ∀ b o, b ≠ S → b ≠ it → s.heap.get? b = some o → h'.get? b = some o) (hlo : s.heap.objs.size ≤ lo) (hS : h'.get? S = some { cls := .type "list", dict := none, data := .seq acc c, slots := #[] }) (hl : as.length = ps.length) (hG : Got Rel lo h' as) (hacc : acc.toList = as.map Value.ref) :
    ∃ H' : Hp, (∀ b o, b ≠ S → H b = some o → H' b = some o) ∧ H' S = some (.lst (as.map V.ref)) ∧ Paired (fun (t : Addr) (q : V × V) => H' t = some (.tup [q.1, q.2])) as ps ∧ Inv X pins σ H' { s with heap := h', toks := tk } := by
  obtain ⟨f0, f1, f2, f3, f4, f5⟩ := hF
  have hSlt : S < s.heap.objs.size := ObjOk.lt (I.hok S _ hHS)
  have above : ∀ t ∈ as, s.heap.objs.size ≤ t := fun t ht => Nat.le_trans hlo (hG.above t ht)
  have hSn : S ∉ as := fun z => Nat.not_lt.mpr (above _ z) hSlt
  have nd : as.Nodup := List.Pairwise.imp (fun {a b} (h : a < b) => Nat.ne_of_lt h) hG.rise
  have new : ∀ t ∈ as, H t = none := fun t ht => I.hok.fresh (above t ht)
  have atP := putP_at as ps (upd H S (.lst (as.map V.ref))) (by omega) nd
  have off : ∀ b, b ∉ as → b ≠ S → putP (upd H S (.lst (as.map V.ref))) as ps b = H b := fun b h1 h2 => by rw [putP_off as ps _ h1, upd_ne h2]
  have low : ∀ b, b < s.heap.objs.size → b ∉ as := fun b hb z => Nat.not_lt.mpr (above b z) hb
  have kp : ∀ b u, b ≠ S → H b = some u → (putP (upd H S (.lst (as.map V.ref))) as ps) b = some u := fun b u h2 e => by
    rw [off b (fun z => by rw [new b z] at e; cases e) h2]
    exact e
  have eS : putP (upd H S (.lst (as.map V.ref))) as ps S = some (.lst (as.map V.ref)) := by rw [putP_off as ps _ hSn, upd_same]
  have other : ∀ b u, H b = some u → (∀ xs, u ≠ .lst xs) → b ≠ S := fun b u e n1 z => by rw [z, hHS] at e; exact n1 _ (Option.some.inj e).symm
  have kq : ∀ b u, H b = some u → (∀ xs, u ≠ .lst xs) → (putP (upd H S (.lst (as.map V.ref))) as ps) b = some u := fun b u e n1 => kp b u (other b u e n1) e
  have ne : ∀ b, H b = none → b ≠ S := fun b e z => by rw [z, hHS] at e; cases e
  have ni : ∀ b u, H b = some u → b ≠ it := fun b u e z => by rw [z, f0] at e; cases e
  refine ⟨putP (upd H S (.lst (as.map V.ref))) as ps, fun b o h1 e => kp b o h1 e, eS, atP, ?_⟩
  refine I.call' (ch := [it]) rfl ⟨fun b o q n _ hx => hk b o (ne b n) (fun z => hx (by simp [z])) q, fun b o q n _ hx => ⟨o.slots, hk b o (ne b n) (fun z => hx (by simp [z])) q⟩, fun b o q n hx => ?_, fun b o q hx => ?_, fun b xs q => kq b _ q (fun _ z => nomatch z), fun b o u q => kq b _ q (fun _ z => nomatch z), fun b ps q => ⟨#[], by rw [kq b _ q (fun _ z => nomatch z)]; simp⟩⟩ (fun b u q => ?_) I.bare fun b z => ?_
  · rw [off b (low b (Heap.lt_size q)) (ne b n)]
    exact n
  · by_cases h1 : b = S
    · rw [h1]; exact ⟨_, hS⟩
    · exact ⟨o, hk b o h1 (fun z => hx (by simp [z])) q⟩
  · by_cases hb : b ∈ as
    · obtain ⟨j, pk, e1, e2, e3⟩ := LiI.paired_ix atP hb
      rw [e3] at q
      cases q
      obtain ⟨k, v, g0, f3⟩ := hG.pairs j b e1
      obtain ⟨p, g1, g2, g3⟩ := hRel j k v g0
      rw [e2] at g1
      cases g1
      exact ⟨by show 2 ≤ sizeLine; decide, [k, v], .cons g2 (.cons g3 .nil), ⟨_, f3, rfl, _, rfl⟩⟩
    · by_cases hb2 : b = S
      · rw [hb2] at q ⊢
        rw [eS] at q
        cases q
        refine ⟨by rw [List.length_map]; omega, acc.toList, c, by rw [hacc]; exact LiI.vals_refs as, ?_⟩
        rw [Array.toArray_toList]
        exact hS
      · rw [off b hb hb2] at q
        refine (I.hok b u q).stay (fun d v hc y => ?_) (fun d y => kq d _ y (fun _ z => nomatch z)) fun d xs y => kq d _ y (fun _ z => nomatch z)
        rcases hc with z | z
        · rw [z] at y ⊢
          exact hk b v hb2 (ni b u q) y
        · exact hk d v (other d _ z (fun _ z => nomatch z)) (ni d _ z) y
  · rw [List.mem_singleton.mp z]
    exact ⟨f3, f1, f4, f5⟩
end
section
variable {P : Program} {w : World} {K : PySem.W.Frag} {mg : Str → Option Value} {base : Heap} {A : Ad} {X : Cx} {pins : List (Addr × Obj)} {σ : L2.St} {H : Hp} {s : Shared}
theorem it_next {Q : Value → Shared → Prop} {M : Model} {Ar : Around} {E : Value → Shared → Prop} {it d : Addr} {n ep : Nat} (hit : IsItemIter s.heap it d 0 n ep .none .none) (h : Q (.ref it) s) : PySem.W.OwitIt M Ar Q E (.ref it) s := by
  have hT : s.TypeIs (.ref it) "dict_itemiterator" := ⟨_, hit, rfl⟩
  unfold PySem.W.OwitIt
  exact wpAny_specialOf hT F.slot_dict_itemiterator_next.lookup h
theorem row_hint {Ar : Around} {Q : Bool → Shared → Prop} {E : Value → Shared → Prop} {a d : Addr} {od : Obj} {r : Rw} (T : Txt X.K X.mg A) (hr : Room 2 Ar) (e0 : ∀ H s, Inv X pins σ H s → Env0 X.prog X.w X.K X.mg X.base Ar.in1 X.stack s H) (I : Inv X pins σ H s) (h : RowL A H a d od r) (hl : r.length ≤ 1000)
    (q : ∀ b s', Inv X pins σ H s' → Q b s') : wpAny (model X.prog X.w) Ar (Builtin.List.listLengthHint (.ref a)) Q E s := by
  obtain ⟨dx, h1, h2⟩ := id h
  obtain ⟨sl, od', _, J, _⟩ := SlX.slt_inst I h1
  obtain ⟨m, fr⟩ := I.fr
  unfold Builtin.List.listLengthHint
  refine wpAny_bind (wpAny_bind (J.type.here ((PySem.W.looks_findIn I.kIn T.m_len).here ?_)))
  dsimp only
  refine PySem.W.KFB.if_not rfl ?_
  refine PySem.W.KFB.if_so rfl ?_
  refine wpAny_bind (wpAny_rule ?_)
  refine wpAny_bind (wpAny_attempt ?_)
  refine PySem.W.len_K fr I.ok.mod.kin J T.m_len T.i_len (wpAny_mono (wpAny_call (SlX.run_at (X := X.nox) (E := E0) (Q := fun z H' => z = .int r.length ∧ H' = H) (us := [.ref a]) (ws := [.ref a]) (c_lenL T) (hr.in1.mono (by decide)) (e0 _ _ I) pass0 (I.wish _) (.cons rfl .nil) ⟨a, d, od, r, rfl, h, rfl, rfl⟩)) (fun v s' z => ?_) fun _ _ x => x.elim)
  · obtain ⟨z', H', I', rz, ez, eH⟩ := z
    subst ez eH
    obtain ⟨t, rfl⟩ := rz
    refine ⟨⟨by omega, by omega⟩, ?_⟩
    refine wpAny_bind (m := asInt? _) (wpAny_pure ?_)
    refine PySem.W.KFB.if_not ?_ (wpAny_pure (q _ _ (I'.unwish.tok _)))
    show decide ((r.length : Int).toNat > sizeLine) = false
    rw [sizeLine_eq]
    exact decide_eq_false (by omega)
theorem row_extend {a d S : Addr} {od : Obj} {r : Rw} {R : Result → Shared → Prop} (hc : X.calm = true) (T : Txt X.K X.mg A) (hr : Room 5 X.A) (I : Inv X pins σ H s) (h : RowL A H a d od r) (hl : r.length ≤ 1000) (hS : H S = some (.lst [])) (hSb : X.s_0.heap.objs.size ≤ S)
    (hR : ∀ s' H' ts, Inv X pins σ H' s' → (∀ b o, b ≠ S → H b = some o → H' b = some o) → H' S = some (.lst (ts.map V.ref)) → Paired (TupI H') ts r → R (.ok (.ret .none)) s') :
    wpAny (model X.prog X.w) X.A.in1.in1 (Builtin.List.listExtendWith (.ref S) (.ref a) .none)
      (fun fin s' => match fin with | .done f => R (.ok f) s' | .again c' => c'.quiet = true ∧ codeAny (model X.prog X.w) X.A.in1 c' R s') (fun e s' => R (.error e) s') s := by
  obtain ⟨dx, h1, h2⟩ := id h
  obtain ⟨sl, od', _, J, _⟩ := SlX.slt_inst I h1
  obtain ⟨m, fr⟩ := I.fr
  have hSa : S ≠ a := fun z => by
    rcases h1 with ⟨e, _⟩ | ⟨e, _⟩ <;> (rw [← z, hS] at e; cases e)
  have hr2 : Room 3 X.A.in1.in1 := (show Room 4 X.A.in1 from Room.in1 hr).in1
  unfold Builtin.List.listExtendWith
  refine wpAny_bind (J.type.here ?_)
  have n1 : Builtin.List.listSameRef (.ref S) (.ref a) = false := by simp [Builtin.List.listSameRef, hSa]
  have n2 : (Value.ref A.Row == Value.type "list") = false := rfl
  have n3 : (Value.ref A.Row == Value.type "tuple") = false := rfl
  simp only [n1, n2, n3, Bool.or_false, Bool.false_eq_true, if_false]
  refine wpAny_bind (PySem.W.owit_iter fr I.ok.mod.kin J T.m_iter T.i_iter (wpAny_mono (wpAny_call (SlX.run_at (X := X.nox) (E := E0) (Q := fun z H' => ∃ it, z = .ref it ∧ (∀ b o, H b = some o → b < it) ∧ H' = upd H it (ItmO od d it r.length)) (us := [.ref a]) (ws := [.ref a]) (c_iterL T) (hr2.mono (by decide)) I.env0.in1.in1 pass0 (I.wish _) (.cons rfl .nil) ⟨a, d, od, r, rfl, h, fun it hi => ⟨it, rfl, hi, rfl⟩⟩)) (fun v s2 z => ?_) fun _ _ x => x.elim))
  obtain ⟨z', H2, I2, rz, it, ez, hit, eH⟩ := z
  subst ez eH
  obtain rfl : v = Value.ref it := rz
  have I2 : Inv X pins σ (upd H it (ItmO od d it r.length)) s2 := I2.unwish
  have hn : H it = none := by
    cases e : H it with
    | none => rfl
    | some o => exact absurd (hit _ _ e) (Nat.lt_irrefl _)
  have hSi : S < it := hit _ _ hS
  obtain ⟨es, ep, hdat, hitr⟩ := (I2.hok it _ upd_same).1
  refine it_next hitr ?_
  have s2' : Same H (upd H it (ItmO od d it r.length)) := same_new hn
  have hl2 : RowL A (upd H it (ItmO od d it r.length)) a d od r := ⟨dx, slt_same h1 s2', s2' _ _ h2⟩
  refine wpAny_bind (wpAny_holding (row_hint T (hr2.mono (by decide)) (fun H s I => I.env0.in1.in1.in1) I2 hl2 hl fun b s3 I3 => ?_))
  obtain ⟨es3, ep3, hdat3, hit3⟩ := (I3.hok it _ upd_same).1
  obtain ⟨hod, hz, hs0, vs, kv, hdo⟩ := I3.hok d _ (s2' _ _ h2)
  obtain ⟨ep4, hat⟩ := hdo.dictAt
  obtain ⟨o', es4, ho', _, hdat4, _⟩ := id hat
  rw [hod] at ho'
  cases ho'
  rw [hdat3] at hdat4
  obtain ⟨rfl, rfl⟩ : es3 = es4 ∧ ep3 = ep4 := by
    injection hdat4 with q1 q2
    exact ⟨q1, q2⟩
  have lk : r.length = vs.length := by rw [← kvI_len]; exact Paired.length kv
  obtain ⟨_, its, nS, rS, hSo⟩ := I3.hok S _ (s2' _ _ hS)
  cases rS
  have dS : d ≠ S := fun z => by rw [z, hS] at h2; cases h2
  have di : d ≠ it := ne_of_none h2 hn
  have iS : it ≠ S := Nat.ne_of_gt hSi
  have hh : X.A.in1.in1.handled = none := I3.ok.hd hc
  have W := src_items (prog := X.prog) (w := X.w) (knd := mixKind X.prog X.w) (A := X.A.in1.in1) (it := it) (d := d) (S := S) (kvs := vs) (ep := ep3) hh iS dS di
  have hSlt : S < s3.heap.objs.size := Heap.lt_size hSo
  have hIlt : it < s3.heap.objs.size := Heap.lt_size hit3
  have fin : ∀ h' tk acc c as, (∀ b o, b ≠ S → b ∉ [it] → s3.heap.get? b = some o → h'.get? b = some o) → h'.get? S = some { cls := .type "list", dict := none, data := .seq acc c, slots := #[] } → as.length = vs.length → Got (ItRel (mixKind X.prog X.w) vs) s3.heap.objs.size h' as →
      acc.toList = as.map Value.ref → R (.ok (.ret .none)) { s3 with heap := h', toks := tk } := fun h' tk acc c as hk hS' hla hG hacc => by
    have Fp : FpOk X pins (ItX.dropH (upd H it (ItmO od d it r.length)) it) it := ItX.inv_fp I3 upd_same (Nat.le_of_lt (Nat.lt_of_le_of_lt hSb hSi))
    have I4 := ItX.inv_drop I3 (a := it) upd_same
    rw [ItX.dropH_upd hn] at I4 Fp
    have hRel : ∀ j k v, ItRel (mixKind X.prog X.w) vs j k v → ∃ p, (r.map fun p : Int × Int => (V.int p.1, V.int p.2))[j]? = some p ∧ RelV p.1 k ∧ RelV p.2 v := fun j k v ⟨kk, e1, e2⟩ => by
      have hj : j < r.length := by rw [lk]; exact (List.getElem?_eq_some_iff.mp e1).1
      have er : r[j]? = some r[j] := List.getElem?_eq_getElem hj
      have ek : (kvI r)[j]? = some ((Sum.inl r[j].1 : Key), V.int r[j].2) := by unfold kvI; rw [List.getElem?_map, er] <;> rfl
      obtain ⟨qv, g1, g2, g3⟩ := LiI.paired_get kv ek
      rw [e1] at g1
      cases g1
      refine ⟨(V.int r[j].1, V.int r[j].2), by rw [List.getElem?_map, er] <;> rfl, ?_, g3⟩
      have g2 : (Sum.inl r[j].1 : Key) = kk := g2
      subst g2
      exact relV_key (k := (Sum.inl r[j].1 : Key)) (show keyIs (Sum.inl r[j].1 : Key) k = true from e2)
    obtain ⟨H', k1, k2, k3, J'⟩ := got_laid2 (tk := tk) (ps := r.map fun p : Int × Int => (V.int p.1, V.int p.2)) I4 (by rw [List.length_map]; exact Nat.le_of_lt (len_small' (by omega))) hRel hS Fp (fun b o h1 h2 e => hk b o h1 (fun z => h2 (List.mem_singleton.mp z)) e) (Nat.le_refl _) hS' (by rw [hla, List.length_map, lk]) hG hacc
    exact hR _ H' as J' k1 k2 (Paired.map_r (F := fun (t : Addr) (q : V × V) => H' t = some (.tup [q.1, q.2])) (g := fun p : Int × Int => (V.int p.1, V.int p.2)) k3)
  have key : ∀ (hp : Heap) (c tk : Nat), (∀ b o, b ≠ S → s3.heap.get? b = some o → hp.get? b = some o) → s3.heap.objs.size ≤ hp.objs.size → hp.get? S = some { cls := .type "list", dict := none, data := .seq #[] c, slots := #[] } →
      codeAny (model X.prog X.w) X.A.in1 (.builtin "list.extend.loop" ⟨[.ref S, .ref it, .none], []⟩) R { s3 with heap := hp, toks := tk } := fun hp c tk hk hsz hS₁ =>
    src_loop (s := s3) (h₁ := s3.heap) (lo := s3.heap.objs.size) W hSlt (fun b hb => by rw [List.mem_singleton.mp hb]; exact hIlt) (by rw [← lk]; exact Nat.le_of_lt (len_small' (by omega))) .none fin
      vs.length 0 hp tk c #[] [] (Nat.sub_zero _) (Nat.zero_le _) (W.frame 0 _ _ ⟨.inl ⟨rfl, .none, .none, by rw [← lk]; exact hit3⟩, hat⟩ hk) (fun b o hb _ e => hk b o hb e) hS₁ rfl rfl
      ⟨List.Pairwise.nil, (fun _ ha => nomatch ha), (fun j a hj => by simp at hj)⟩ hsz
  refine wpAny_ite_split (fun _ => ?_) (fun _ => wpAny_pure ⟨plainId_quiet PySem.F.plain_extend_loop _, key _ _ s3.toks (fun b o _ e => e) (Nat.le_refl _) hSo⟩)
  refine wpAny_bind (wpAny_rule ?_)
  refine wpAny_bind ?_
  show wpAny _ _ (updateSeq S (·.push .none) >>= fun _ => updateSeq S (·.pop)) _ _ _
  refine wpAny_bind (wpAny_updateSeq hSo rfl ?_)
  have hS₂ := Heap.get?_update_self (Obj.mapSeq (·.push Value.none)) hSo rfl
  refine wpAny_updateSeq (hz := by seq_fits) hS₂ rfl ?_
  have hS₃ := Heap.get?_update_self (Obj.mapSeq (·.pop)) hS₂ rfl
  refine wpAny_pure ⟨plainId_quiet PySem.F.plain_extend_loop _, key _ _ _ (fun b o hb e => ?_) ?_ hS₃⟩
  · exact (Heap.get?_update_other _ _ (Ne.symm hb)).trans ((Heap.get?_update_other _ _ (Ne.symm hb)).trans e)
  · rw [Heap.size_update, Heap.size_update]
    exact Nat.le_refl _
/-- list(e), e a row whose dict is locked -/
def tListRow (A : Ad) (te : TE) : TE := fun σ H Q => te σ H fun x H1 => ∃ a d od r, x = .ref a ∧ RowL A H1 a d od r ∧ r.length ≤ 1000 ∧ ∀ (H' : Hp) (p : Addr) (ts : List Addr), Same H1 H' → H1 p = none → H' p = some (.lst (ts.map V.ref)) → Paired (TupI H') ts r → Q (.ref p) H'
theorem pe_listRow {e : Expr} {te : TE} {p pos : Pos} {j : Nat} (hc : X.calm = true) (T : Txt X.K X.mg A) (hr : Room j X.A) (hk : 5 ≤ j) (he : PE X e te) (hg : Gl X "list")
    (hs : starEach [e] X.env = (false, eval e X.env) :: starEach [] X.env := by rfl) : PE X (.Call (.Name "list" p) [e] [] pos) (tListRow A te) := by
  refine ⟨fun pins s σ H Q I hq => ?_⟩
  refine wpAny_Call_Name_kw (ld_blt (u := .type "list") I hg T.f_list (by first | rfl | decide +kernel) ?_)
  refine PyProof.Rows.callWith_type1 ?_ hs rfl
  rw [hs]
  show wpAny _ _ (spliced ((false, eval e X.env) :: backTo pos (starEach [] X.env))) _ _ s
  refine Calls.spliced_cons ?_
  refine thn (he.run pins s σ H _ I hq) fun u s1 ⟨x, H1, I1, rx, a, d, od, r, ex, hrow, hl, q⟩ => ?_
  subst ex
  obtain rfl : u = Value.ref a := rx
  refine Calls.spliced_nil ?_
  refine callType_codes (Q₁ := fun obj s₁ => obj = .ref s1.heap.objs.size ∧ s₁ = { s1 with heap := s1.heap.push { cls := .type "list", data := .seq #[] } }) PySem.F.called_list (PySem.F.typeCall_list_1 _) PySem.F.entry_list_init
    (code_list_new _ ⟨rfl, rfl⟩) fun obj s₁ h₁ => ?_
  obtain ⟨rfl, rfl⟩ := h₁
  have hS : (s1.heap.push { cls := .type "list", data := .seq #[] }).get? s1.heap.objs.size = some { cls := .type "list", data := .seq #[] } := Heap.get?_push_size _ rfl
  refine ⟨⟨_, hS, rfl⟩, PySem.F.args_list_init_2 _ _, ?_⟩
  show wpAny _ _ (do let old ← Builtin.List.listItems (.ref s1.heap.objs.size); Builtin.List.listUpdate (.ref s1.heap.objs.size) (fun _ => #[]); letGo old.toList.reverse; Builtin.List.listExtendWith (.ref s1.heap.objs.size) (.ref a) .none) _ _ _
  refine wpAny_bind ?_
  unfold Builtin.List.listItems
  refine wpAny_bind (wpAny_seqItems hS rfl (wpAny_pure ?_))
  show wpAny _ _ (updateSeq s1.heap.objs.size (fun _ => #[]) >>= fun _ => letGo (#[] : Array Value).toList.reverse >>= fun _ => Builtin.List.listExtendWith (.ref s1.heap.objs.size) (.ref a) .none) _ _ _
  refine wpAny_bind (wpAny_updateSeq hS rfl ?_)
  have hS₂ := Heap.get?_update_self (Obj.mapSeq (fun _ => (#[] : Array Value))) hS rfl
  refine wpAny_bind (wpAny_letGo ?_)
  have hf : H1 s1.heap.objs.size = none := I1.hok.fresh (Nat.le_refl _)
  have oth : ∀ b o, s1.heap.get? b = some o → ((s1.heap.push { cls := .type "list", data := .seq #[] }).update s1.heap.objs.size (Obj.mapSeq (fun _ => (#[] : Array Value)))).get? b = some o :=
    fun b o e => (Heap.get?_update_other _ _ (Nat.ne_of_gt (Heap.lt_size e))).trans (Heap.get?_push_of_some _ e)
  have I2 := I1.laid (a := s1.heap.objs.size) (o := .lst []) (t' := s1.toks) oth (Nat.le_refl _) ⟨Nat.zero_le _, [], _, .nil, hS₂⟩
  have s2 : Same H1 (upd H1 s1.heap.objs.size (.lst [])) := same_new hf
  obtain ⟨dx, k1, k2⟩ := hrow
  refine row_extend hc T (hr.mono hk) I2 ⟨dx, slt_same k1 s2, s2 _ _ k2⟩ hl upd_same I1.sz fun s' H' ts J k3 k4 k5 => ?_
  refine ⟨rfl, .ref _, H', J, rfl, q H' _ ts (fun b o e => k3 b o (ne_of_none e hf) (s2 _ _ e)) hf k4 k5⟩
end
end Wb

/-! Rules that the layer lacks, 6: list('text'); repr of an int, None, a list of two such; defs that run while no built-in's own loop is under way. -/
namespace Wb
open PySem PySem.Spec PyProof.Rows L2
section
variable {X : Cx}
/-- the signs of a text -/
def signsOf (y : Str) : List V := y.cps.toList.map fun c => V.str ⟨#[c]⟩
theorem signs_vals {y : Str} {acc : Array Value} (h : ItemsOf (SignAt y) acc y.cps.size) : Vals (signsOf y) acc.toList := by
  have key : ∀ (l : List Nat) (m : List Value), l.length = m.length → (∀ (j : Nat) (v : Value), m[j]? = some v → ∃ (c : Nat) (u : Tok), l[j]? = some c ∧ v = Value.str ⟨#[c]⟩ u) → Vals (l.map fun c => V.str ⟨#[c]⟩) m := by
    intro l
    induction l with
    | nil => intro m hl _; cases m with
      | nil => exact .nil
      | cons a m => cases hl
    | cons c l ih =>
      intro m hl hm
      cases m with
      | nil => cases hl
      | cons a m =>
        obtain ⟨c', u, e1, e2⟩ := hm 0 a rfl
        cases e1
        refine .cons ⟨u, e2⟩ (ih m (by simpa using hl) fun j v hj => hm (j + 1) v hj)
  refine key _ _ (by rw [Array.length_toList, Array.length_toList, h.1]) fun j v hj => ?_
  obtain ⟨c, u, e1, e2⟩ := h.2 j v (by rw [← Array.getElem?_toList]; exact hj)
  exact ⟨c, u, by rw [Array.getElem?_toList]; exact e1, e2⟩
/-- list(y), y a text -/
theorem call_listS (hc : X.calm = true) : CallR X (.type "list") (fun xs H Q => ∃ y, xs = [V.str y] ∧ y.cps.size ≤ sizeLine ∧ ∀ p, H p = none → Q (.ref p) (upd H p (.lst (signsOf y)))) := by
  intro pins s σ H xs us Q I r h
  obtain ⟨y, rfl, hz, q⟩ := h
  obtain ⟨u, rfl, t, rfl⟩ := vals1 r
  refine call_list_str (I.ok.hd hc) y t (fun h' tk acc c hk hS hI => ?_) hz
  refine ⟨.ref s.heap.objs.size, _, I.laid (a := s.heap.objs.size) (o := .lst (signsOf y)) (t' := tk) hk (Nat.le_refl _) ⟨?_, acc.toList, c, signs_vals hI, by rw [Array.toArray_toList]; exact hS⟩, rfl, q _ (I.hok.fresh (Nat.le_refl _))⟩
  rw [signsOf, List.length_map, Array.length_toList]
  exact hz
/-! ### repr -/
/-- an int that is not too great, or None -/
def SmallV (x : V) : Prop := x = .non ∨ ∃ i : Int, x = .int i ∧ i.natAbs.log2 < 1920
def reprV : V → Str
  | .int i => toString i
  | _ => "None"
theorem call_repr1 : CallR X (.builtin "repr") (fun xs H Q => ∃ x, xs = [x] ∧ SmallV x ∧ Q (.str (reprV x)) H) := by
  intro pins s σ H xs us Q I r h
  obtain ⟨x, rfl, hx, q⟩ := h
  obtain ⟨u, rfl, ru⟩ := vals1 r
  rcases hx with rfl | ⟨i, rfl, hz⟩
  · cases (show u = Value.none from ru)
    exact PySem.P.repr_of_none ⟨.str _, H, I.tok _, ⟨_, rfl⟩, q⟩
  · obtain ⟨t, rfl⟩ := (show ∃ t, u = Value.int i t from ru)
    exact PySem.P.repr_of_int hz ⟨.str _, H, I.tok _, ⟨_, rfl⟩, q⟩
theorem repr_is {P : Program} {w : World} {x : V} {u : Value} (r : RelV x u) (h : SmallV x) : ReprIs P w u (reprV x) := by
  rcases h with rfl | ⟨i, rfl, hz⟩
  · cases (show u = Value.none from r)
    exact ReprIs.none
  · obtain ⟨t, rfl⟩ := (show ∃ t, u = Value.int i t from r)
    exact ReprIs.int t hz
/-- repr of a list of two -/
theorem call_reprL {n : Nat} (hg : X.A.guards = some []) (hr : Room (n + 1) X.A) : CallR X (.builtin "repr") (fun xs H Q => ∃ p x y, xs = [V.ref p] ∧ H p = some (.lst [x, y]) ∧ SmallV x ∧ SmallV y ∧ (listText [reprV x, reprV y]).length ≤ sizeLine ∧ Q (.str (listText [reprV x, reprV y])) H) := by
  intro pins s σ H xs us Q I r h
  obtain ⟨p, x, y, rfl, hp, hx, hy, hz, q⟩ := h
  obtain ⟨u, rfl, ru⟩ := vals1 r
  cases (show u = Value.ref p from ru)
  obtain ⟨_, its, nS, rS, hSo⟩ := (show ObjOk X.prog X.w H s.heap p (.lst [x, y]) from I.hok p _ hp)
  cases rS with
  | cons r1 rt =>
    cases rt with
    | cons r2 rn =>
      cases rn
      have hT : s.TypeIs (.ref p) "list" := ⟨_, hSo, rfl⟩
      refine Calls.call_function_entry F.kind_repr F.plain_repr F.entry_repr (F.args_repr1 _) ?_
      unfold Builtin.«repr»
      refine wpAny_bind (m := oneArg "repr" _) (wpAny_pure ?_)
      refine wpAny_bind (m := cRoomFor _ _) (wpAny_cRoomFor hr.in1.units0 ?_)
      refine wpAny_bind (wpAny_specialOf (name := Str.ofString "__repr__") hT F.slot_list_repr.lookup ?_)
      refine wpAny_bind (m := callSpecialIfBound? (.ref p) (Str.ofString "__repr__")) (wpAny_callSpecialIfBound?_slot (name := Str.ofString "__repr__") hT F.slot_list_repr
        (call_list_repr (ts := [reprV x, reprV y]) hT hg (fun v rest kw hm => by cases hm) hSo rfl rfl (fun i z hi => ?_) (fun h' u tk hk => ?_) hz))
      · match i, hi with
        | 0, hi => cases hi; exact ⟨_, rfl, repr_is r1 hx⟩
        | 1, hi => cases hi; exact ⟨_, rfl, repr_is r2 hy⟩
        | i + 2, hi => simp at hi
      · refine wpAny_bind (wpAny_isInstance (T := "str") (b := true) rfl isSubtype_str_str ?_)
        exact wpAny_pure ⟨_, rfl, .str _, H, I.kept (t' := tk) hk, ⟨_, rfl⟩, q⟩
end
/-! ### while no built-in's own loop is under way -/
def FnG (P : Program) (w : World) (K : PySem.W.Frag) (mg : Str → Option Value) (base : Heap) (k : Nat) (f : Addr) (sp : Sp) : Prop :=
  ∀ (A : Around) (outer : List Env) (s : Shared) (H : Hp) (us : List Value) (vs : List V) (Q : VK) (E : XK), A.guards = some [] → Room k A → Env0 P w K mg base A outer s H → Vals vs us → sp vs H Q E →
    codeAny (model P w) A (.call (.ref f) ⟨us, []⟩) (CR CX0 outer P w H s Q E) s
theorem fnG {P : Program} {w : World} {K : PySem.W.Frag} {mg : Str → Option Value} {base : Heap} {x qual : Str} {st : Stmt} {f : Addr} {N ps : List Str} {k : Nat} {sp : Sp} (F : ∃ fd, Fun K x qual st f fd) (S : FnScope N ps (defScope st))
    (hb : ∀ (kV doc pm : Value) (an : Option Addr) (cdv ct : Value) (us : List Value), us.length = ps.length → bindArgs (PySem.W.fnOf x qual (defArgs st) (defBody st) (defScope st) .none kV doc pm an cdv ct) ⟨us, []⟩ = pure (ps.zip us))
    (len : ∀ vs H Q E, sp vs H Q E → vs.length = ps.length)
    (hbody : ∀ (cdv : Value) (A : Around) (outer : List Env) (s : Shared) (H : Hp) (vs : List V) (Q : VK) (E : XK), (A.deeper (envOfC qual (defScope st) s.heap.objs.size f cdv)).guards = some [] → Room k (A.deeper (envOfC qual (defScope st) s.heap.objs.size f cdv)) → sp vs H Q E →
      ∃ t, PSs (cxOf CX0 P w K mg base N qual (defScope st) f cdv A outer s H E).nox (defBody st) t ∧ t { nx := fun _ H' => Q .non H', rt := Q } (start N vs) H) : FnG P w K mg base (k + 1) f sp := by
  obtain ⟨fd, F⟩ := F
  have B := F.binds hb
  obtain ⟨oc, od, kV, doc, pm, an, cdv, ct, osl, rfl, lk, hcd⟩ := F.ex
  intro A outer s H us vs Q E hgd hr e0 r hsp
  have hl := len _ _ _ _ hsp
  have KX : K.In s.heap := e0.mod.kin.keeps fun b o e => (e0.bs b o e).1
  have b1 := B s us KX (by rw [List.append_nil, ← r.length]; exact hl)
  rw [List.append_nil] at b1
  refine codeAny_call_function hr.depth (KX _ _ lk) rfl S.co S.gen rfl (PySem.W.codeRec_of KX hcd) (b1 _ _ _ _ ?_)
  refine wpAny_newFunctionEnv_cells S.kind (fun ⟨n, v⟩ hy => ?_) fun env he s1 x => ?_
  · rcases S.par n (List.of_mem_zip hy).1 with q | q
    · exact .inl q
    · exact .inr ⟨q, PySem.W.cellsFrom_some _ _ _ (.inl q)⟩
  subst he
  refine ⟨(e0.mod.nolimit.keeps fun b o e => (e0.bs b o e).1).keeps x.toInCall.keep, codeAny_func ?_⟩
  obtain ⟨t, ht, hq⟩ := hbody cdv A outer s H vs Q E hgd (hr.deeper _) hsp
  refine wpAny_mono (ht.nox.run [] s1 (start N vs) H _ (inv_start S hr.hd e0 hl r x) hq) (fun fl s' hs => ?_) fun e s' hs => hs
  cases fl with
  | ret u =>
    obtain ⟨v, σ', H', J, rv, q⟩ := hs
    exact ⟨v, H', J.os, J.bare, J.base, J.hok, rv, q⟩
  | next =>
    obtain ⟨σ', H', J, q⟩ := hs
    exact ⟨V.non, H', J.os, J.bare, J.base, J.hok, rfl, q⟩
  | brk =>
    obtain ⟨_, _, _, q⟩ := hs
    exact False.elim q
  | cont =>
    obtain ⟨_, _, _, q⟩ := hs
    exact False.elim q
section
variable {X : Cx} {k j : Nat} {f : Addr} {sp : Sp} {x : Str} {p pos : Pos} {e : Expr} {es : List Expr} {t : TA}
theorem pe_fG (F : FnG X.prog X.w X.K X.mg X.base k f sp) (hgd : X.A.guards = some []) (hr : Room j X.A) (hk : k ≤ j) (hg : Gl X x) (hm : X.mg x = some (.ref f)) (hkp : PySem.W.keepIn X.K (.ref f) = true) (ha : PA X (e :: es) t)
    (hdb : (x == ("__debug__" : Str)) = false := by decide) (he : starEach (e :: es) X.env = (false, eval e X.env) :: starEach es X.env := by rfl) (hpl : (backTo pos (starEach es X.env)).any (·.1) = false := by rfl) :
    PE X (.Call (.Name x p) (e :: es) [] pos) (tF sp t) := by
  refine ⟨fun pins s σ H Q I h => ?_⟩
  refine Call_ (ld_glob I hg hm ?_ hdb)
  refine PySem.W.callWith_K (h₀ := X.base) I.ok.mod.kin hkp (thn (ha.run pos pins s σ H _ I h) fun us s1 ⟨vs, H1, I1, r, q⟩ => ⟨I1.kIn, ?_⟩) he hpl
  refine wpAny_call (codeAny_mono (F X.A X.stack s1 H1 us vs Q E0 hgd (hr.mono hk) I1.env0 r q) fun r s' hq => ?_)
  cases r with
  | error e => exact (pass0 : Passes CX0 X E0) pins σ H1 s1 e s' I1 hq
  | ok fl =>
    cases fl with
    | ret u => exact I1.after hq
    | next => exact False.elim hq
    | brk => exact False.elim hq
    | cont => exact False.elim hq
end
end Wb

/-! _law_bent. -/
namespace Wb
open PySem PySem.Spec PyProof.Rows L2 SX TL
open C8 (pe_gc pss_cut tCut)
/-- how many blanks -/
theorem words_count (t : List Nat) : (words t).length = t.count 32 + 1 := by
  unfold words
  suffices ∀ (l : List Nat) (acc : List Nat), (TL.spl [32] 0 acc l).length = l.count 32 + 1 from this t []
  intro l
  induction l with
  | nil => intro acc; rw [TL.spl_nil]; rfl
  | cons c r ih =>
    intro acc
    by_cases hc : c = 32
    · subst hc
      rw [TL.spl_hit (by simp [TL.pre])]
      show (TL.spl [32] 0 [] r).length + 1 = _
      rw [ih, List.count_cons_self]
    · rw [TL.spl_miss (by simp [TL.pre, hc, Ne.symm hc]), ih, List.count_cons_of_ne (by simpa using hc)]
/-- what is put in -/
def signG : List (List Nat) := [[120], [94], [45], [43], [32], [48], [49], [50], [51], [32], [32, 43, 32], [32, 45, 32], [120, 94], [49], [121]]
theorem signG_ok : ∀ g ∈ signG, g.length ≤ 3 ∧ (∀ c ∈ g, c < 128) ∧ g.count 32 ≤ 2 := by decide
theorem signs_eq : signsOf (Str.ofString "x^-+ 0123 ") ++ [V.str (Str.ofString " + "), V.str (Str.ofString " - "), V.str (Str.ofString "x^"), V.str (Str.ofString "1"), V.str (Str.ofString "y")] = signG.map fun g => V.str (S g) := by rfl
/-- a text that may be read -/
structure TxtOk (n k : Nat) (t : List Nat) : Prop where
  len : t.length ≤ n
  asc : ∀ c ∈ t, c < 128
  sp : t.count 32 ≤ k
theorem TxtOk.app {a b : List Nat} {n k m j : Nat} (x : TxtOk n k a) (y : TxtOk m j b) : TxtOk (n + m) (k + j) (a ++ b) :=
  ⟨by rw [List.length_append]; exact Nat.add_le_add x.len y.len, fun c hc => (List.mem_append.mp hc).elim (x.asc c) (y.asc c), by rw [List.count_append]; exact Nat.add_le_add x.sp y.sp⟩
theorem TxtOk.cut {a : List Nat} {n k : Nat} (x : TxtOk n k a) (i j : Nat) (h : i ≤ j) : TxtOk n k (a.take i ++ a.drop j) := by
  have e : (a.take i ++ a.drop j).Sublist a := by
    have h1 : (a.drop j).Sublist (a.drop i) := by
      have : a.drop j = (a.drop i).drop (j - i) := by rw [List.drop_drop]; congr 1; omega
      rw [this]
      exact List.drop_sublist _ _
    have h2 := (List.Sublist.refl (a.take i)).append h1
    rw [List.take_append_drop] at h2
    exact h2
  exact ⟨Nat.le_trans e.length_le x.len, fun c hc => x.asc c (e.mem hc), Nat.le_trans (e.count_le _) x.sp⟩
theorem TxtOk.perm {a b : List Nat} {n k : Nat} (x : TxtOk n k a) (h : a.Perm b) : TxtOk n k b := ⟨by rw [← h.length_eq]; exact x.len, fun c hc => x.asc c (h.mem_iff.mpr hc), by rw [← h.count_eq]; exact x.sp⟩
theorem TxtOk.mono {a : List Nat} {n k m j : Nat} (x : TxtOk n k a) (h : n ≤ m) (h' : k ≤ j) : TxtOk m j a := ⟨Nat.le_trans x.len h, x.asc, Nat.le_trans x.sp h'⟩
section
variable {P : Program} {w : World} {K : PySem.W.Frag} {mg : Str → Option Value} {base : Heap} {A : Ad} {X : Cx}
def spBent : Sp := fun vs H Q _ => ∃ (dd : Addr) (t : List Nat), vs = [.ref dd, .str (S t)] ∧ DiceAt H dd ∧ TxtOk 1000 20 t ∧ ∀ u H', DiceAt H' dd → (∀ b o, H b = some o → b ≠ dd → H' b = some o) → TxtOk 2000 30 u → Q (.str (S u)) H'
theorem c_law_bent (T : Txt K mg A) : FnR P w K mg base CX0 3 A._law_bent spBent := by
  refine fnr T.d__law_bent sc_law_bent (fun _ _ _ _ _ _ us hl => match us, hl with | [_, _], _ => rfl) (fun vs H Q E h => by obtain ⟨_, _, rfl, _⟩ := h; rfl) (fun fd cdv A' outer s H vs Q E hr h => ?_)
  obtain ⟨dd, t, rfl, hD, ht, q⟩ := h
  refine ⟨_, (pss_cons (ps_par rfl sc_law_bent.nd (i := 2) (j := 3) rfl rfl (by decide) rfl rfl (pa_cons (pe_f (c_law_roll T) hr (by decide) (by rfl) T.g__law_roll T.k__law_roll (pa_cons (pv 0) (pa_cons (pe_op op_add (pe_callB call_len_str (by rfl) T.f_len (by decide +kernel) (pa_cons (pv 1) pa_nil)) pe_int) pa_nil))) (pa_cons (pe_f (c_law_roll T) hr (by decide) (by rfl) T.g__law_roll T.k__law_roll (pa_cons (pv 0) (pa_cons pe_int pa_nil))) pa_nil)) (by rfl))
    (pss_cons (ps_set (i := 4) sc_law_bent.nd rfl (Or.inl rfl) (pe_f (c_law_pick T) hr (by decide) (by rfl) T.g__law_pick T.k__law_pick (pa_cons (pv 0) (pa_cons (pe_op op_cat (pe_callTy (call_listS rfl) (by rfl) T.f_list (by decide +kernel) (pa_cons pe_str pa_nil)) (pe_lst (pa_cons pe_str (pa_cons pe_str (pa_cons pe_str (pa_cons pe_str (pa_cons pe_str pa_nil))))))) pa_nil))))
    (pss_cons (ps_if (pt_cmpR op_eq (pv 3) pe_int (nomark _))
      (pss_one (ps_ret (pe_op op_add_str (pe_slice sl_str (pv 1) po_none (po_some (pv 2))) (pe_slice sl_str (pv 1) (po_some (pe_op op_add (pv 2) pe_int)) po_none))))
      pss_nil)
    (pss_cons (ps_if (pt_cmpR op_eq (pv 3) pe_int (nomark _))
      (pss_one (ps_ret (pe_op op_add_str (pe_op op_add_str (pe_slice sl_str (pv 1) po_none (po_some (pv 2))) (pv 4)) (pe_slice sl_str (pv 1) (po_some (pv 2)) po_none))))
      pss_nil)
    (pss_cons (ps_if (pt_cmpR op_eq (pv 3) pe_int (nomark _))
      (pss_one (ps_ret (pe_op op_add_str (pe_op op_add_str (pe_slice sl_str (pv 1) po_none (po_some (pv 2))) (pv 4)) (pe_slice sl_str (pv 1) (po_some (pe_op op_add (pv 2) pe_int)) po_none))))
      pss_nil)
    (pss_one (ps_ret (pe_ifExp (pt_cmpR op_eq (pv 3) pe_int (nomark _)) (pe_op op_add_str (pv 1) (pv 4)) (pe_op op_add_str (pv 4) (pv 1)))))))))), ?_⟩
  have hz : (S t).length ≤ sizeLine := by rw [S_len]; exact len_small (by have := ht.len; omega)
  have htl := ht.len
  refine ⟨_, rfl, _, rfl, _, rfl, hz, _, _, rfl, rfl, dd, _, rfl, hD, ?_, ?_, fun at_ H1 a0 a1 hD1 k1 => ?_⟩
  · rw [S_len]; omega
  · rw [S_len]; exact Int.lt_of_le_of_lt (show ((t.length : Nat) : Int) + 1 ≤ 1001 by omega) (by decide +kernel)
  refine ⟨_, rfl, dd, _, rfl, hD1, by decide, by decide +kernel, fun way H2 w0 w1 hD2 k2 => ⟨_, _, rfl, ?_⟩⟩
  rw [S_len] at a1
  obtain ⟨i, rfl⟩ : ∃ i : Nat, at_ = (i : Int) := ⟨at_.toNat, by omega⟩
  have hil : i ≤ t.length := by omega
  have k02 : ∀ b, b ≠ dd → H2 b = H b := fun b hb => (k2 b hb).trans (k1 b hb)
  obtain ⟨l2, sd2, c2, hdd2, _⟩ := id hD2
  refine ⟨_, rfl, _, rfl, by decide +kernel, fun p hp => ⟨by show 5 ≤ sizeLine; decide, fun p2 hp2 => ⟨p, p2, signsOf (Str.ofString "x^-+ 0123 "), _, rfl, rfl, ?_, upd_same, by decide +kernel, fun p3 hp3 => ?_⟩⟩⟩
  · rw [upd_ne (ne_of_none upd_same hp2)]
    exact upd_same
  have s3 : Same H2 (upd (upd (upd H2 p (.lst (signsOf (Str.ofString "x^-+ 0123 ")))) p2 (.lst [V.str (Str.ofString " + "), V.str (Str.ofString " - "), V.str (Str.ofString "x^"), V.str (Str.ofString "1"), V.str (Str.ofString "y")])) p3 (.lst (signsOf (Str.ofString "x^-+ 0123 ") ++ [V.str (Str.ofString " + "), V.str (Str.ofString " - "), V.str (Str.ofString "x^"), V.str (Str.ofString "1"), V.str (Str.ofString "y")]))) :=
    ((same_new hp).trans (same_new hp2)).trans (same_new hp3)
  have hp3' : H2 p3 = none := ((same_new hp).trans (same_new hp2)).free hp3
  refine ⟨dd, p3, _, rfl, ⟨l2, sd2, c2, s3 _ _ hdd2, by assumption⟩, upd_same, fun z => (by rw [z, hdd2] at hp3'; cases hp3'), by rw [signs_eq]; decide, by rw [signs_eq]; decide, fun v H3 hv hD3 k3 => ?_⟩
  rw [signs_eq] at hv
  obtain ⟨g, hg, rfl⟩ := List.mem_map.mp hv
  obtain ⟨g1, g2, g3⟩ := signG_ok g hg
  have hgt : TxtOk 3 2 g := ⟨g1, g2, g3⟩
  have hgz : (S g).length ≤ 3 := by rw [S_len]; exact g1
  have k03 : ∀ b o, H b = some o → b ≠ dd → H3 b = some o := fun b o e hb => by
    rw [k3 b hb]
    exact s3 _ _ (by rw [k02 b hb]; exact e)
  have q' := fun u hu => q u H3 hD3 k03 hu
  clear q
  have c1 : cutS (S t) none (some (i : Int)) = S (t.take i) := cut_to (by omega)
  have c2 : cutS (S t) (some ((i : Int) + 1)) none = S (t.drop (i + 1)) := cut_from (by omega)
  have c3 : cutS (S t) (some (i : Int)) none = S (t.drop i) := cut_from (by omega)
  have l1 : (t.take i).length ≤ 1000 := by rw [List.length_take]; omega
  have l2' : ∀ j, (t.drop j).length ≤ 1000 := fun j => by rw [List.length_drop]; omega
  refine ⟨_, rfl, rfl, _, rfl, ite2 (fun h => ?_) (fun h => ?_)⟩
  · refine ⟨_, rfl, _, rfl, _, rfl, _, rfl, hz, _, rfl, _, rfl, _, _, rfl, rfl, _, rfl, _, rfl, hz, _, _, rfl, rfl, ?_, ?_⟩
    · rw [c1, c2, S_len, S_len]; exact len_small (by have := l2' (i + 1); omega)
    · rw [c1, c2, S_cat]
      exact q' _ ((ht.cut i (i + 1) (Nat.le_succ _)).mono (by omega) (by omega))
  refine ⟨_, rfl, rfl, _, rfl, ite2 (fun h => ?_) (fun h => ?_)⟩
  · refine ⟨_, rfl, _, rfl, _, rfl, _, rfl, hz, _, rfl, _, _, rfl, rfl, ?_, _, rfl, _, rfl, _, rfl, _, rfl, hz, _, _, rfl, rfl, ?_, ?_⟩
    · rw [c1, S_len]; exact len_small (by omega)
    · rw [c1, c3, S_cat, S_len, S_len, List.length_append]; exact len_small (by have := l2' i; omega)
    · rw [c1, c3, S_cat, S_cat]
      refine q' _ (TxtOk.perm (a := g ++ (t.take i ++ t.drop i)) ((hgt.app (ht.cut i i (Nat.le_refl _))).mono (by omega) (by omega)) ?_)
      rw [List.append_assoc]
      exact List.perm_append_comm_assoc _ _ _
  refine ⟨_, rfl, rfl, _, rfl, ite2 (fun h => ?_) (fun h => ?_)⟩
  · refine ⟨_, rfl, _, rfl, _, rfl, _, rfl, hz, _, rfl, _, _, rfl, rfl, ?_, _, rfl, _, rfl, _, _, rfl, rfl, _, rfl, _, rfl, hz, _, _, rfl, rfl, ?_, ?_⟩
    · rw [c1, S_len]; exact len_small (by omega)
    · rw [c1, c2, S_cat, S_len, S_len, List.length_append]; exact len_small (by have := l2' (i + 1); omega)
    · rw [c1, c2, S_cat, S_cat]
      refine q' _ (TxtOk.perm (a := g ++ (t.take i ++ t.drop (i + 1))) ((hgt.app (ht.cut i (i + 1) (Nat.le_succ _))).mono (by omega) (by omega)) ?_)
      rw [List.append_assoc]
      exact List.perm_append_comm_assoc _ _ _
  refine ⟨_, rfl, rfl, _, rfl, ite2 (fun h => ?_) (fun h => ?_)⟩
  · refine ⟨_, rfl, _, rfl, _, _, rfl, rfl, ?_, ?_⟩
    · rw [S_len, S_len]; exact len_small (by omega)
    · rw [S_cat]
      exact q' _ ((ht.app hgt).mono (by omega) (by omega))
  · refine ⟨_, rfl, _, rfl, _, _, rfl, rfl, ?_, ?_⟩
    · rw [S_len, S_len]; exact len_small (by omega)
    · rw [S_cat]
      exact q' _ ((hgt.app ht).mono (by omega) (by omega))
end
end Wb

/-! _law_told_right. -/
namespace Wb
open PySem PySem.Spec PyProof.Rows L2 SX TL
open C8 (pe_gc pss_cut tCut)
/-- all but the dice stands -/
def But (dd : Addr) (H H' : Hp) : Prop := ∀ b o, H b = some o → b ≠ dd → H' b = some o
theorem But.of {dd : Addr} {H H' : Hp} (s : Same H H') : But dd H H' := fun b o e _ => s b o e
theorem But.trans {dd : Addr} {H H1 H2 : Hp} (x : But dd H H1) (y : But dd H1 H2) : But dd H H2 := fun b o e n => y b o (x b o e n) n
theorem But.eq {dd : Addr} {H H' : Hp} (x : ∀ b, b ≠ dd → H' b = H b) : But dd H H' := fun b o e n => by rw [x b n]; exact e
theorem But.at {dd : Addr} {H H' : Hp} (x : But dd H H') (D : DiceAt H dd) {b : Addr} {o : HO} (h : H b = some o) (n : ∀ xs, o ≠ .lst xs) : H' b = some o := x b o h fun z => by
  obtain ⟨l, sd, c, hd, _⟩ := D
  rw [z, hd] at h
  exact n _ (Option.some.inj h).symm
theorem DiceAt.same {dd : Addr} {H H' : Hp} (D : DiceAt H dd) (s : Same H H') : DiceAt H' dd := by
  obtain ⟨l, sd, c, hd, r⟩ := D
  exact ⟨l, sd, c, s _ _ hd, r⟩
theorem RowAt.but {A : Ad} {dd a : Addr} {H H' : Hp} {r : Rw} (h : RowAt A H a r) (D : DiceAt H dd) (x : But dd H H') : RowAt A H' a r := by
  obtain ⟨d, dx, h1, h2⟩ := h
  refine ⟨d, dx, ?_, x.at D h2 fun _ z => nomatch z⟩
  rcases h1 with ⟨e1, e2⟩ | ⟨e1, e2⟩
  · exact .inl ⟨x.at D e1 (fun _ z => nomatch z), e2⟩
  · exact .inr ⟨x.at D e1 (fun _ z => by unfold SlX.SlO at z; cases z), x.at D e2 fun _ z => nomatch z⟩
theorem small_of {i : Int} (h : i.natAbs < 10 ^ 70) : i.natAbs.log2 < 1920 := by
  by_cases h0 : i.natAbs = 0
  · rw [h0]; decide
  · have h1 := Nat.log2_self_le h0
    refine (Nat.pow_lt_pow_iff_right (a := 2) (by decide)).mp (Nat.lt_of_le_of_lt h1 (Nat.lt_trans h ?_))
    decide +kernel
theorem smallI {i : Int} (h : i.natAbs < 10 ^ 70) : SmallV (.int i) := .inr ⟨i, rfl, small_of h⟩
theorem lo_hi {r : Rw} (h : r ≠ []) : ∃ lo hi, loI r = some lo ∧ hiI r = some hi ∧ lo ∈ exps r ∧ hi ∈ exps r ∧ atI ((exps r).map V.int) 0 = some (.int lo) ∧ atI ((exps r).map V.int) (-1) = some (.int hi) := by
  have e1 : r = r.dropLast ++ [r.getLast h] := (List.dropLast_concat_getLast h).symm
  have h1 : hiI r = some (r.getLast h).1 := by unfold hiI; rw [List.getLast?_eq_getLast h]; rfl
  have m1 : (r.getLast h).1 ∈ exps r := List.mem_map.mpr ⟨_, List.getLast_mem h, rfl⟩
  have a1 : atI ((exps r).map V.int) (-1) = some (.int (r.getLast h).1) := by
    have : (exps r).map V.int = (exps r.dropLast).map V.int ++ [.int (r.getLast h).1] := by
      rw [← List.map_singleton (f := V.int), ← List.map_append]
      congr 1
      unfold exps
      rw [← List.map_singleton (f := fun p : Int × Int => p.1), ← List.map_append, ← e1]
    rw [this]
    exact atI_last _ _
  cases r with
  | nil => exact absurd rfl h
  | cons p t => exact ⟨p.1, _, rfl, h1, List.mem_cons_self .., m1, atI_nat (j := 0) rfl, a1⟩
theorem exps_le {r : Rw} (h : ∀ p ∈ r, p.1.natAbs ≤ 10000) {e : Int} (m : e ∈ exps r) : e.natAbs ≤ 10000 := by
  obtain ⟨p, hp, rfl⟩ := List.mem_map.mp m
  exact h p hp
theorem small_opt {o : Option Int} (h : ∀ e, o = some e → e.natAbs ≤ 30000) : SmallV (optI o) := by
  cases o with
  | none => exact .inl rfl
  | some e => exact smallI (Nat.lt_of_le_of_lt (h e rfl) (by decide))
theorem reprV_len {o : Option Int} (h : ∀ e, o = some e → e.natAbs ≤ 10000) : (reprV (optI o)).length ≤ 6 := by
  cases o with
  | none => decide
  | some e =>
    show (toString e : Str).length ≤ 6
    rw [ts_int, S_len]
    exact intT_len (h e rfl)
theorem two_len {x y : Str} (hx : x.length ≤ 6) (hy : y.length ≤ 6) : (listText [x, y]).length ≤ sizeLine := by
  have e : (listText [x, y]).length = x.length + y.length + 4 := by
    unfold listText
    show ((("[" ++ ("" : Str)) ++ x) ++ (", " : Str) ++ y ++ ("]" : Str) : Str).length = _
    simp only [Str.length_append]
    have e1 : ("[" : Str).length = 1 := by decide
    have e2 : (("" : Str)).length = 0 := by decide
    have e3 : (", " : Str).length = 2 := by decide
    have e4 : ("]" : Str).length = 1 := by decide
    omega
  rw [e]
  exact len_small (by omega)
theorem valI_small {r : Rw} (hd : Drawn r) (e : Int) : (valI r e).natAbs < 10 ^ 22 := by
  unfold valI
  cases h : r.find? fun p => decide (p.1 = e) with
  | none => decide
  | some p => exact hd.num p (List.mem_of_find?_eq_some h)
theorem putI_key {d : Rw} {e v : Int} {p : Int × Int} (h : p ∈ putI d e v) (he : p.1 = e) : p.2 = v := by
  unfold putI at h
  split at h
  · obtain ⟨q, hq, e1⟩ := List.mem_map.mp h
    by_cases hqe : q.1 = e
    · rw [if_pos hqe] at e1
      rw [← e1]
    · rw [if_neg hqe] at e1
      rw [e1] at hqe
      exact absurd he hqe
  · rename_i hn
    rcases List.mem_append.mp h with m | m
    · exact absurd (List.any_eq_true.mpr ⟨p, m, decide_eq_true he⟩) hn
    · rw [List.mem_singleton.mp m]
theorem putI_has (d : Rw) (e v : Int) : (e, v) ∈ putI d e v := by
  unfold putI
  split
  · rename_i h
    obtain ⟨q, hq, he⟩ := List.any_eq_true.mp h
    exact List.mem_map.mpr ⟨q, hq, by rw [if_pos (of_decide_eq_true he), of_decide_eq_true he]⟩
  · exact List.mem_append_right _ (List.mem_singleton.mpr rfl)
theorem put_other {r q : Rw} {e : Int} (hr : Drawn r) (h : Srt (putI r e (valI r e + 1)) q) : r ≠ q := by
  rintro rfl
  by_cases h0 : valI r e + 1 = 0
  · have hv : valI r e = -1 := by omega
    have hf : ∃ p, r.find? (fun p => decide (p.1 = e)) = some p := by
      cases hx : r.find? fun p => decide (p.1 = e) with
      | some p => exact ⟨p, rfl⟩
      | none => unfold valI at hv; rw [hx] at hv; simp at hv
    obtain ⟨p, hp⟩ := hf
    have hpm := List.mem_of_find?_eq_some hp
    have hpe : p.1 = e := by simpa using List.find?_some hp
    have := putI_key ((h.mem p).mp hpm).1 hpe
    rw [h0] at this
    exact hr.ne0 p hpm this
  · have hm := (h.mem (e, valI r e + 1)).mpr ⟨putI_has _ _ _, h0⟩
    have := valI_mem (asc_nd hr.asc) hm
    have hv : valI r e = valI r e + 1 := by
      conv => lhs; unfold valI
      rw [this]
      rfl
    omega
theorem put_ok {r q : Rw} {e : Int} (hr : Drawn r) (he : e.natAbs ≤ 10000) (h : Srt (putI r e (valI r e + 1)) q) : okB q = true := List.all_eq_true.mpr fun p hp => by
  obtain ⟨h1, h2⟩ := (h.mem p).mp hp
  have := valI_small hr e
  have z : p.1.natAbs ≤ 10000 ∧ p.2.natAbs < 10 ^ 60 := by
    rcases putI_mem h1 with e1 | m
    · rw [e1]
      exact ⟨he, by
        show (valI r e + 1).natAbs < 10 ^ 60
        omega⟩
    · exact ⟨hr.ex p m, Nat.lt_trans (hr.num p m) (by decide)⟩
  simp only [Bool.and_eq_true, decide_eq_true_eq]
  exact ⟨z.1, z.2, h2⟩
theorem Paired.rev {α β : Type} {F : α → β → Prop} : ∀ {xs : List α} {ys : List β}, PySem.Paired F xs ys → PySem.Paired F xs.reverse ys.reverse
  | _, _, .nil => .nil
  | _, _, .cons h t => by
    rw [List.reverse_cons, List.reverse_cons]
    exact Paired.append (Paired.rev t) (.cons h .nil)
section
variable {P : Program} {w : World} {K : PySem.W.Frag} {mg : Str → Option Value} {base : Heap} {A : Ad} {X : Cx}
theorem pe_low {n : Nat} {e : Expr} {ta : TE} {pos : Pos} (T : Txt X.K X.mg A) (hr : Room n X.A) (hk : 2 ≤ n) (he : PE X e ta) (hb : attributeBase e "low" X.env (eval e X.env) = eval e X.env := by rfl) : PE X (.Attribute e "low" pos) (SlX.tPropSl A.Row (spLow A) E0 ta) :=
  SlX.pe_propSl he T.scls T.a_low T.b_low T.t_low T.r_low (c_low T) (hr.mono hk) (fun _ _ _ _ h => h) hb
theorem pe_high {n : Nat} {e : Expr} {ta : TE} {pos : Pos} (T : Txt X.K X.mg A) (hr : Room n X.A) (hk : 2 ≤ n) (he : PE X e ta) (hb : attributeBase e "high" X.env (eval e X.env) = eval e X.env := by rfl) : PE X (.Attribute e "high" pos) (SlX.tPropSl A.Row (spHigh A) E0 ta) :=
  SlX.pe_propSl he T.scls T.a_high T.b_high T.t_high T.r_high (c_high T) (hr.mono hk) (fun _ _ _ _ h => h) hb
theorem pe_span {n : Nat} {e : Expr} {ta : TE} {pos : Pos} (T : Txt X.K X.mg A) (hr : Room n X.A) (hk : 2 ≤ n) (he : PE X e ta) (hb : attributeBase e "span" X.env (eval e X.env) = eval e X.env := by rfl) : PE X (.Attribute e "span" pos) (SlX.tPropSl A.Row (spSpan A) E0 ta) :=
  SlX.pe_propSl he T.scls T.a_span T.b_span T.t_span T.r_span (c_span T) (hr.mono hk) (fun _ _ _ _ h => h) hb
def spTold (A : Ad) : Sp := fun vs H Q _ => ∃ (dd d a : Addr) (r : Rw), vs = [.ref dd, .ref d, .ref a] ∧ DiceAt H dd ∧ H d = some (.dK (kvI r)) ∧ Drawn r ∧ RowAt A H a r ∧ ∀ H', DiceAt H' dd → But dd H H' → Q (.bl true) H'
theorem c_law_told_right (T : Txt K mg A) : FnG P w K mg base 8 A._law_told_right (spTold A) := by
  refine fnG T.d__law_told_right sc_law_told_right (fun _ _ _ _ _ _ us hl => match us, hl with | [_, _, _], _ => rfl) (fun vs H Q E h => by obtain ⟨_, _, _, _, rfl, _⟩ := h; rfl) (fun cdv A' outer s H vs Q E hgd hr h => ?_)
  obtain ⟨dd, d, a, r, rfl, hD, hd, hdr, ha, q⟩ := h
  have hu := hu_of hr
  refine ⟨_, (pss_cons (ps_set (i := 3) sc_law_told_right.nd rfl (Or.inl rfl) (pe_callTy (call_listD rfl) (by rfl) T.f_list (by decide +kernel) (pa_cons (pv 1) pa_nil)))
    (pss_cut (ps_asg (pe_ifExp (pt_cmpR (op_neI hr.units0) (pv 1) pe_dnewK (nomark _)) (pe_tup (pa_cons (pe_ix ix_list (pv 3) pe_int (fun _ _ => rfl)) (pa_cons (pe_ix ix_list (pv 3) (pe_un un_neg pe_int) (fun _ _ => rfl)) pa_nil))) (pe_tup (pa_cons pe_non (pa_cons pe_non pa_nil)))) (pg_tup rfl (pgs_cons (pg_name (i := 4) sc_law_told_right.nd rfl (Or.inl rfl)) (pgs_cons (pg_name (i := 5) sc_law_told_right.nd rfl (Or.inl rfl)) pgs_nil))))
    (pss_cut (ps_set (i := 6) sc_law_told_right.nd rfl (Or.inl rfl) (pe_ifExp (pt_cmpR (op_eqI hr.units0) (pv 1) pe_dnewK (nomark _)) pe_non (pe_op op_sub (pv 5) (pv 4))))
    (pss_cons (ps_if (PW.pt (pw_or (pt_not (pt_val (pe_f (c_law_is_row T) hr (by decide) (by rfl) T.g__law_is_row T.k__law_is_row (pa_cons (pv 2) (pa_cons (pv 1) pa_nil))))) (pw_or (pt_cmpR op_ne (pe_callB (call_reprL hgd hr) (by rfl) T.f_repr (by decide +kernel) (pa_cons (pe_lst (pa_cons (pe_low T hr (by decide) (pv 2)) (pa_cons (pe_high T hr (by decide) (pv 2)) pa_nil))) pa_nil)) (pe_callB (call_reprL hgd hr) (by rfl) T.f_repr (by decide +kernel) (pa_cons (pe_lst (pa_cons (pv 4) (pa_cons (pv 5) pa_nil))) pa_nil)) (nomark _)) (pw_or1 (pt_cmpR op_ne (pe_callB call_repr1 (by rfl) T.f_repr (by decide +kernel) (pa_cons (pe_span T hr (by decide) (pv 2)) pa_nil)) (pe_callB call_repr1 (by rfl) T.f_repr (by decide +kernel) (pa_cons (pv 6) pa_nil)) (nomark _))))))
      (pss_one (ps_ret pe_bl))
      pss_nil)
    (pss_cons (ps_if (PW.pt (pw_or (pt_cmpR (op_neD hr.units) (pe_lock (pe_listRow rfl T hr (by decide) (pv 2) (by rfl))) (LiI.pe_listItems rfl (pv 1) (by rfl) T.f_list (by decide +kernel)) (nomark _)) (pw_or (pt_cmpR op_ne (pe_callB (call_lenO T.m_len T.i_len (c_len T) (hr.mono (by decide))) (by rfl) T.f_len (by decide +kernel) (pa_cons (pv 2) pa_nil)) (pe_callB call_lenD (by rfl) T.f_len (by decide +kernel) (pa_cons (pv 1) pa_nil)) (nomark _)) (pw_or1 (pt_cmpR op_ne (pe_callTy (call_strO T.m_str T.i_str (c_str T) (hr.mono (by decide))) (by rfl) T.f_str (by decide +kernel) (pa_cons (pv 2) pa_nil)) (pe_f (c_law_row_text T) hr (by decide) (by rfl) T.g__law_row_text T.k__law_row_text (pa_cons (pv 1) pa_nil)) (nomark _))))))
      (pss_one (ps_ret pe_bl))
      pss_nil)
    (pss_cons (ps_set (i := 7) sc_law_told_right.nd rfl (Or.inl rfl) (pe_op op_cat (pv 3) (pe_lst (pa_cons (pe_op op_sub (pe_f (c_law_roll T) hr (by decide) (by rfl) T.g__law_roll T.k__law_roll (pa_cons (pv 0) (pa_cons pe_int pa_nil))) pe_int) (pa_cons (pe_op op_pow pe_int pe_int) (pa_cons (pe_un un_neg (pe_op op_pow pe_int pe_int)) pa_nil))))))
    (pss_cons (ps_if (pt_cmpR (op_neD hr.units) (pe_lc (own := [("_law_one", 10)]) rfl sc_law_told_right.nd (pi_list (pv 7)) (blkOk_by (own := [("_law_one", 10)]) (N := ["_law_dice_here", "_law_terms", "_law_row_here", "_law_exponents", "_law_low", "_law_high", "_law_span", "_law_some", "_law_odd", "_law_other", "_law_one", "_law_value"]) (sc := defScope s_law_told_right) (by decide +kernel)) (fun _ _ _ _ _ => (pg_name (i := 10) sc_law_told_right.nd rfl (Or.inl rfl))) (fun _ _ _ _ _ => (pts_one (PW.pt (pw_or (pt_cmpR op_ne (pe_callB call_repr1 (by rfl) T.f_repr (by decide +kernel) (pa_cons (pe_itemO T.m_getitem T.i_getitem T.fi_getitem (c_getitem T) (hr.mono (by decide)) (pv 2) (pv 10)) pa_nil)) (pe_callB call_repr1 (by rfl) T.f_repr (by decide +kernel) (pa_cons (pe_dget2 hu (pv 1) (pv 10) pe_int ⟨rfl, rfl, rfl, rfl⟩) pa_nil)) (nomark _)) (pw_or1 (pt_cmpR op_ne (pe_cmpR (op_inO T.m_contains T.i_contains (c_contains T) (hr.mono (by decide))) (pv 10) (pv 2) (by with_unfolding_all rfl)) (pe_cmp (pc_din hu (pv 10) (pv 1))) (nomark _))))))) (fun _ _ _ _ _ => (pv 10))) (pe_lst pa_nil) (nomark _))
      (pss_one (ps_ret pe_bl))
      pss_nil)
    (pss_cut (ps_set (i := 8) sc_law_told_right.nd rfl (Or.inl rfl) (pe_lst (pa_cons pe_bl (pa_cons pe_non (pa_cons pe_str (pa_cons (pe_tup pa_nil) (pa_cons (pe_lst pa_nil) (pa_cons pe_dnewK (pa_cons (pv 2) (pa_cons (pe_ifExp (pt_cmpR (op_neD hr.units) (pv 3) (pe_lst pa_nil) (nomark _)) (pe_callTy call_str_int (by rfl) T.f_str (by decide +kernel) (pa_cons (pe_ix ix_list (pv 3) pe_int (fun _ _ => rfl)) pa_nil)) pe_str) (pa_cons (pe_op op_pow pe_int pe_int) pa_nil)))))))))))
    (pss_cons (ps_if (pt_cmpR (op_neD hr.units) (pe_lc (own := [("_law_value", 11)]) rfl sc_law_told_right.nd (pi_list (pv 8)) (blkOk_by (own := [("_law_value", 11)]) (N := ["_law_dice_here", "_law_terms", "_law_row_here", "_law_exponents", "_law_low", "_law_high", "_law_span", "_law_some", "_law_odd", "_law_other", "_law_one", "_law_value"]) (sc := defScope s_law_told_right) (by decide +kernel)) (fun _ _ _ _ _ => (pg_name (i := 11) sc_law_told_right.nd rfl (Or.inl rfl))) (fun _ _ _ _ _ => (pts_one (pt_cmpR (op_inO T.m_contains T.i_contains (c_contains T) (hr.mono (by decide))) (pv 11) (pv 2) (by with_unfolding_all rfl)))) (fun _ _ _ _ _ => (pv 11))) (pe_lst pa_nil) (nomark _))
      (pss_one (ps_ret pe_bl))
      pss_nil)
    (pss_cons (ps_set (i := 9) sc_law_told_right.nd rfl (Or.inl rfl) (pe_f (c_law_added T) hr (by decide) (by rfl) T.g__law_added T.k__law_added (pa_cons (pv 1) (pa_cons (pe_disp (pps_cons (pe_op op_sub (pe_f (c_law_roll T) hr (by decide) (by rfl) T.g__law_roll T.k__law_roll (pa_cons (pv 0) (pa_cons pe_int pa_nil))) pe_int) pe_int pps_nil) (by rfl) (by rfl) (fun z => by cases z) (by decide)) (pa_cons pe_int pa_nil)))))
    (pss_one (ps_ret (pe_and (pe_cmpR (op_eqO T.m_eq T.i_eq (c_eq T) (hr.mono (by decide))) (pv 2) (pe_row T hr (by decide) (by rfl) (pa_cons (pe_callTy (call_dictP rfl) (by rfl) T.f_dict (by decide +kernel) (pa_cons (pe_revL (LiI.pe_listItems rfl (pv 1) (by rfl) T.f_list (by decide +kernel))) pa_nil)) pa_nil)) (nomark _)) (pe_and (pe_cmpR (op_neO T.mne T.sisi.cm T.m_eq T.i_eq (c_eq T) (hr.mono (by decide))) (pv 2) (pe_row T hr (by decide) (by rfl) (pa_cons (pv 9) pa_nil)) (nomark _)) (pe_and (pe_cmpR (op_neO T.mne T.sisi.cm T.m_eq T.i_eq (c_eq T) (hr.mono (by decide))) (pv 2) (pv 1) (nomark _)) (pe_one (pe_cmpR (op_neO T.mne T.sisi.cm T.m_eq T.i_eq (c_eq T) (hr.mono (by decide))) (pv 2) (pe_callTy (call_strO T.m_str T.i_str (c_str T) (hr.mono (by decide))) (by rfl) T.f_str (by decide +kernel) (pa_cons (pv 2) pa_nil)) (nomark _)))))))))))))))))), ?_⟩
  have hasc := hdr.asc
  have hnd := asc_nd hasc
  have hrl := hdr.len
  have hbd : Bd r := ⟨hdr.ex, fun p hp => Nat.lt_trans (hdr.num p hp) (by decide)⟩
  refine ⟨_, rfl, d, kvI r, rfl, .inl hd, fun pe hpe => ?_⟩
  have hpd : pe ≠ dd := fun e => by
    obtain ⟨_, _, _, hx, _⟩ := hD
    rw [e, hx] at hpe
    cases hpe
  have hE0 : (upd H pe (.lst ((kvI r).map fun kv => kV kv.1))) pe = some (.lst ((exps r).map V.int)) := by rw [upd_same]; unfold kvI; rw [List.map_map, List.map_map]; rfl
  have s1 : Same H (upd H pe (.lst ((kvI r).map fun kv => kV kv.1))) := same_new hpe
  generalize upd H pe (.lst ((kvI r).map fun kv => kV kv.1)) = H1 at hE0 s1
  have hd1 := s1 _ _ hd
  refine ⟨fun σ' H' => σ' = [some (.ref dd), some (.ref d), some (.ref a), some (.ref pe), some (optI (loI r)), some (optI (hiI r)), none, none, none, none, none, none] ∧ Same H1 H', ?_, ?_⟩
  · refine ⟨_, rfl, fun dn hdn => ?_⟩
    refine ⟨d, dn, r, [], rfl, rfl, (same_new hdn) _ _ hd1, upd_same, hasc, List.Pairwise.nil, ?_⟩
    have s1d : Same H1 (upd H1 dn (.dK [])) := same_new hdn
    generalize (upd H1 dn (.dK [])) = Hd at s1d
    refine ⟨_, rfl, ite2 (fun h => ?_) (fun h => ?_)⟩
    · have hne : r ≠ [] := by simpa using h
      obtain ⟨lo, hi, e1, e2, _, _, e3, e4⟩ := lo_hi hne
      rw [e1, e2]
      refine ⟨_, rfl, pe, _, 0, _, rfl, rfl, SqL.of (s1d _ _ hE0), e3, _, rfl, _, rfl, pe, _, _, _, rfl, rfl, SqL.of (s1d _ _ hE0), e4, by show 2 ≤ sizeLine; decide, fun tp htp => ?_⟩
      exact ⟨tp, _, rfl, SqT.of upd_same, rfl, _, _, rfl, _, _, rfl, rfl, rfl, s1d.trans (same_new htp)⟩
    · have hne : r = [] := by simpa using h
      rw [hne]
      refine ⟨by show 2 ≤ sizeLine; decide, fun tp htp => ?_⟩
      exact ⟨tp, _, rfl, SqT.of upd_same, rfl, _, _, rfl, _, _, rfl, rfl, rfl, s1d.trans (same_new htp)⟩
  rintro σ' H2 ⟨rfl, s2⟩
  refine ⟨fun σ' H' => σ' = [some (.ref dd), some (.ref d), some (.ref a), some (.ref pe), some (optI (loI r)), some (optI (hiI r)), some (optI (spanI r)), none, none, none, none, none] ∧ Same H1 H', ?_, ?_⟩
  · refine ⟨_, rfl, fun dn hdn => ?_⟩
    refine ⟨d, dn, r, [], rfl, rfl, (same_new hdn) _ _ (s2 _ _ hd1), upd_same, hasc, List.Pairwise.nil, ?_⟩
    have s1d : Same H2 (upd H2 dn (.dK [])) := same_new hdn
    generalize (upd H2 dn (.dK [])) = Hd at s1d
    refine ⟨_, rfl, ite2 (fun h => ?_) (fun h => ?_)⟩
    · have hne : r = [] := by simpa using h
      rw [hne]
      exact ⟨rfl, s2.trans s1d⟩
    · have hne : r ≠ [] := by simpa using h
      obtain ⟨lo, hi, e1, e2, _⟩ := lo_hi hne
      have e3 : spanI r = some (hi - lo) := by unfold spanI; rw [if_neg hne, e1, e2]; rfl
      rw [e1, e2, e3]
      exact ⟨_, rfl, _, rfl, _, _, rfl, rfl, rfl, s2.trans s1d⟩
  rintro σ' H3 ⟨rfl, s3⟩
  have s03 : Same H1 H3 := s3
  have ha := ha.same s1
  have hd := hd1
  have hD := hD.same s1
  have hlo : ∀ e, loI r = some e → e.natAbs ≤ 10000 := fun e he => by
    by_cases hne : r = []
    · rw [hne] at he; cases he
    · obtain ⟨lo, hi, e1, e2, m1, m2, _⟩ := lo_hi hne
      rw [e1] at he; cases he
      exact exps_le hdr.ex m1
  have hhi : ∀ e, hiI r = some e → e.natAbs ≤ 10000 := fun e he => by
    by_cases hne : r = []
    · rw [hne] at he; cases he
    · obtain ⟨lo, hi, e1, e2, m1, m2, _⟩ := lo_hi hne
      rw [e2] at he; cases he
      exact exps_le hdr.ex m2
  have hsp : ∀ e, spanI r = some e → e.natAbs ≤ 30000 := fun e he => by
    by_cases hne : r = []
    · rw [hne] at he; cases he
    · obtain ⟨lo, hi, e1, e2, m1, m2, _⟩ := lo_hi hne
      unfold spanI at he
      rw [if_neg hne, e1, e2] at he
      have he : hi - lo = e := by simpa using he
      have h1 := exps_le hdr.ex m1
      have h2 := exps_le hdr.ex m2
      omega
  have sl := small_opt fun e he => Nat.le_trans (hlo e he) (by decide)
  have sh := small_opt fun e he => Nat.le_trans (hhi e he) (by decide)
  have ss := small_opt hsp
  have hll := two_len (reprV_len hlo) (reprV_len hhi)
  -- the row, low, high, span
  obtain ⟨d0, dx, k1, k2⟩ := id ha
  refine ⟨_, rfl, _, rfl, a, r, d, r, r, rfl, ha.same s03, s03 _ _ hd, hnd, by omega, Srt.self hasc hdr.ne0, fun H4 s4 => ⟨_, rfl, ?_⟩⟩
  rw [show decide (r = r) = true from decide_eq_true rfl]
  have s04 := s03.trans s4
  refine iteF ?_
  refine ⟨_, rfl, a, dx, _, rfl, slt_same k1 s04, a, r, rfl, ha.same s04, hasc, _, rfl, a, dx, _, rfl, slt_same k1 s04, a, r, rfl, ha.same s04, hasc, by show 2 ≤ sizeLine; decide, fun p1 hp1 => ?_⟩
  refine ⟨p1, _, _, rfl, upd_same, sl, sh, hll, ?_⟩
  have s4b := s04.trans (same_new (o := .lst [optI (loI r), optI (hiI r)]) hp1)
  generalize upd H4 p1 (.lst [optI (loI r), optI (hiI r)]) = H5 at s4b
  refine ⟨_, rfl, _, rfl, by show 2 ≤ sizeLine; decide, fun p2 hp2 => ⟨p2, _, _, rfl, upd_same, sl, sh, hll, rfl, _, rfl, iteFk (by simp) ?_⟩⟩
  have s06 := s4b.trans (same_new (o := .lst [optI (loI r), optI (hiI r)]) hp2)
  generalize upd H5 p2 (.lst [optI (loI r), optI (hiI r)]) = H6 at s06
  refine ⟨_, rfl, a, dx, _, rfl, slt_same k1 s06, a, r, rfl, ha.same s06, hasc, fun H7 s7 => ⟨_, rfl, ss, _, rfl, _, rfl, ss, rfl, _, rfl, iteFk (by simp) ?_⟩⟩
  have s07 := s06.trans s7
  -- the items, the length, the text
  have ad0 : a ≠ d0 := fun z => by
    rcases slt_same k1 s07 with ⟨e, _⟩ | ⟨e, _⟩
    · rw [z, s07 _ _ k2] at e; cases e
    · rw [z, s07 _ _ k2] at e; unfold SlX.SlO at e; cases e
  have sltL : ∀ od, SlX.Slt (upd H7 d0 (.frz od (.dK (kvI r)))) a A.Row dx [some (.ref d0)] := fun od => by
    rcases slt_same k1 s07 with ⟨e, e'⟩ | ⟨e, e'⟩
    · cases e'
    · refine .inr ⟨by rw [upd_ne ad0]; exact e, ?_⟩
      rw [upd_ne fun z => by rw [z, s07 _ _ k2] at e'; cases e']
      exact e'
  refine ⟨d0, _, s07 _ _ k2, by trivial, fun od => ⟨_, rfl, a, d0, od, r, rfl, ⟨dx, sltL od, upd_same⟩, by omega, fun H8 pl ts s8 hpl hl8 hpr => ?_⟩⟩
  obtain ⟨u1, u2⟩ := lock_same (s07 _ _ k2) s8
  refine ⟨u1, ?_⟩
  have plne : pl ≠ d0 := fun z => by rw [z, u1] at hl8; cases hl8
  have hl9 : (upd H8 d0 (.dK (kvI r))) pl = some (.lst (ts.map V.ref)) := by rw [upd_ne plne]; exact hl8
  have hpr9 : Paired (TupI (upd H8 d0 (.dK (kvI r)))) ts r := Paired.mapP hpr fun b c e => by
    show (upd H8 d0 (.dK (kvI r))) b = _
    rw [upd_ne (ne_of e u1 fun z => nomatch z)]
    exact e
  have s09 := s07.trans u2
  generalize upd H8 d0 (.dK (kvI r)) = H9 at hl9 hpr9 s09
  refine ⟨_, rfl, d, kvI r, rfl, s09 _ _ hd, fun H10 pl2 ts2 s10 hpl2 hts2 hn2 hl10 hpr10 => ?_⟩
  have s010 := s09.trans s10
  refine ⟨_, _, it_dp (s10 _ _ hl9) (Paired.mapP hpr9 fun b c e => s10 _ _ e), it_dp hl10 (items_tup hpr10), it_shaped _, it_shaped _, _, rfl, ?_⟩
  refine iteFk (by show (!PyData.eqvAll (itA r) (itA r)) = false; rw [it_eqv]; simp) ?_
  refine ⟨_, rfl, a, dx, _, rfl, slt_same k1 s010, a, r, rfl, ha.same s010, (r.length : Int), rfl, by omega, by omega, _, rfl, d, _, rfl, s010 _ _ hd, rfl, _, rfl, iteFk (by rw [kvI_len]; simp) ?_⟩
  refine ⟨_, rfl, a, dx, _, rfl, slt_same k1 s010, a, r, rfl, ha.same s010, hbd, by omega, fun H11 s11 => ⟨_, rfl, _, rfl, d, r, rfl, (s010.trans s11) _ _ hd, hnd, hbd, by omega, fun H12 s12 => ⟨rfl, _, rfl, iteFk (by simp) ?_⟩⟩⟩
  have s012 := s010.trans (s11.trans s12)
  have hE12 := s012 _ _ hE0
  have hD12 := hD.same s012
  -- the exponents and three more
  refine ⟨_, rfl, _, rfl, dd, _, rfl, hD12, by decide, by decide +kernel, fun z H13 z0 z1 hD13 k13 => ⟨_, _, rfl, rfl, _, _, rfl, rfl, ⟨by decide, by decide, by decide⟩, _, _, rfl, rfl, ⟨by decide, by decide, by decide⟩, _, rfl, by show 3 ≤ sizeLine; decide, fun p3 hp3 => ?_⟩⟩
  have b13 : But dd H1 H13 := (But.of s012).trans (But.eq k13)
  have hpe13 : H13 pe = some (.lst ((exps r).map V.int)) := by
    rw [k13 pe hpd]
    exact hE12
  refine ⟨pe, p3, _, _, rfl, rfl, (same_new hp3) _ _ hpe13, upd_same, ?_, fun p4 hp4 => ?_⟩
  · rw [List.length_map, List.length_map]
    show r.length + 3 ≤ sizeLine
    exact len_small (by omega)
  have es : ∃ es : List Int, es = exps r ++ [z - 20, (10 : Int) ^ Int.toNat 50, -((10 : Int) ^ Int.toNat 59)] := ⟨_, rfl⟩
  obtain ⟨es, hes⟩ := es
  have hesm : ∀ e ∈ es, e.natAbs < 10 ^ 60 := fun e he => by
    rw [hes] at he
    rcases List.mem_append.mp he with m | m
    · exact Nat.lt_of_le_of_lt (exps_le hdr.ex m) (by decide)
    · simp only [List.mem_cons, List.not_mem_nil, or_false] at m
      rcases m with rfl | rfl | rfl
      · omega
      · decide +kernel
      · decide +kernel
  have hesl : es.length ≤ 10 := by rw [hes, List.length_append]; rw [List.length_map]; show r.length + 3 ≤ 10; omega
  have h4 : (upd (upd H13 p3 (.lst [V.int (z - 20), V.int ((10 : Int) ^ Int.toNat 50), V.int (-((10 : Int) ^ Int.toNat 59))])) p4 (.lst ((exps r).map V.int ++ [V.int (z - 20), V.int ((10 : Int) ^ Int.toNat 50), V.int (-((10 : Int) ^ Int.toNat 59))]))) p4 = some (.lst (es.map V.int)) := by
    rw [upd_same, hes, List.map_append]; rfl
  have s14 : Same H13 (upd (upd H13 p3 (.lst [V.int (z - 20), V.int ((10 : Int) ^ Int.toNat 50), V.int (-((10 : Int) ^ Int.toNat 59))])) p4 (.lst ((exps r).map V.int ++ [V.int (z - 20), V.int ((10 : Int) ^ Int.toNat 50), V.int (-((10 : Int) ^ Int.toNat 59))]))) := (same_new hp3).trans (same_new hp4)
  generalize upd (upd H13 p3 (.lst [V.int (z - 20), V.int ((10 : Int) ^ Int.toNat 50), V.int (-((10 : Int) ^ Int.toNat 59))])) p4 (.lst ((exps r).map V.int ++ [V.int (z - 20), V.int ((10 : Int) ^ Int.toNat 50), V.int (-((10 : Int) ^ Int.toNat 59))])) = H14 at h4 s14
  have hD14 := hD13.same s14
  have b14 : But dd H1 H14 := b13.trans (But.of s14)
  have hd14 := b14.at hD hd fun _ z => nomatch z
  have ha14 := ha.but hD b14
  have hpe14 := s14 _ _ hpe13
  clear k1 k2
  obtain ⟨d0, dx, k1, k2⟩ := id ha14
  -- each of them
  refine ⟨_, rfl, p4, rfl, ⟨_, SqL.of h4⟩, fun D hDn => ?_⟩
  refine lc_it (walk_list (xs := es.map V.int)) (fun i H' => Acc H14 D [] H') (Acc.start hDn) (fun i H' _ ac => SqL.of (ac.1 _ _ h4)) ?_ ?_
  · rintro i x H2 H3 hi ac ⟨rfl, hx⟩
    rw [List.length_map] at hi
    rw [List.getElem?_map] at hx
    obtain ⟨e, he, rfl⟩ := Option.map_eq_some_iff.mp hx
    have hem := hesm e (List.mem_of_getElem? he)
    have hsm : SmallV (.int (valI r e)) := smallI (Nat.lt_trans (valI_small hdr e) (by decide))
    have k1' := slt_same k1 ac.1
    have ha' := ha14.same ac.1
    have hd' := ac.1 _ _ hd14
    refine ⟨rfl, ?_⟩
    refine ⟨_, rfl, _, rfl, a, dx, _, rfl, k1', a, r, e, rfl, ha', hem, _, rfl, hsm, ?_⟩
    refine ⟨_, rfl, d, rfl, .inl ⟨_, .inl hd'⟩, _, rfl, _, DGetI hd' e, ?_⟩
    rw [getD_val]
    refine ⟨_, rfl, hsm, rfl, _, rfl, iteFk (by simp) ?_⟩
    refine ⟨_, rfl, _, rfl, a, dx, _, rfl, k1', a, r, _, _, rfl, ha', .int e, fun _ => ⟨e, rfl⟩, _, rfl, ?_⟩
    refine ⟨_, rfl, _, rfl, d, _, rfl, DGetI hd' e, rfl, _, rfl, iteFk ?_ ac⟩
    rw [Option.isSome_map]
    show (!decide (V.bl (decide (e.natAbs < 10 ^ 60) && hasE r e) = V.bl (r.find? fun p => decide (p.1 = e)).isSome)) = false
    rw [decide_eq_true hem, Bool.true_and]
    unfold hasE
    simp
  rintro H15 ac
  refine ⟨Nat.zero_le _, fun l hl => ?_⟩
  have s15 : Same H14 (upd H15 l (.lst [])) := ac.1.trans (same_new hl)
  refine ⟨.list [], .list [], .lst (SqL.of ((same_new hl) _ _ ac.2)) .nil, .lst (SqL.of upd_same) .nil, by decide +kernel, by decide +kernel, _, rfl, iteFk rfl ?_⟩
  generalize upd H15 l (.lst []) = H16 at s15
  have hE16 := s15 _ _ hpe14
  have hD16 := hD14.same s15
  -- what is no exponent
  refine ⟨fun σ' H' => ∃ po pt pl pd y, σ' = [some (.ref dd), some (.ref d), some (.ref a), some (.ref pe), some (optI (loI r)), some (optI (hiI r)), some (optI (spanI r)), some (.ref p4), some (.ref po), none, none, none] ∧ Same H16 H' ∧
    H' po = some (.lst [.bl true, .non, .str (Str.ofString "x"), .ref pt, .ref pl, .ref pd, .ref a, .str y, .int ((10 : Int) ^ Int.toNat 60)]) ∧ H' pt = some (.tup []) ∧ H' pl = some (.lst []) ∧ H' pd = some (.dK []), ?_, ?_⟩
  · refine ⟨by show 0 ≤ sizeLine; decide, fun pt hpt => ⟨by show 0 ≤ sizeLine; decide, fun pl hpl => fun pd hpd => ⟨_, rfl, ?_⟩⟩⟩
    have t1 : Same H16 (upd (upd (upd H16 pt (.tup [])) pl (.lst [])) pd (.dK [])) := ((same_new hpt).trans (same_new hpl)).trans (same_new hpd)
    have t2 : (upd (upd (upd H16 pt (.tup [])) pl (.lst [])) pd (.dK [])) pt = some (.tup []) := ((same_new hpl).trans (same_new hpd)) _ _ upd_same
    have t3 : (upd (upd (upd H16 pt (.tup [])) pl (.lst [])) pd (.dK [])) pl = some (.lst []) := (same_new hpd) _ _ upd_same
    have t4 : (upd (upd (upd H16 pt (.tup [])) pl (.lst [])) pd (.dK [])) pd = some (.dK []) := upd_same
    generalize upd (upd (upd H16 pt (.tup [])) pl (.lst [])) pd (.dK []) = H17 at t1 t2 t3 t4
    refine ⟨_, rfl, Nat.zero_le _, fun pz hpz => ?_⟩
    have t5 : Same H17 (upd H17 pz (.lst [])) := same_new hpz
    refine ⟨.list ((exps r).map PyData.int), .list [], .lst (SqL.of (t5 _ _ (t1 _ _ hE16))) (ints_dp _), .lst (SqL.of upd_same) .nil, PySem.W.ke_shaped_ints _, by decide +kernel, _, rfl, ?_⟩
    have t17 := t1.trans t5
    have u2 := t5 _ _ t2
    have u3 := t5 _ _ t3
    have u4 := t5 _ _ t4
    generalize upd H17 pz (.lst []) = H18 at t17 u2 u3 u4
    refine ite2 (fun h => ?_) (fun h => ?_)
    · have hne : r ≠ [] := fun z => by rw [z] at h; cases h
      obtain ⟨lo, hi, e1, e2, m1, m2, e3, e4⟩ := lo_hi hne
      refine ⟨_, rfl, pe, _, 0, _, rfl, rfl, SqL.of (t17 _ _ hE16), e3, lo, rfl, small_of (Nat.lt_of_le_of_lt (exps_le hdr.ex m1) (by decide)), _, _, rfl, rfl, ⟨by decide, by decide, by decide⟩, by show 9 ≤ sizeLine; decide, fun po hpo => ?_⟩
      have v1 : Same H18 (upd H18 po (.lst [.bl true, .non, .str (Str.ofString "x"), .ref pt, .ref pl, .ref pd, .ref a, .str (toString lo), .int ((10 : Int) ^ Int.toNat 60)])) := same_new hpo
      exact ⟨po, pt, pl, pd, _, rfl, t17.trans v1, upd_same, v1 _ _ u2, v1 _ _ u3, v1 _ _ u4⟩
    · refine ⟨_, _, rfl, rfl, ⟨by decide, by decide, by decide⟩, by show 9 ≤ sizeLine; decide, fun po hpo => ?_⟩
      have v1 : Same H18 (upd H18 po (.lst [.bl true, .non, .str (Str.ofString "x"), .ref pt, .ref pl, .ref pd, .ref a, .str (Str.ofString "0"), .int ((10 : Int) ^ Int.toNat 60)])) := same_new hpo
      exact ⟨po, pt, pl, pd, _, rfl, t17.trans v1, upd_same, v1 _ _ u2, v1 _ _ u3, v1 _ _ u4⟩
  rintro σ' H17 ⟨po, pt, pl, pd, y, rfl, s17, hpo, hpt, hpl, hpd⟩
  have s1417 := s15.trans s17
  refine ⟨_, rfl, po, rfl, ⟨_, SqL.of hpo⟩, fun D hDn => ?_⟩
  refine lc_it (walk_list (xs := [V.bl true, .non, .str (Str.ofString "x"), .ref pt, .ref pl, .ref pd, .ref a, .str y, .int ((10 : Int) ^ Int.toNat 60)])) (fun i H' => Acc H17 D [] H') (Acc.start hDn) (fun i H' _ ac => SqL.of (ac.1 _ _ hpo)) ?_ ?_
  · rintro i x H2 H3 hi ac ⟨rfl, hx⟩
    have k1' := slt_same k1 (s1417.trans ac.1)
    have ha' := ha14.same (s1417.trans ac.1)
    have hni : IntB K A H3 x false := by
      have hm := List.mem_of_getElem? hx
      simp only [List.mem_cons, List.not_mem_nil, or_false] at hm
      rcases hm with rfl | rfl | rfl | rfl | rfl | rfl | rfl | rfl | rfl
      · exact .bl _
      · exact .no (.any (.base .non)) (kit_ty (by decide +kernel))
      · exact .no (.any (.base (.str _))) (kit_ty (by decide +kernel))
      · exact .no (.any (.base (.tup (ac.1 _ _ hpt)))) (kit_ty (by decide +kernel))
      · exact .no (.any (.base (.lst (ac.1 _ _ hpl)))) (kit_ty (by decide +kernel))
      · exact .no (.any (.base (.dK (ac.1 _ _ hpd)))) (kit_ty (by decide +kernel))
      · exact .no (.own k1') T.rowint
      · exact .no (.any (.base (.str _))) (kit_ty (by decide +kernel))
      · have := IntB.int (K := K) (A := A) (H := H3) ((10 : Int) ^ Int.toNat 60)
        rwa [show decide (((10 : Int) ^ Int.toNat 60).natAbs < 10 ^ 60) = false by decide +kernel] at this
    have hin : inRow r false x = false := by cases x <;> rfl
    refine ⟨rfl, _, rfl, _, rfl, a, dx, _, rfl, k1', a, r, _, _, rfl, ha', hni, (fun z => by cases z), _, rfl, _, rfl, iteFk hin ac⟩
  rintro H18 ac
  refine ⟨Nat.zero_le _, fun l2 hl2 => ?_⟩
  have s18 : Same H14 (upd H18 l2 (.lst [])) := s1417.trans (ac.1.trans (same_new hl2))
  refine ⟨.list [], .list [], .lst (SqL.of ((same_new hl2) _ _ ac.2)) .nil, .lst (SqL.of upd_same) .nil, by decide +kernel, by decide +kernel, _, rfl, iteFk rfl ?_⟩
  generalize upd H18 l2 (.lst []) = H19 at s18
  have hD19 := hD14.same s18
  -- another row
  refine ⟨_, rfl, fun pd2 hpd2 => ⟨_, rfl, dd, _, rfl, hD19.same (same_new hpd2), by decide, by decide +kernel, fun z2 H20 y0 y1 hD20 k20 => ⟨_, _, rfl, rfl, ?_, [(Sum.inl (z2 - 4), .int 1)], rfl, by show 1 ≤ 15; decide, ?_⟩⟩⟩
  · rw [k20 pd2 fun e => ?_]
    · exact upd_same
    · obtain ⟨_, _, _, hx, _⟩ := hD19
      rw [e, hx] at hpd2
      cases hpd2
  have b20 : But dd H1 H20 := b14.trans ((But.of s18).trans ((But.of (same_new hpd2)).trans (But.eq k20)))
  have nd2 : ∀ b o, H19 b = some o → b ≠ pd2 := fun b o e => ne_of_none e hpd2
  have k20' : ∀ b o, H19 b = some o → b ≠ dd → (upd H20 pd2 (.dK (mergeK [] [((Sum.inl (z2 - 4) : Key), V.int 1)]))) b = some o := fun b o e n => by
    rw [upd_ne (nd2 b o e), k20 b n, upd_ne (nd2 b o e)]
    exact e
  have b21 : But dd H1 (upd H20 pd2 (.dK (mergeK [] [((Sum.inl (z2 - 4) : Key), V.int 1)]))) := b14.trans ((But.of s18).trans k20')
  have hpd21 : (upd H20 pd2 (.dK (mergeK [] [((Sum.inl (z2 - 4) : Key), V.int 1)]))) pd2 = some (.dK (kvI [(z2 - 4, 1)])) := upd_same
  have ndd : dd ≠ pd2 := fun e => by
    obtain ⟨_, _, _, hx, _⟩ := hD19
    rw [← e, hx] at hpd2
    cases hpd2
  have hD21 : DiceAt (upd H20 pd2 (.dK (mergeK [] [((Sum.inl (z2 - 4) : Key), V.int 1)]))) dd := by
    obtain ⟨l, sd, c, hx, rest⟩ := hD20
    exact ⟨l, sd, c, by rw [upd_ne ndd]; exact hx, rest⟩
  generalize upd H20 pd2 (.dK (mergeK [] [((Sum.inl (z2 - 4) : Key), V.int 1)])) = H21 at b21 hpd21 hD21
  have hd21 := b21.at hD hd fun _ z => nomatch z
  have ha21 := ha.but hD b21
  refine ⟨d, pd2, r, z2 - 4, rfl, hd21, hpd21, hnd, by omega, fun q0 H22 po2 hq0 hpo2 s22 hq22 => ?_⟩
  have hq0l := hq0.len
  have hq0l2 := putI_len r (z2 - 4) (valI r (z2 - 4) + 1)
  have hok0 := put_ok hdr (by omega) hq0
  have hne0 := put_other hdr hq0
  clear k1 k2
  obtain ⟨d0, dx, k1, k2⟩ := id ha21
  -- the comparisons
  refine ⟨_, rfl, _, rfl, d, kvI r, rfl, s22 _ _ hd21, fun H23 pl5 ts s23 hpl5 hts hn hl hpr => ⟨pl5, _, rfl, SqL.of hl, fun prv hprv => ?_⟩⟩
  have s24 : Same H22 (upd H23 prv (.lst (ts.map V.ref).reverse)) := Same.trans s23 (same_new hprv)
  have hl24 : (upd H23 prv (.lst (ts.map V.ref).reverse)) prv = some (.lst (ts.reverse.map V.ref)) := by rw [upd_same, List.map_reverse]
  have hpr24 : Paired (fun (t : Addr) (q : Key × V) => (upd H23 prv (.lst (ts.map V.ref).reverse)) t = some (.tup [kV q.1, q.2])) ts (kvI r) := Paired.mapP hpr fun b c e => (same_new hprv) _ _ e
  generalize upd H23 prv (.lst (ts.map V.ref).reverse) = H24 at s24 hl24 hpr24
  have hndr : NdK r.reverse := by unfold NdK; rw [List.map_reverse]; exact (List.reverse_perm _).nodup_iff.mpr hnd
  have ekr : (kvI r).reverse = kvI r.reverse := by unfold kvI; rw [List.map_reverse]
  refine ⟨prv, ts.reverse, (kvI r).reverse, rfl, SqL.of hl24, Paired.mapP (Paired.rev hpr24) fun b c e => SqT.of e, fun pdt hpdt => ?_⟩
  rw [ekr, mergeK_kvI hndr]
  have s25 := s22.trans (s24.trans (same_new (o := .dK (kvI r.reverse)) hpdt))
  have hokr : okB r.reverse = true := by
    unfold okB
    rw [List.all_reverse]
    exact ok_all ⟨hasc, hdr.ne0, hdr.ex, fun p hp => Nat.lt_trans (hdr.num p hp) (by decide)⟩
  refine ⟨pdt, r.reverse, rfl, upd_same, hndr, by rw [List.length_reverse]; omega, hokr, fun r' H26 a2 hs' ha2 s26 ra2 => ?_⟩
  cases hs'.uniq (⟨hasc, fun p => by rw [List.mem_reverse]; exact ⟨fun m => ⟨m, hdr.ne0 p m⟩, fun m => m.1⟩⟩ : Srt r.reverse r)
  have s2126 := s25.trans s26
  have k26 := slt_same k1 s2126
  obtain ⟨d2, dx2, j1, j2⟩ := id ra2
  refine ⟨a, dx, _, _, rfl, k26, .own j1, T.notf, a, r, _, _, rfl, ha21.same s2126, hasc, .row ra2 hasc, ?_⟩
  refine ⟨_, rfl, iteTk (decide_eq_true rfl) ?_⟩
  have hq26 := (s24.trans ((same_new (o := .dK (kvI r.reverse)) hpdt).trans s26)) _ _ hq22
  refine ⟨_, rfl, _, rfl, po2, q0, rfl, hq26, asc_nd hq0.asc, by omega, hok0, fun r' H27 a3 hs' ha3 s27 ra3 => ?_⟩
  cases hs'.uniq (Srt.self hq0.asc hq0.ne0)
  have s2127 := s2126.trans s27
  have k27 := slt_same k1 s2127
  obtain ⟨d3, dx3, m1, m2⟩ := id ra3
  refine ⟨a, dx, _, _, rfl, k27, .own m1, T.notf, a, r, _, _, rfl, ha21.same s2127, hasc, .row ra3 hq0.asc, _, rfl, ?_⟩
  refine ⟨_, rfl, iteTk (by rw [decide_eq_false hne0]; rfl) ?_⟩
  refine ⟨_, rfl, _, rfl, a, dx, _, _, rfl, k27, .any (.base (.dK (s2127 _ _ hd21))), T.notf_dict, a, r, _, _, rfl, ha21.same s2127, hasc, .no (.base (.dK (s2127 _ _ hd21))) T.dictrow, _, rfl, _, rfl, iteTk rfl ?_⟩
  refine ⟨_, rfl, _, rfl, a, dx, _, rfl, k27, a, r, rfl, ha21.same s2127, hbd, by omega, fun H28 s28 => ?_⟩
  have s2128 := s2127.trans s28
  refine ⟨_, rfl, a, dx, _, _, rfl, slt_same k1 s2128, .any (.base (.str _)), T.notf_str, a, r, _, _, rfl, ha21.same s2128, hasc, .no (.base (.str _)) T.strrow, _, rfl, ?_⟩
  exact q _ (hD21.same s2128) ((But.of s1).trans (b21.trans (But.of s2128)))
end
end Wb

/-! _law_texts_right. -/
namespace Wb
open PySem PySem.Spec PyProof.Rows L2 SX TL
open C8 (pe_gc pss_cut tCut)
theorem dig_asc {c : Nat} (h : dig c = true) : c < 128 := by
  unfold dig at h
  simp at h
  omega
theorem num_asc (n : Nat) : ∀ c ∈ numL n, c < 128 := fun c hc => dig_asc (List.all_eq_true.mp (numL_all n) c hc)
theorem pow_asc (e : Int) : ∀ c ∈ powT e, c < 128 := fun c hc => by
  unfold powT intT at hc
  split at hc
  · cases hc
  split at hc
  · simp at hc; omega
  split at hc
  · rcases List.mem_cons.mp hc with h | hc
    · omega
    · rcases List.mem_cons.mp hc with h | hc
      · omega
      · rcases List.mem_cons.mp hc with h | hc
        · omega
        · exact num_asc _ c hc
  · rcases List.mem_cons.mp hc with h | hc
    · omega
    · rcases List.mem_cons.mp hc with h | hc
      · omega
      · exact num_asc _ c hc
theorem term_asc (e v : Int) : ∀ c ∈ termT e v, c < 128 := fun c hc => by
  unfold termT at hc
  split at hc
  · exact pow_asc e c hc
  · rcases List.mem_append.mp hc with h | h
    · exact num_asc _ c h
    · exact pow_asc e c h
theorem sg_asc (v : Int) : (∀ c ∈ sg1 v, c < 128) ∧ ∀ c ∈ sgn v, c < 128 := by
  unfold sg1 sgn
  refine ⟨fun c hc => ?_, fun c hc => ?_⟩ <;> (split at hc <;> simp at hc <;> omega)
theorem rend_asc : ∀ r : Rw, ∀ c ∈ rend r, c < 128
  | [], c, hc => by
    rw [rend_nil] at hc
    simp at hc
    omega
  | p :: r, c, hc => by
    rw [rend_cons] at hc
    rcases List.mem_append.mp hc with h | h
    · rcases List.mem_append.mp h with h | h
      · exact (sg_asc _).1 c h
      · exact term_asc _ _ c h
    · unfold tailT at h
      obtain ⟨q, _, h⟩ := List.mem_flatMap.mp h
      rcases List.mem_cons.mp h with h | h
      · omega
      · rcases List.mem_append.mp h with h | h
        · exact (sg_asc _).2 c h
        · rcases List.mem_cons.mp h with h | h
          · omega
          · exact term_asc _ _ c h
theorem rend_sp : ∀ r : Rw, (rend r).count 32 ≤ 2 * r.length
  | [] => by rw [rend_nil]; decide
  | p :: r => by
    have h := words_count (rend (p :: r))
    rw [words_rend, List.length_cons, wl_len] at h
    rw [List.length_cons]
    omega
theorem Drawn.ok {r : Rw} (h : Drawn r) : Ok r := ⟨h.asc, h.ne0, h.ex, fun p hp => Nat.lt_trans (h.num p hp) (by decide)⟩
theorem Drawn.txt {r : Rw} (h : Drawn r) : TxtOk 1000 20 (rend r) := by
  have h1 := rend_len (⟨h.ex, h.ok.num⟩ : Bd r)
  have h2 := rend_sp r
  have h3 := h.len
  exact ⟨by omega, rend_asc r, by omega⟩
theorem rend_inj {r q : Rw} (h : Ok r) (k : Ok q) (e : rend r = rend q) : r = q := by
  have := told_rend h
  rw [e, told_rend k] at this
  exact (Option.some.inj this).symm
theorem row_len {r : Rw} (h : (words (rend r)).length ≤ 60) : r.length ≤ 40 := by
  cases r with
  | nil => exact Nat.zero_le _
  | cons p r =>
    rw [words_rend, List.length_cons, wl_len] at h
    rw [List.length_cons]
    omega
theorem ok_bad {r : Rw} (h : Ok r) : (r.all fun p => !badB p) = true := List.all_eq_true.mpr fun p hp => by
  have h1 := h.ex p hp
  have h2 := h.num p hp
  unfold badB
  rw [decide_eq_false (by omega), decide_eq_false (by omega)]
  rfl
theorem bad_ok {d r : Rw} (s : Srt d r) (h : (r.all fun p => !badB p) = true) : Ok r := by
  have key : ∀ p ∈ r, p.1.natAbs ≤ 10000 ∧ p.2.natAbs < 10 ^ 60 := fun p hp => by
    have := List.all_eq_true.mp h p hp
    unfold badB at this
    simp at this
    omega
  exact ⟨s.asc, s.ne0, fun p hp => (key p hp).1, fun p hp => (key p hp).2⟩
/-- a row's text is read back -/
theorem read_ok {r : Rw} (h : Ok r) : ∃ d, readAll (rend r) = some d ∧ Srt d r := by
  by_cases hne : r = []
  · subst hne
    exact ⟨_, by rw [rend_nil]; exact read_zero, List.Pairwise.nil, fun p => ⟨fun m => (by cases m), fun m => absurd (by rw [List.mem_singleton.mp m.1]) m.2⟩⟩
  · exact ⟨r, read_rend h hne, Srt.self h.asc h.ne0⟩
section
variable {P : Program} {w : World} {K : PySem.W.Frag} {mg : Str → Option Value} {base : Heap} {A : Ad} {X : Cx}
def pnD : PyData := .tuple [.str (Str.ofString "parse"), .none]
theorem pn_dp {H : Hp} {p : Addr} (h : TupPN H p) : Dp K H (.ref p) pnD := .tup (SqT.of h) (.cons (.str _) (.cons .non .nil))
theorem pn_eqv : PyData.eqv pnD pnD = true := by decide +kernel
theorem pn_shaped : SeqAt.shaped pnD = true := by decide +kernel
theorem c_law_texts_right (T : Txt K mg A) (TP : PrsTxt P K mg A.PErr A.PErr_init) : FnR P w K mg base CX0 9 A._law_texts_right (spTold A) := by
  refine fnr T.d__law_texts_right sc_law_texts_right (fun _ _ _ _ _ _ us hl => match us, hl with | [_, _, _], _ => rfl) (fun vs H Q E h => by obtain ⟨_, _, _, _, rfl, _⟩ := h; rfl) (fun fd cdv A' outer s H vs Q E hr h => ?_)
  obtain ⟨dd, d, a, r, rfl, hD, hd, hdr, ha, q⟩ := h
  refine ⟨_, (pss_cons (ps_set (i := 3) sc_law_texts_right.nd rfl (Or.inl rfl) (pe_f (c_law_row_text T) hr (by decide) (by rfl) T.g__law_row_text T.k__law_row_text (pa_cons (pv 1) pa_nil)))
    (pss_cons (ps_if (pt_cmpR (op_neO T.mne T.sisi.cm T.m_eq T.i_eq (c_eq T) (hr.mono (by decide))) (pe_f (c_law_of_text T TP) hr (by decide) (by rfl) T.g__law_of_text T.k__law_of_text (pa_cons (pv 3) pa_nil)) (pv 2) (nomark _))
      (pss_one (ps_ret pe_bl))
      pss_nil)
    (pss_cons (ps_for PassesOwn.never rfl (pi_range1 (by rfl) T.f_range (pa_cons pe_int pa_nil)) (pg_name (i := 4) sc_law_texts_right.nd rfl (Or.inl rfl))
      (pss_cons (ps_set (i := 5) sc_law_texts_right.nd rfl (Or.inl rfl) (pe_f (c_law_bent T) hr (by decide) (by rfl) T.g__law_bent T.k__law_bent (pa_cons (pv 0) (pa_cons (pv 3) pa_nil))))
        (pss_cons (ps_par rfl sc_law_texts_right.nd (i := 6) (j := 7) rfl rfl (by decide) rfl rfl (pa_cons (pe_f (c_law_text_read T) hr (by decide) (by rfl) T.g__law_text_read T.k__law_text_read (pa_cons (pv 5) pa_nil)) (pa_cons (pe_f (c_law_of_text T TP) hr (by decide) (by rfl) T.g__law_of_text T.k__law_of_text (pa_cons (pv 5) pa_nil)) pa_nil)) (by rfl))
        (pss_one (ps_if (PW.pt (pw_or (PW.pt (pw_and (pt_cmpR op_isN (pv 6) pe_non (nomark _)) (pw_and1 (pt_cmpR (op_neD hr.units) (pv 7) (pe_tup (pa_cons pe_str (pa_cons pe_non pa_nil))) (nomark _))))) (pw_or1 (PW.pt (pw_and (pt_cmpR op_notN (pv 6) pe_non (nomark _)) (pw_and1 (pt_not (pt_val (pe_f (c_law_is_row T) hr (by decide) (by rfl) T.g__law_is_row T.k__law_is_row (pa_cons (pv 7) (pa_cons (pv 6) pa_nil)))))))))))
        (pss_one (ps_ret pe_bl))
        pss_nil)))))
    (pss_one (ps_ret pe_bl))))), ?_⟩
  have hbd : Bd r := ⟨hdr.ex, hdr.ok.num⟩
  have hrl := hdr.len
  have htx := hdr.txt
  have htl := htx.len
  refine ⟨_, rfl, d, r, rfl, hd, asc_nd hdr.asc, hbd, by omega, fun H1 s1 => ?_⟩
  have ha1 := ha.same s1
  obtain ⟨d0, dx, k1, k2⟩ := id ha1
  refine ⟨_, rfl, _, rfl, .inr ⟨rend r, rfl, by omega, by rw [words_count]; have := htx.sp; omega⟩, fun t r' H2 a2 et hok er hn s2 ra => ?_, fun hn => absurd rfl (hn _ rfl r hdr.ok)⟩
  have et : rend r = t := by injection et with et; exact S_inj et
  subst et
  cases rend_inj hok hdr.ok er
  obtain ⟨d2, dx2, j1, j2⟩ := id ra
  refine ⟨_, rfl, a2, dx2, _, _, rfl, j1, .own (slt_same k1 s2), T.notf, a2, r, _, _, rfl, ra, hdr.asc, .row (ha1.same s2) hdr.asc, _, rfl, _, rfl, iteFk (by simp) ?_⟩
  have s12 := s1.trans s2
  refine ⟨5, rfl, by decide, by decide, ?_⟩
  refine for_it walk_range (fun i σ H' => ∃ x4 x5 x6 x7, σ = [some (.ref dd), some (.ref d), some (.ref a), some (.str (S (rend r))), x4, x5, x6, x7] ∧ DiceAt H' dd ∧ But dd H H')
    ⟨none, none, none, none, rfl, hD.same s12, But.of s12⟩ (fun _ _ _ _ _ => True.intro) ?_ ?_
  · rintro i x σ H3 H4 hi ⟨x4, x5, x6, x7, rfl, hD3, b3⟩ ⟨rfl, rfl⟩
    refine ⟨_, rfl, _, rfl, dd, _, rfl, hD3, htx, fun u H5 hD5 b5 hu => ?_⟩
    have b05 := b3.trans b5
    have hul := hu.len
    have huw : (words u).length ≤ 60 := by rw [words_count]; have := hu.sp; omega
    have next : ∀ H' x5 x6 x7, Same H5 H' → ∃ y4 y5 y6 y7, [some (V.ref dd), some (.ref d), some (.ref a), some (.str (S (rend r))), some (.int (0 + (i : Nat))), x5, x6, x7] = [some (.ref dd), some (.ref d), some (.ref a), some (.str (S (rend r))), y4, y5, y6, y7] ∧ DiceAt H' dd ∧ But dd H H' :=
      fun H' x5 x6 x7 s => ⟨_, _, _, _, rfl, hD5.same s, b05.trans (But.of s)⟩
    by_cases hrow : ∃ q, Ok q ∧ rend q = u
    · obtain ⟨q0, hq, rfl⟩ := hrow
      obtain ⟨d0', hrd, hsr⟩ := read_ok hq
      refine ⟨_, rfl, rend q0, rfl, by omega, hu.asc, huw, fun H6 s6 => ⟨fun e => (by rw [hrd] at e; cases e), fun d1 r1 e1 hs1 => ⟨fun _ _ p hp hpd => ?_, fun bad => ?_⟩⟩⟩
      · rw [hrd] at e1
        cases e1
        cases hs1.uniq hsr
        refine ⟨_, rfl, _, rfl, .inr ⟨rend q0, rfl, by omega, huw⟩, fun t r' H7 a7 et hok er hn s7 ra => ?_, fun hn => absurd rfl (hn _ rfl q0 hq)⟩
        have et : rend q0 = t := by injection et with et; exact S_inj et
        subst et
        cases rend_inj hok hq er
        refine ⟨_, _, rfl, ?_⟩
        have hpd7 := s7 _ _ hpd
        have hl := row_len huw
        refine ⟨_, rfl, rfl, _, rfl, iteF (iteF ?_)⟩
        refine ⟨_, rfl, rfl, _, rfl, iteT ?_⟩
        refine ⟨_, rfl, _, rfl, a7, q0, p, q0, q0, rfl, ra, hpd7, asc_nd hq.asc, by omega, Srt.self hq.asc hq.ne0, fun H8 s8 => ⟨_, rfl, iteFk (by simp) ?_⟩⟩
        exact next _ _ _ _ (s6.trans (s7.trans s8))
      · rw [hrd] at e1
        cases e1
        cases hs1.uniq hsr
        rcases bad with b | b
        · rw [ok_bad hq] at b; cases b
        · exact absurd rfl b
    · have hno : NoRow u := fun q0 hq e => hrow ⟨q0, hq, e⟩
      refine ⟨_, rfl, u, rfl, by omega, hu.asc, huw, fun H6 s6 => ?_⟩
      refine (fun hh => ⟨fun _ => hh, fun d1 r1 e1 hs1 => ⟨fun hall er _ _ _ => (hno r1 (bad_ok hs1 hall) er).elim, fun _ => hh⟩⟩) ?_
      refine ⟨_, rfl, _, rfl, .inr ⟨u, rfl, by omega, huw⟩, fun t r' H7 a7 et hok er _ _ _ => (hno r' hok (by injection et with et; rw [er]; exact (S_inj et).symm)).elim, fun _ H7 p s7 hp ht => ?_⟩
      refine ⟨_, _, rfl, ?_⟩
      refine ⟨_, rfl, rfl, _, rfl, iteT ?_⟩
      refine ⟨_, rfl, by show 2 ≤ sizeLine; decide, fun pt hpt => ?_⟩
      have s8 : Same H7 (upd H7 pt (.tup [V.str (Str.ofString "parse"), V.non])) := same_new hpt
      refine ⟨pnD, pnD, pn_dp (s8 _ _ ht), pn_dp upd_same, pn_shaped, pn_shaped, _, rfl, iteFk (by rw [pn_eqv]; rfl) ?_⟩
      refine ⟨_, rfl, rfl, _, rfl, iteF (iteF ?_)⟩
      exact next _ _ _ _ (s6.trans (s7.trans s8))
  · rintro σ H3 ⟨x4, x5, x6, x7, rfl, hD3, b3⟩
    exact q _ hD3 b3
end
end Wb

/-! law. -/
namespace Wb
open PySem PySem.Spec PyProof.Rows L2 SX TL
open C8 (pe_gc pss_cut tCut)
/-- t is no row's text, by its reading -/
def noRowB (t : List Nat) : Bool := match told t with
  | none => true
  | some d => !okB d || !decide (rend d = t)
theorem no_row {t : List Nat} (h : noRowB t = true) : NoRow t := fun r ok e => by
  unfold noRowB at h
  rw [← e, told_rend ok] at h
  simp [ok_all ok] at h
section
variable {P : Program} {w : World} {K : PySem.W.Frag} {mg : Str → Option Value} {base : Heap} {A : Ad} {X : Cx}
theorem raw_power (T : Txt K mg A) : FnR P w K mg base CX0 6 A.R_power (fun vs H Q E => spPower A (vs ++ [.int 1]) H Q E) := by
  obtain ⟨fd, FD, FO⟩ := ok_power (P := P) (w := w) (K := K) (mg := mg) (base := base) T
  obtain ⟨ds, rv, bd⟩ := FD.binds0 (ps := ["cls", "exponent", "many"]) 2 (by simp) rfl (fun D doc pm an cdv ct us ks h1 h2 => by
    match us, ks, h1, h2 with
    | [_, _], [_], _, _ => exact ⟨_, _, _, _, _, _, rfl, rfl, rfl⟩)
  exact FO.raw bd rv
theorem kb_power (T : Txt K mg A) : ∃ fd gf, FnOk P w K mg base CX0 6 A.R_power fd ["cls", "exponent", "many"] (spPower A) ∧ KBn K fd ["cls", "exponent", "many"] 2 ["many"] gf (fun vs zs => vs ++ zs) := by
  obtain ⟨fd, FD, FO⟩ := ok_power (P := P) (w := w) (K := K) (mg := mg) (base := base) T
  obtain ⟨mv, bd⟩ := FD.kbinds0 (ps := ["cls", "exponent", "many"]) 2 ["many"] [] (fun vs _ zs => vs ++ zs) (by simp) (by simp) (fun r1 _ r3 => r1.append r3) (fun D doc pm an cdv ct us mv ws h1 h2 h3 => by
    match us, mv, ws, h1, h2, h3 with
    | [_, _], [], [_], _, _, _ => rfl)
  exact ⟨fd, _, FO, bd⟩
theorem str_of {H : Hp} {a : Addr} {r : Rw} {Q : VK} (ra : RowAt A H a r) (h : Ok r) (hl : r.length ≤ 1000) (q : ∀ H', Same H H' → Q (.str (S (rend r))) H') : rStrO A.Row (spStr A) [.ref a] H Q := by
  obtain ⟨d, dx, j1, j2⟩ := id ra
  exact ⟨a, dx, _, rfl, j1, a, r, rfl, ra, ⟨h.ex, h.num⟩, hl, fun H' s' => ⟨_, rfl, q H' s'⟩⟩
/-- what _law_of_text makes nothing of -/
def OddV (K : PySem.W.Frag) (A : Ad) (H : Hp) (x : V) : Prop := (NoStr K A H x ∨ ∃ t, x = .str (S t) ∧ t.length ≤ 100000 ∧ (words t).length ≤ 60) ∧ ∀ t, x = .str (S t) → NoRow t
theorem odd_no {H : Hp} {x : V} {t : Value} (hx : ∀ y, x ≠ .str y) (h : TyX K H x t) (k : PySem.W.kitOne K t (.type "str") = some false) : OddV K A H x := ⟨.inl ⟨hx, t, h, k⟩, fun y e => absurd e (hx _)⟩
theorem odd_tx {H : Hp} {y : Str} (t : List Nat) (e : y = S t) (hl : t.length ≤ 40) (h : noRowB t = true) : OddV K A H (.str y) := by
  subst e
  exact ⟨.inr ⟨t, rfl, by omega, by have := words_len t; omega⟩, fun t' e' => by
    injection e' with e'
    rw [← S_inj e']
    exact no_row h⟩
def tx0 : List Nat := [45, 120, 32, 43, 32, 55, 120, 94, 51]
theorem ok1 : Ok [((-2 : Int), (1 : Int)), (0, -3), (4, 2)] := ⟨by unfold Asc; decide, by decide, by decide, by decide +kernel⟩
theorem ok2 : Ok [] := ⟨List.Pairwise.nil, (fun _ h => nomatch h), (fun _ h => nomatch h), (fun _ h => nomatch h)⟩
theorem ok3 : Ok [((1 : Int), (1 : Int))] := ⟨by unfold Asc; decide, by decide, by decide, by decide +kernel⟩
theorem ok4 : Ok [((-3 : Int), (-1 : Int))] := ⟨by unfold Asc; decide, by decide, by decide, by decide +kernel⟩
theorem ok5 : Ok [((1 : Int), (-1 : Int)), (3, 7)] := ⟨by unfold Asc; decide, by decide, by decide, by decide +kernel⟩
theorem srt0 : Srt [((5 : Int), (0 : Int))] [] := ⟨List.Pairwise.nil, fun p => ⟨fun m => (by cases m), fun m => absurd (by rw [List.mem_singleton.mp m.1]) m.2⟩⟩
theorem rend5 : rend [((1 : Int), (-1 : Int)), (3, 7)] = tx0 := by decide +kernel
def spLaw (K : PySem.W.Frag) : Sp := fun vs H Q _ => ∃ (a : Addr) (ns : List Int), vs = [.ref a] ∧ SqL K H a (ns.map V.int) ∧ ns.length ≤ 1000 ∧ ∀ H', Q (.bl true) H'
theorem c_law (T : Txt K mg A) (TP : PrsTxt P K mg A.PErr A.PErr_init) : FnG P w K mg base 10 A.law (spLaw K) := by
  refine fnG T.d_law sc_law (fun _ _ _ _ _ _ us hl => match us, hl with | [_], _ => rfl) (fun vs H Q E h => by obtain ⟨_, _, rfl, _⟩ := h; rfl) (fun cdv A' outer s H vs Q E hgd hr h => ?_)
  obtain ⟨a, ns, rfl, ha, hl, q⟩ := h
  obtain ⟨fdk, gf, FK, BK⟩ := kb_power (P := P) (w := w) (base := base) T
  obtain ⟨fdo, FO⟩ := T.d_R_of_text
  have GO : FnOk P w K mg base (L2.CX P w) 6 A.R_of_text fdo ["cls", "text"] (spOf K A) := ok_of_text T TP FO
  have bO := FO.binds (ps := ["cls", "text"]) fun _ _ _ _ _ _ us hl => match us, hl with | [_, _], _ => rfl
  refine ⟨_, (pss_cons (ps_for PassesOwn.never rfl (pi_range1 (by rfl) T.f_range (pa_cons (pe_callB (call_max2 rfl) (by rfl) T.f_max (by decide +kernel) (pa_cons pe_int (pa_cons (pe_callB (call_min2 rfl) (by rfl) T.f_min (by decide +kernel) (pa_cons pe_int (pa_cons (pe_callB call_len_seq (by rfl) T.f_len (by decide +kernel) (pa_cons (pv 0) pa_nil)) pa_nil))) pa_nil))) pa_nil)) (pg_name (i := 1) sc_law.nd rfl (Or.inl rfl))
      (pss_cons (ps_set (i := 2) sc_law.nd rfl (Or.inl rfl) (pe_f (c_law_dice T) hr (by decide) (by rfl) T.g__law_dice T.k__law_dice (pa_cons (pv 0) (pa_cons (pv 1) pa_nil))))
        (pss_one (ps_for PassesOwn.never rfl (pi_tup (pe_tup (pa_cons pe_int (pa_cons pe_int (pa_cons pe_int pa_nil))))) (pg_name (i := 3) sc_law.nd rfl (Or.inl rfl))
        (pss_cons (ps_set (i := 4) sc_law.nd rfl (Or.inl rfl) (pe_f (c_law_drawn_row T) hr (by decide) (by rfl) T.g__law_drawn_row T.k__law_drawn_row (pa_cons (pv 2) (pa_cons pe_int (pa_cons (pv 3) pa_nil)))))
          (pss_one (ps_if (PW.pt (pw_or (pt_not (pt_val (pe_fG (c_law_told_right T) hgd hr (by decide) (by rfl) T.g__law_told_right T.k__law_told_right (pa_cons (pv 2) (pa_cons (pv 4) (pa_cons (pe_row T hr (by decide) (by rfl) (pa_cons (pv 4) pa_nil)) pa_nil)))))) (pw_or1 (pt_not (pt_val (pe_f (c_law_texts_right T TP) hr (by decide) (by rfl) T.g__law_texts_right T.k__law_texts_right (pa_cons (pv 2) (pa_cons (pv 4) (pa_cons (pe_row T hr (by decide) (by rfl) (pa_cons (pv 4) pa_nil)) pa_nil)))))))))
          (pss_one (ps_ret pe_bl))
          pss_nil)))))))
    (pss_cons (ps_set (i := 5) sc_law.nd rfl (Or.inl rfl) (pe_lst (pa_cons pe_non (pa_cons pe_int (pa_cons pe_bl (pa_cons (pe_tup pa_nil) (pa_cons (pe_lst pa_nil) (pa_cons pe_dnewK (pa_cons (pe_tup (pa_cons pe_str pa_nil)) (pa_cons pe_str (pa_cons pe_str (pa_cons pe_str (pa_cons pe_str (pa_cons pe_str (pa_cons pe_str (pa_cons pe_str (pa_cons pe_str (pa_cons pe_str (pa_cons pe_str pa_nil)))))))))))))))))))
    (pss_cons (ps_if (pt_cmpR (op_neD hr.units) (pe_lc (own := [("_law_value", 7)]) rfl sc_law.nd (pi_list (pv 5)) (blkOk_by (own := [("_law_value", 7)]) (N := ["_law_script", "_law_spot", "_law_dice_here", "_law_most", "_law_terms", "_law_odd", "_law_told", "_law_value"]) (sc := defScope s_law) (by decide +kernel)) (fun _ _ _ _ _ => (pg_name (i := 7) sc_law.nd rfl (Or.inl rfl))) (fun _ _ _ _ _ => (pts_one (pt_cmpR (r := rNeD K) (op_neD hr.units) (pe_f (c_law_of_text T TP) hr (by decide) (by rfl) T.g__law_of_text T.k__law_of_text (pa_cons (pv 7) pa_nil)) (pe_tup (pa_cons pe_str (pa_cons pe_non pa_nil))) (nomark _)))) (fun _ _ _ _ _ => (pv 7))) (pe_lst pa_nil) (nomark _))
      (pss_one (ps_ret pe_bl))
      pss_nil)
    (pss_cons (ps_set (i := 6) sc_law.nd rfl (Or.inl rfl) (pe_lst (pa_cons (pe_callTy (call_strO T.m_str T.i_str (c_str T) (hr.mono (by decide))) (by rfl) T.f_str (by decide +kernel) (pa_cons (pe_row T hr (by decide) (by rfl) (pa_cons (pe_disp (pps_cons (pe_un un_neg pe_int) pe_int (pps_cons pe_int (pe_un un_neg pe_int) (pps_cons pe_int pe_int pps_nil))) (by rfl) (by rfl) (fun z => by cases z) (by decide)) pa_nil)) pa_nil))
      (pa_cons (pe_callTy (call_strO T.m_str T.i_str (c_str T) (hr.mono (by decide))) (by rfl) T.f_str (by decide +kernel) (pa_cons (pe_cmeth0 (pe_gc (by rfl) T.v_Row) T.cread T.c_none (c_none T) (hr.mono (by decide)) pass0) pa_nil))
      (pa_cons (pe_callTy (call_strO T.m_str T.i_str (c_str T) (hr.mono (by decide))) (by rfl) T.f_str (by decide +kernel) (pa_cons (ClX.pe_cmeth (pe_gc (by rfl) T.v_Row) T.cread T.c_power (raw_power T) (hr.mono (by decide)) pass0 (pa_cons pe_int pa_nil)) pa_nil))
      (pa_cons (pe_callTy (call_strO T.m_str T.i_str (c_str T) (hr.mono (by decide))) (by rfl) T.f_str (by decide +kernel) (pa_cons (pe_cmethK (n := 1) (pe_gc (by rfl) T.v_Row) T.cread T.c_power FK (hr.mono (by decide)) BK pass0 (pa_cons (pe_un un_neg pe_int) pa_nil) (pk_cons (pe_un un_neg pe_int) pk_nil)) pa_nil))
      (pa_cons (pe_callTy (call_strO T.m_str T.i_str (c_str T) (hr.mono (by decide))) (by rfl) T.f_str (by decide +kernel) (pa_cons (pe_cmethK (n := 1) (pe_gc (by rfl) T.v_Row) T.cread T.c_power FK (hr.mono (by decide)) BK pass0 (pa_cons pe_int pa_nil) (pk_cons pe_int pk_nil)) pa_nil)) pa_nil)))))))
    (pss_one (ps_ret (pe_and (pe_cmpR (op_eqD hr.units) (pv 6) (pe_lst (pa_cons pe_str (pa_cons pe_str (pa_cons pe_str (pa_cons pe_str (pa_cons pe_str pa_nil)))))) (nomark _)) (pe_one (pe_cmpR (op_eqO T.m_eq T.i_eq (c_eq T) (hr.mono (by decide))) (pe_cmethS (E := WE fun _ _ _ _ => False) (pe_gc (by rfl) T.v_Row) T.cread T.c_of_text GO (hr.mono (by decide)) bO (fun σ => passAt takes0 σ) (pa_cons pe_str pa_nil)) (pe_row T hr (by decide) (by rfl) (pa_cons (pe_disp (pps_cons pe_int (pe_un un_neg pe_int) (pps_cons pe_int pe_int pps_nil)) (by rfl) (by rfl) (fun z => by cases z) (by decide)) pa_nil)) (nomark _)))))))))), ?_⟩
  have hns : (ns.map V.int).length ≤ 1000 := by rw [List.length_map]; exact hl
  refine ⟨_, rfl, a, _, rfl, .inl ha, _, _, rfl, _, _, rfl, _, rfl, ?_, ?_, ?_⟩
  · split <;> split <;> omega
  · split <;> split <;> omega
  generalize (if (if (((ns.map V.int).length : Nat) : Int) < 3 then (((ns.map V.int).length : Nat) : Int) else 3) > 1 then (if (((ns.map V.int).length : Nat) : Int) < 3 then (((ns.map V.int).length : Nat) : Int) else 3) else 1 : Int) = m
  refine for_it walk_range (fun i σ H' => ∃ x1 x2 x3 x4, σ = [some (.ref a), x1, x2, x3, x4, none, none, none] ∧ Same H H')
    ⟨none, none, none, none, rfl, Same.refl _⟩ (fun _ _ _ _ _ => True.intro) ?_ ?_
  · rintro i x σ H1 H2 hi ⟨x1, x2, x3, x4, rfl, s2⟩ ⟨rfl, rfl⟩
    refine ⟨_, rfl, _, rfl, a, ns, i, by show [V.ref a, V.int (0 + (i : Nat))] = _; rw [Int.zero_add], s2.seq ha, fun dd H3 hdd s3 hD3 => ?_⟩
    have hddH : H dd = none := s2.free hdd
    have s03 := s2.trans s3
    refine ⟨by show 3 ≤ sizeLine; decide, fun tp htp => ⟨tp, rfl, ⟨_, SqT.of upd_same⟩, ?_⟩⟩
    have s4 : Same H3 (upd H3 tp (.tup [V.int 4, V.int 12, V.int 10000])) := same_new htp
    have ht4 : (upd H3 tp (.tup [V.int 4, V.int 12, V.int 10000])) tp = some (.tup [V.int 4, V.int 12, V.int 10000]) := upd_same
    generalize upd H3 tp (.tup [V.int 4, V.int 12, V.int 10000]) = H4 at s4 ht4
    have hD4 := hD3.same s4
    have s04 := s03.trans s4
    have ntd : tp ≠ dd := fun e => by
      obtain ⟨_, _, _, hx, _⟩ := hD4
      rw [e, hx] at ht4
      cases ht4
    refine for_it (walk_tup (xs := [V.int 4, V.int 12, V.int 10000])) (fun i' σ H' => ∃ x3 x4, σ = [some (.ref a), some (.int (0 + (i : Nat))), some (.ref dd), x3, x4, none, none, none] ∧ DiceAt H' dd ∧ But dd H4 H')
      ⟨_, _, rfl, hD4, But.of (Same.refl _)⟩ (fun i' σ H' _ ⟨_, _, _, hD', b'⟩ => SqT.of (b' _ _ ht4 ntd)) ?_ ?_
    · rintro i' x σ H5 H6 hi' ⟨x3, x4, rfl, hD5, b5⟩ ⟨rfl, hx⟩
      obtain ⟨mo, rfl, m0, m1⟩ : ∃ mo : Int, x = .int mo ∧ 0 < mo ∧ mo ≤ 10000 := by
        have hm := List.mem_of_getElem? hx
        simp only [List.mem_cons, List.not_mem_nil, or_false] at hm
        rcases hm with rfl | rfl | rfl
        · exact ⟨4, rfl, by decide, by decide⟩
        · exact ⟨12, rfl, by decide, by decide⟩
        · exact ⟨10000, rfl, by decide, by decide⟩
      refine ⟨_, rfl, _, rfl, dd, mo, rfl, m0, m1, hD5, fun r H7 p hdr hp hpd hD7 hp7 b7 => ?_⟩
      have hrl := hdr.len
      have hok := ok_all hdr.ok
      have hnd := asc_nd hdr.asc
      refine ⟨_, rfl, _, rfl, _, rfl, p, r, rfl, hp7, hnd, by omega, hok, fun r' H8 a8 hs8 ha8 s8 ra8 => ?_⟩
      cases hs8.uniq (Srt.self hdr.asc hdr.ne0)
      refine ⟨dd, p, a8, r, rfl, hD7.same s8, s8 _ _ hp7, hdr, ra8, fun H9 hD9 b9 => ⟨_, rfl, iteF ?_⟩⟩
      have hp9 := b9.at (hD7.same s8) (s8 _ _ hp7) fun _ z => nomatch z
      refine ⟨_, rfl, _, rfl, _, rfl, p, r, rfl, hp9, hnd, by omega, hok, fun r' H10 a10 hs10 ha10 s10 ra10 => ?_⟩
      cases hs10.uniq (Srt.self hdr.asc hdr.ne0)
      refine ⟨dd, p, a10, r, rfl, hD9.same s10, s10 _ _ hp9, hdr, ra10, fun H11 hD11 b11 => ⟨_, rfl, iteF ?_⟩⟩
      exact ⟨_, _, rfl, hD11, b5.trans ((show But dd _ H7 from b7).trans ((But.of s8).trans (b9.trans ((But.of s10).trans b11))))⟩
    · rintro σ H5 ⟨x3, x4, rfl, hD5, b5⟩
      exact ⟨_, _, _, _, rfl, fun b o e => b5 b o (s04 b o e) (ne_of_none e hddH)⟩
  rintro σ H1 ⟨x1, x2, x3, x4, rfl, s1⟩
  -- values that are no row's text
  refine ⟨by show 0 ≤ sizeLine; decide, fun pt hpt => ⟨by show 0 ≤ sizeLine; decide, fun pl hpl => fun pd hpd => ⟨by show 1 ≤ sizeLine; decide, fun pq hpq => ⟨by show 17 ≤ sizeLine; decide, fun po hpo => ?_⟩⟩⟩⟩
  have e1 := ((same_new (H := upd H1 pt (.tup [])) (o := .lst []) hpl).trans ((same_new (o := .dK []) hpd).trans ((same_new (o := .tup [V.str (Str.ofString "1")]) hpq).trans (same_new (o := .lst [.non, .int 0, .bl true, .ref pt, .ref pl, .ref pd, .ref pq, .str (Str.ofString ""), .str (Str.ofString " "), .str (Str.ofString "x^0"), .str (Str.ofString "1x"), .str (Str.ofString "0x"), .str (Str.ofString "-0"), .str (Str.ofString "x^1"), .str (Str.ofString "x + 1 "), .str (Str.ofString "+x"), .str (Str.ofString "2 + x + x^3 - ")]) hpo)))) _ _ upd_same
  have e2 := ((same_new (H := upd (upd H1 pt (.tup [])) pl (.lst [])) (o := .dK []) hpd).trans ((same_new (o := .tup [V.str (Str.ofString "1")]) hpq).trans (same_new (o := .lst [.non, .int 0, .bl true, .ref pt, .ref pl, .ref pd, .ref pq, .str (Str.ofString ""), .str (Str.ofString " "), .str (Str.ofString "x^0"), .str (Str.ofString "1x"), .str (Str.ofString "0x"), .str (Str.ofString "-0"), .str (Str.ofString "x^1"), .str (Str.ofString "x + 1 "), .str (Str.ofString "+x"), .str (Str.ofString "2 + x + x^3 - ")]) hpo))) _ _ upd_same
  have e3 := ((same_new (H := upd (upd (upd H1 pt (.tup [])) pl (.lst [])) pd (.dK [])) (o := .tup [V.str (Str.ofString "1")]) hpq).trans (same_new (o := .lst [.non, .int 0, .bl true, .ref pt, .ref pl, .ref pd, .ref pq, .str (Str.ofString ""), .str (Str.ofString " "), .str (Str.ofString "x^0"), .str (Str.ofString "1x"), .str (Str.ofString "0x"), .str (Str.ofString "-0"), .str (Str.ofString "x^1"), .str (Str.ofString "x + 1 "), .str (Str.ofString "+x"), .str (Str.ofString "2 + x + x^3 - ")]) hpo)) _ _ upd_same
  have e4 := (same_new (H := upd (upd (upd (upd H1 pt (.tup [])) pl (.lst [])) pd (.dK [])) pq (.tup [V.str (Str.ofString "1")])) (o := .lst [.non, .int 0, .bl true, .ref pt, .ref pl, .ref pd, .ref pq, .str (Str.ofString ""), .str (Str.ofString " "), .str (Str.ofString "x^0"), .str (Str.ofString "1x"), .str (Str.ofString "0x"), .str (Str.ofString "-0"), .str (Str.ofString "x^1"), .str (Str.ofString "x + 1 "), .str (Str.ofString "+x"), .str (Str.ofString "2 + x + x^3 - ")]) hpo) _ _ upd_same
  have e5 : (upd (upd (upd (upd (upd H1 pt (.tup [])) pl (.lst [])) pd (.dK [])) pq (.tup [V.str (Str.ofString "1")])) po (.lst [.non, .int 0, .bl true, .ref pt, .ref pl, .ref pd, .ref pq, .str (Str.ofString ""), .str (Str.ofString " "), .str (Str.ofString "x^0"), .str (Str.ofString "1x"), .str (Str.ofString "0x"), .str (Str.ofString "-0"), .str (Str.ofString "x^1"), .str (Str.ofString "x + 1 "), .str (Str.ofString "+x"), .str (Str.ofString "2 + x + x^3 - ")])) po = _ := upd_same
  generalize upd (upd (upd (upd (upd H1 pt (.tup [])) pl (.lst [])) pd (.dK [])) pq (.tup [V.str (Str.ofString "1")])) po (.lst [.non, .int 0, .bl true, .ref pt, .ref pl, .ref pd, .ref pq, .str (Str.ofString ""), .str (Str.ofString " "), .str (Str.ofString "x^0"), .str (Str.ofString "1x"), .str (Str.ofString "0x"), .str (Str.ofString "-0"), .str (Str.ofString "x^1"), .str (Str.ofString "x + 1 "), .str (Str.ofString "+x"), .str (Str.ofString "2 + x + x^3 - ")]) = H2 at e1 e2 e3 e4 e5
  refine ⟨_, rfl, po, rfl, ⟨_, SqL.of e5⟩, fun D hDn => ?_⟩
  refine lc_it (walk_list (xs := [.non, .int 0, .bl true, .ref pt, .ref pl, .ref pd, .ref pq, .str (Str.ofString ""), .str (Str.ofString " "), .str (Str.ofString "x^0"), .str (Str.ofString "1x"), .str (Str.ofString "0x"), .str (Str.ofString "-0"), .str (Str.ofString "x^1"), .str (Str.ofString "x + 1 "), .str (Str.ofString "+x"), .str (Str.ofString "2 + x + x^3 - ")])) (fun i H' => Acc H2 D [] H') (Acc.start hDn) (fun i H' _ ac => SqL.of (ac.1 _ _ e5)) ?_ ?_
  · rintro i x Ha Hb hi ac ⟨rfl, hx⟩
    have hod : OddV K A Hb x := by
      have hm := List.mem_of_getElem? hx
      simp only [List.mem_cons, List.not_mem_nil, or_false] at hm
      rcases hm with rfl | rfl | rfl | rfl | rfl | rfl | rfl | rfl | rfl | rfl | rfl | rfl | rfl | rfl | rfl | rfl | rfl
      · exact odd_no (fun _ z => nomatch z) (.base .non) (kit_ty (by decide +kernel))
      · exact odd_no (fun _ z => nomatch z) (.base (.int 0)) (kit_ty (by decide +kernel))
      · exact odd_no (fun _ z => nomatch z) (.base (.bl true)) (kit_ty (by decide +kernel))
      · exact odd_no (fun _ z => nomatch z) (.base (.tup (ac.1 _ _ e1))) (kit_ty (by decide +kernel))
      · exact odd_no (fun _ z => nomatch z) (.base (.lst (ac.1 _ _ e2))) (kit_ty (by decide +kernel))
      · exact odd_no (fun _ z => nomatch z) (.base (.dK (ac.1 _ _ e3))) (kit_ty (by decide +kernel))
      · exact odd_no (fun _ z => nomatch z) (.base (.tup (ac.1 _ _ e4))) (kit_ty (by decide +kernel))
      · exact odd_tx [] rfl (by decide) (by decide +kernel)
      · exact odd_tx [32] rfl (by decide) (by decide +kernel)
      · exact odd_tx [120, 94, 48] rfl (by decide) (by decide +kernel)
      · exact odd_tx [49, 120] rfl (by decide) (by decide +kernel)
      · exact odd_tx [48, 120] rfl (by decide) (by decide +kernel)
      · exact odd_tx [45, 48] rfl (by decide) (by decide +kernel)
      · exact odd_tx [120, 94, 49] rfl (by decide) (by decide +kernel)
      · exact odd_tx [120, 32, 43, 32, 49, 32] rfl (by decide) (by decide +kernel)
      · exact odd_tx [43, 120] rfl (by decide) (by decide +kernel)
      · exact odd_tx [50, 32, 43, 32, 120, 32, 43, 32, 120, 94, 51, 32, 45, 32] rfl (by decide) (by decide +kernel)
    refine ⟨rfl, _, rfl, x, rfl, hod.1, (fun t r' H' a' et hok er _ _ _ => (hod.2 t et r' hok er).elim), fun _ H' p s' hp ht => ?_⟩
    refine ⟨by show 2 ≤ sizeLine; decide, fun pt2 hpt2 => ?_⟩
    have s8 : Same H' (upd H' pt2 (.tup [V.str (Str.ofString "parse"), V.non])) := same_new hpt2
    exact ⟨pnD, pnD, pn_dp (s8 _ _ ht), pn_dp upd_same, pn_shaped, pn_shaped, _, rfl, iteFk (by rw [pn_eqv]; rfl) (ac.same (s'.trans s8))⟩
  rintro H3 ac
  refine ⟨Nat.zero_le _, fun l hl => ?_⟩
  refine ⟨.list [], .list [], .lst (SqL.of ((same_new hl) _ _ ac.2)) .nil, .lst (SqL.of upd_same) .nil, by decide +kernel, by decide +kernel, _, rfl, iteFk rfl ?_⟩
  generalize upd H3 l (.lst []) = H4
  -- five texts
  intro pd1 hpd1
  refine ⟨_, rfl, _, rfl, upd_same, [(Sum.inl (-2), .int 1), (Sum.inl 0, .int (-3)), (Sum.inl 4, .int 2)], rfl, by show 3 ≤ 15; decide, ?_⟩
  refine ⟨pd1, [(-2, 1), (0, -3), (4, 2)], rfl, by rw [upd_same]; rfl, asc_nd ok1.asc, by decide, ok_all ok1, fun r1 H5 a1 hs1 ha1 s1 ra1 => ?_⟩
  cases hs1.uniq (Srt.self ok1.asc ok1.ne0)
  dsimp only [tNil]
  refine str_of ra1 ok1 (by decide) fun H6 s6 => ?_
  refine ⟨rfl, rfl, fun H7 a2 ha2 s7 ra2 => ?_⟩
  dsimp only [tNil]
  refine str_of ra2 ok2 (by decide) fun H8 s8 => ?_
  refine ⟨rfl, 1, 1, rfl, by decide, by decide, fun r3 H9 a3 hs3 ha3 s9 ra3 => ?_⟩
  cases hs3.uniq (Srt.self ok3.asc ok3.ne0)
  dsimp only [tNil]
  refine str_of ra3 ok3 (by decide) fun H10 s10 => ?_
  refine ⟨rfl, _, rfl, _, rfl, rfl, rfl, -3, -1, rfl, by decide, by decide, fun r4 H11 a4 hs4 ha4 s11 ra4 => ?_⟩
  cases hs4.uniq (Srt.self ok4.asc ok4.ne0)
  dsimp only [tNil]
  refine str_of ra4 ok4 (by decide) fun H12 s12 => ?_
  refine ⟨rfl, rfl, rfl, 5, 0, rfl, by decide, by decide, fun r5 H13 a5 hs5 ha5 s13 ra5 => ?_⟩
  cases hs5.uniq srt0
  dsimp only [tNil]
  refine str_of ra5 ok2 (by decide) fun H14 s14 => ?_
  refine ⟨by show 5 ≤ sizeLine; decide, fun pw hpw => ?_⟩
  have w1 : (upd H14 pw (.lst [.str (S (rend [((-2 : Int), (1 : Int)), (0, -3), (4, 2)])), .str (S (rend [])), .str (S (rend [((1 : Int), (1 : Int))])), .str (S (rend [((-3 : Int), (-1 : Int))])), .str (S (rend []))])) pw = _ := upd_same
  generalize upd H14 pw (.lst [.str (S (rend [((-2 : Int), (1 : Int)), (0, -3), (4, 2)])), .str (S (rend [])), .str (S (rend [((1 : Int), (1 : Int))])), .str (S (rend [((-3 : Int), (-1 : Int))])), .str (S (rend []))]) = H15 at w1
  refine ⟨_, rfl, by show 5 ≤ sizeLine; decide, fun pz hpz => ?_⟩
  refine ⟨.list [.str (S (rend [((-2 : Int), (1 : Int)), (0, -3), (4, 2)])), .str (S (rend [])), .str (S (rend [((1 : Int), (1 : Int))])), .str (S (rend [((-3 : Int), (-1 : Int))])), .str (S (rend []))], .list [.str (Str.ofString "x^-2 - 3 + 2x^4"), .str (Str.ofString "0"), .str (Str.ofString "x"), .str (Str.ofString "-x^-3"), .str (Str.ofString "0")],
    .lst (SqL.of ((same_new hpz) _ _ w1)) (.cons (.str _) (.cons (.str _) (.cons (.str _) (.cons (.str _) (.cons (.str _) .nil))))), .lst (SqL.of upd_same) (.cons (.str _) (.cons (.str _) (.cons (.str _) (.cons (.str _) (.cons (.str _) .nil))))), by decide +kernel, by decide +kernel, _, rfl, iteTk (by decide +kernel) ?_⟩
  generalize upd H15 pz _ = H16
  refine ⟨rfl, _, rfl, .inr ⟨tx0, rfl, by decide, by decide +kernel⟩, fun t r' H17 a6 et hok er ha6 s17 ra6 => ?_, fun hn => (hn tx0 rfl _ ok5 rend5).elim⟩
  have et : tx0 = t := by
    have h1 : V.str (S tx0) = V.str (S t) := et
    injection h1 with h1
    exact S_inj h1
  subst et
  cases rend_inj hok ok5 (er.trans rend5.symm)
  intro pd2 hpd2
  refine ⟨_, rfl, upd_same, [(Sum.inl 1, .int (-1)), (Sum.inl 3, .int 7)], rfl, by show 2 ≤ 15; decide, ?_⟩
  refine ⟨pd2, [(1, -1), (3, 7)], rfl, by rw [upd_same]; rfl, asc_nd ok5.asc, by decide, ok_all ok5, fun r7 H18 a7 hs7 ha7 s18 ra7 => ?_⟩
  cases hs7.uniq (Srt.self ok5.asc ok5.ne0)
  have s1718 : Same H17 H18 := (show Same H17 _ from by
    have := same_new (H := H17) (o := .dK (mergeK [] [((Sum.inl 1 : Key), V.int (-1)), (Sum.inl 3, .int 7)])) hpd2
    rw [upd_upd]
    exact this).trans s18
  obtain ⟨d6, dx6, j1, j2⟩ := id (ra6.same s1718)
  obtain ⟨d7, dx7, l1, l2⟩ := id ra7
  refine ⟨a6, dx6, _, _, rfl, j1, .own l1, T.notf, a6, _, _, _, rfl, ra6.same s1718, ok5.asc, .row ra7 ok5.asc, ?_⟩
  rw [show decide ([((1 : Int), (-1 : Int)), (3, 7)] = [((1 : Int), (-1 : Int)), (3, 7)]) = true from decide_eq_true rfl]
  exact q _
end
end Wb

/-! The end: the law's call by its caller, where no built-in's own loop is under way. -/
namespace Wb
open PySem PySem.Spec PyProof.Rows L2 PySem.W
/-- the script, tracked unless the written part has it -/
def scrH (K : Frag) (a : Addr) (ob : Obj) (xs : List V) : Hp := fun b => if b = a ∧ K.lookup a = none then some (.frz ob (.lst xs)) else none
theorem scrH_some {K : Frag} {a b : Addr} {ob : Obj} {xs : List V} {u : HO} (h : scrH K a ob xs b = some u) : b = a ∧ K.lookup a = none ∧ u = .frz ob (.lst xs) := by
  unfold scrH at h
  split at h
  · rename_i c
    exact ⟨c.1, c.2, (Option.some.inj h).symm⟩
  · cases h
theorem scrH_none {K : Frag} {a b : Addr} {ob : Obj} {xs : List V} (h : b = a → K.lookup a = none → False) : scrH K a ob xs b = none := if_neg fun c => h c.1 c.2
theorem call_top {P : Program} {w : World} {K : Frag} {mg mb : Str → Option Value} {k : Nat} {fa a : Addr} {sp : Sp} {s : Shared} {vs : List Value} {ns : List Int} (X : K.In s.heap) (hns : s.heap.Ns mainGlobals mg) (hb : s.heap.Ns builtinsNs mb) (hbb : ∀ x : Str, x ≠ "__name__" → mb x = bootBuiltins x)
    (hlim : s.heap.NoLimit) (hg : s.gens = #[]) (ha : s.heap.get? a = some { cls := .type "list", data := .seq vs.toArray }) (hi : IntsAre vs ns) (hl : ns.length ≤ sizeLine) (hr : Room k callerA)
    (F : ∀ base : Heap, K.In base → base.Ns mainGlobals mg → FnG P w K mg base k fa sp) (hsp : ∀ H : Hp, SqL K H a (ns.map V.int) → sp [.ref a] H (fun v _ => v = .bl true) fun _ _ _ => False) :
    codeAny (model P w) callerA (.call (.ref fa) ⟨[.ref a], []⟩) (fun r s' => r = .ok (.ret (.bool true)) ∧ OldK s.heap s'.heap ∧ s'.os = s.os ∧ AllBare s'.gens) s := by
  have rv := vals_ints hi
  have lv := hi.length
  obtain ⟨H, hH⟩ : ∃ H, H = scrH K a { cls := .type "list", data := .seq vs.toArray } (ns.map V.int) := ⟨_, rfl⟩
  have hsome : ∀ {b u}, H b = some u → b = a ∧ K.lookup a = none ∧ u = .frz { cls := .type "list", data := .seq vs.toArray } (.lst (ns.map V.int)) := fun h => scrH_some (by rw [hH] at h; exact h)
  have hk0 : ∀ {b o}, K.lookup b = some o → H b = none := fun {b o} e => by
    rw [hH]
    refine scrH_none fun e1 e2 => ?_
    rw [e1, e2] at e
    cases e
  have hd0 : ∀ {b : Addr} {o : Obj} {es : Array DictEntry} {ep : Nat}, s.heap.get? b = some o → o.data = .dict es ep → H b = none := fun {b o es ep} e d => by
    rw [hH]
    refine scrH_none fun e1 e2 => ?_
    rw [e1, ha] at e
    cases e
    have d' : Data.seq vs.toArray 0 = Data.dict es ep := d
    cases d'
  have nsK : ∀ {b : Addr} {m : Str → Option Value}, s.heap.Ns b m → (hidT s.heap H).Ns b m := fun ⟨o, es, ep, e, d, r⟩ => ⟨o, es, ep, hidT_get e (hd0 e d), d, r⟩
  have kin : K.In (hidT s.heap H) := fun b o e => hidT_get (X b o e) (hk0 e)
  have hM : Mod K mg (hidT s.heap H) := ⟨kin, nsK hns, ⟨mb, nsK hb, hbb⟩, hlim.imp fun m z => ⟨nsK z.1, z.2⟩⟩
  have hok : HOk P w H s.heap := fun b u e => by
    obtain ⟨rfl, _, rfl⟩ := hsome e
    exact ⟨ha, by rw [List.length_map]; exact hl, vs, _, rv, ha⟩
  have hS : SqL K H a (ns.map V.int) := by
    cases hk : K.lookup a with
    | none =>
      refine .inl (.inr ⟨{ cls := .type "list", data := .seq vs.toArray }, ?_⟩)
      rw [hH]
      exact if_pos ⟨rfl, hk⟩
    | some o =>
      have e := X a o hk
      rw [ha] at e
      cases e
      exact .inr ⟨_, vs.toArray, _, hk, rfl, rfl, rfl, by rw [List.size_toArray, lv]; exact hl, by simpa using rv⟩
  have e0 : Env0 P w K mg (hidT s.heap H) callerA [] s H := ⟨rfl, hM, fun b o e => of_hidT e, Nat.le_of_eq (hidT_size _ _), trivial, (fun b hb => nomatch hb), hok, .of_eq hg⟩
  refine codeAny_mono (F _ kin (nsK hns) callerA [] s H [.ref a] [.ref a] _ _ rfl hr e0 (.cons rfl .nil) (hsp H hS)) fun r s' h => ?_
  cases r with
  | error e => exact False.elim h
  | ok fl =>
    cases fl with
    | next => exact False.elim h
    | brk => exact False.elim h
    | cont => exact False.elim h
    | ret u =>
      obtain ⟨v, H', os, bare, un, hok', r', q⟩ := h
      have q' : v = .bl true := q
      subst q'
      obtain rfl : u = Value.bool true := r'
      refine ⟨rfl, OldK.of_keep fun b o e => ?_, os, bare⟩
      cases hb : H b with
      | none => exact un.keep b o e hb (fun z => nomatch z) (fun z => nomatch z)
      | some u =>
        obtain ⟨rfl, _, rfl⟩ := hsome hb
        rw [ha] at e
        cases e
        exact (hok' b _ (un.frzs b _ _ hb)).1
end Wb

/-! What the top leaves, as facts of the written part (printed by mkend.py). -/
namespace Wb
open PySem PySem.Spec PyProof.Rows L2
open PySem.W (XL WData)
theorem exm_own {K : PySem.W.Frag} {C : Addr} (h1 : PySem.W.subIn K (.ref C) (.type "BaseException") = some true) (h2 : PySem.W.isClsIn K C = true) (h3 : PySem.W.typeIn K (.ref C) = some (.type "type")) (h4 : PySem.W.subIn K (.ref C) (.ref C) = some true) : PySem.W.exmOne K (.ref C) (.ref C) = some true := by
  have e1 : (PySem.W.subIn K (.ref C) (.type "BaseException") == some true) = true := by rw [h1] <;> rfl
  have e2 : ((PySem.W.clsIn K C).isSome && PySem.W.typeIn K (.ref C) == some (.type "type")) = true := by
    have h : (PySem.W.clsIn K C).isSome = true := h2
    rw [h, h3] <;> rfl
  unfold PySem.W.exmOne
  rw [if_pos e1]
  show (if ((PySem.W.clsIn K C).isSome && PySem.W.typeIn K (.ref C) == some (.type "type")) = true then PySem.W.subIn K (.ref C) (.ref C) else none) = some true
  rw [if_pos e2]
  exact h4
theorem kit_self {K : PySem.W.Frag} {C : Addr} : PySem.W.kitOne K (.ref C) (.ref C) = some true := by
  unfold PySem.W.kitOne
  exact if_pos (by simp)
theorem kit_blt {K : PySem.W.Frag} {C : Addr} {T : String} {b : Bool} (m : PySem.W.kitMeta T = true) (h : PySem.W.subIn K (.ref C) (.type T) = some b) : PySem.W.kitOne K (.ref C) (.type T) = some b := by
  unfold PySem.W.kitOne
  rw [if_neg (by simp)]
  show (if PySem.W.kitMeta T = true then PySem.W.subIn K (.ref C) (.type T) else none) = _
  rw [if_pos m]
  exact h
theorem kit_own {K : PySem.W.Frag} {C : Addr} {T : String} {b : Bool} (h2 : PySem.W.isClsIn K C = true) (h3 : PySem.W.typeIn K (.ref C) = some (.type "type")) (h : PySem.W.subIn K (.type T) (.ref C) = some b) : PySem.W.kitOne K (.type T) (.ref C) = some b := by
  have e2 : ((PySem.W.clsIn K C).isSome && PySem.W.typeIn K (.ref C) == some (.type "type")) = true := by
    have h : (PySem.W.clsIn K C).isSome = true := h2
    rw [h, h3] <;> rfl
  unfold PySem.W.kitOne
  rw [if_neg (by simp)]
  show (if ((PySem.W.clsIn K C).isSome && PySem.W.typeIn K (.ref C) == some (.type "type")) = true then PySem.W.subIn K (.type T) (.ref C) else none) = _
  rw [if_pos e2]
  exact h
theorem sup_own {K : PySem.W.Frag} {C D N N2 : Addr} {nm q nm2 q2 : Str} {bs sub bs2 sub2 bm : List Value} {sn sn2 : List Str} {ab ab2 : Bool} {col col2 : Option Bool} {dd dd2 : Option Addr} {m0 m1 m2 m3 m5 n0 n1 n2 n3 n5 : Option Value} {r : Option (Option Value)}
    (h1 : K.lookup C = some (excClassObj nm q C N bs (.ref D :: bm) true sn sub ab col dd m0 m1 m2 m3 m5 "ValueError.__new__")) (h2 : K.lookup D = some (excClassObj nm2 q2 D N2 bs2 bm true sn2 sub2 ab2 col2 dd2 n0 n1 n2 n3 n5 "ValueError.__new__"))
    (h3 : PySem.W.findIn K (.ref D) "__init__" = r) : PySem.W.ks_superIn K C C "__init__" = r := by
  have hcl : PySem.W.clsIn K C = some { name := nm, bases := bs, mro := .ref C :: .ref D :: bm, ns := N, qualname := q, hasDict := true, slotNames := sn, subclasses := sub, abstract := ab, collection := col, hasDel := false } := by unfold PySem.W.clsIn; rw [h1] <;> rfl
  unfold PySem.W.ks_superIn
  rw [hcl]
  have e : ((Value.ref C :: Value.ref D :: bm).dropWhile (· != .ref C)).drop 1 = Value.ref D :: bm := by simp
  show PySem.W.alongIn K "__init__" (((Value.ref C :: Value.ref D :: bm).dropWhile (· != .ref C)).drop 1) = _
  rw [e]
  unfold PySem.W.findIn at h3
  dsimp only at h3
  rw [h2] at h3
  exact h3
theorem all_mk {P : Program} {K : PySem.W.Frag} {h : Heap} {mg : Str → Option Value} {fa : Addr} (X : K.In h) (G : h.Ns mainGlobals mg) (hfa : mg "law" = some (.ref fa)) (hB : ∃ u, mg "BOUND" = some u ∧ RelV (.int (10 ^ 60)) u)
    {ais_integer ais_power aare_terms apower_text aterm_text aterms_text aare_figures aexponent_told aterm_told asigned_terms aterms_told asorted_terms a_law_dice a_law_roll a_law_pick a_law_row a_law_added a_law_is_row a_law_drawn_row a_law_row_text a_law_term_read a_law_text_read a_law_of_text a_law_bent a_law_told_right a_law_texts_right alaw aR_init aR_power aR_none aR_of_text aR_terms aR_low aR_high aR_span aR_getitem aR_contains aR_len aR_iter aR_eq aR_str ap_terms ap_low ap_high ap_span ap_power ap_none ap_of_text ap_own aRow aPErr aPErr_init : Addr}
    {t_MAX_POWER : Tok}
    {t_MAX_FIGURES : Tok}
    {t_LETTER : Tok}
    {t_FIGURES : Tok}
    {oc_d_is_integer kV_d_is_integer dc_d_is_integer pm_d_is_integer cd_d_is_integer ct_d_is_integer : Value} {od_d_is_integer an_d_is_integer : Option Addr} {sl_d_is_integer : Array (Option Value)}
    {oc_d_is_power kV_d_is_power dc_d_is_power pm_d_is_power cd_d_is_power ct_d_is_power : Value} {od_d_is_power an_d_is_power : Option Addr} {sl_d_is_power : Array (Option Value)}
    {oc_d_are_terms kV_d_are_terms dc_d_are_terms pm_d_are_terms cd_d_are_terms ct_d_are_terms : Value} {od_d_are_terms an_d_are_terms : Option Addr} {sl_d_are_terms : Array (Option Value)}
    {oc_d_power_text kV_d_power_text dc_d_power_text pm_d_power_text cd_d_power_text ct_d_power_text : Value} {od_d_power_text an_d_power_text : Option Addr} {sl_d_power_text : Array (Option Value)}
    {oc_d_term_text kV_d_term_text dc_d_term_text pm_d_term_text cd_d_term_text ct_d_term_text : Value} {od_d_term_text an_d_term_text : Option Addr} {sl_d_term_text : Array (Option Value)}
    {oc_d_terms_text kV_d_terms_text dc_d_terms_text pm_d_terms_text cd_d_terms_text ct_d_terms_text : Value} {od_d_terms_text an_d_terms_text : Option Addr} {sl_d_terms_text : Array (Option Value)}
    {oc_d_are_figures kV_d_are_figures dc_d_are_figures pm_d_are_figures cd_d_are_figures ct_d_are_figures : Value} {od_d_are_figures an_d_are_figures : Option Addr} {sl_d_are_figures : Array (Option Value)}
    {oc_d_exponent_told kV_d_exponent_told dc_d_exponent_told pm_d_exponent_told cd_d_exponent_told ct_d_exponent_told : Value} {od_d_exponent_told an_d_exponent_told : Option Addr} {sl_d_exponent_told : Array (Option Value)}
    {oc_d_term_told kV_d_term_told dc_d_term_told pm_d_term_told cd_d_term_told ct_d_term_told : Value} {od_d_term_told an_d_term_told : Option Addr} {sl_d_term_told : Array (Option Value)}
    {oc_d_signed_terms kV_d_signed_terms dc_d_signed_terms pm_d_signed_terms cd_d_signed_terms ct_d_signed_terms : Value} {od_d_signed_terms an_d_signed_terms : Option Addr} {sl_d_signed_terms : Array (Option Value)}
    {oc_d_terms_told kV_d_terms_told dc_d_terms_told pm_d_terms_told cd_d_terms_told ct_d_terms_told : Value} {od_d_terms_told an_d_terms_told : Option Addr} {sl_d_terms_told : Array (Option Value)}
    {oc_d_sorted_terms kV_d_sorted_terms dc_d_sorted_terms pm_d_sorted_terms cd_d_sorted_terms ct_d_sorted_terms : Value} {od_d_sorted_terms an_d_sorted_terms : Option Addr} {sl_d_sorted_terms : Array (Option Value)}
    {oc_d__law_dice kV_d__law_dice dc_d__law_dice pm_d__law_dice cd_d__law_dice ct_d__law_dice : Value} {od_d__law_dice an_d__law_dice : Option Addr} {sl_d__law_dice : Array (Option Value)}
    {oc_d__law_roll kV_d__law_roll dc_d__law_roll pm_d__law_roll cd_d__law_roll ct_d__law_roll : Value} {od_d__law_roll an_d__law_roll : Option Addr} {sl_d__law_roll : Array (Option Value)}
    {oc_d__law_pick kV_d__law_pick dc_d__law_pick pm_d__law_pick cd_d__law_pick ct_d__law_pick : Value} {od_d__law_pick an_d__law_pick : Option Addr} {sl_d__law_pick : Array (Option Value)}
    {oc_d__law_row kV_d__law_row dc_d__law_row pm_d__law_row cd_d__law_row ct_d__law_row : Value} {od_d__law_row an_d__law_row : Option Addr} {sl_d__law_row : Array (Option Value)}
    {oc_d__law_added kV_d__law_added dc_d__law_added pm_d__law_added cd_d__law_added ct_d__law_added : Value} {od_d__law_added an_d__law_added : Option Addr} {sl_d__law_added : Array (Option Value)}
    {oc_d__law_is_row kV_d__law_is_row dc_d__law_is_row pm_d__law_is_row cd_d__law_is_row ct_d__law_is_row : Value} {od_d__law_is_row an_d__law_is_row : Option Addr} {sl_d__law_is_row : Array (Option Value)}
    {oc_d__law_drawn_row kV_d__law_drawn_row dc_d__law_drawn_row pm_d__law_drawn_row cd_d__law_drawn_row ct_d__law_drawn_row : Value} {od_d__law_drawn_row an_d__law_drawn_row : Option Addr} {sl_d__law_drawn_row : Array (Option Value)}
    {oc_d__law_row_text kV_d__law_row_text dc_d__law_row_text pm_d__law_row_text cd_d__law_row_text ct_d__law_row_text : Value} {od_d__law_row_text an_d__law_row_text : Option Addr} {sl_d__law_row_text : Array (Option Value)}
    {oc_d__law_term_read kV_d__law_term_read dc_d__law_term_read pm_d__law_term_read cd_d__law_term_read ct_d__law_term_read : Value} {od_d__law_term_read an_d__law_term_read : Option Addr} {sl_d__law_term_read : Array (Option Value)}
    {oc_d__law_text_read kV_d__law_text_read dc_d__law_text_read pm_d__law_text_read cd_d__law_text_read ct_d__law_text_read : Value} {od_d__law_text_read an_d__law_text_read : Option Addr} {sl_d__law_text_read : Array (Option Value)}
    {oc_d__law_of_text kV_d__law_of_text dc_d__law_of_text pm_d__law_of_text cd_d__law_of_text ct_d__law_of_text : Value} {od_d__law_of_text an_d__law_of_text : Option Addr} {sl_d__law_of_text : Array (Option Value)}
    {oc_d__law_bent kV_d__law_bent dc_d__law_bent pm_d__law_bent cd_d__law_bent ct_d__law_bent : Value} {od_d__law_bent an_d__law_bent : Option Addr} {sl_d__law_bent : Array (Option Value)}
    {oc_d__law_told_right kV_d__law_told_right dc_d__law_told_right pm_d__law_told_right cd_d__law_told_right ct_d__law_told_right : Value} {od_d__law_told_right an_d__law_told_right : Option Addr} {sl_d__law_told_right : Array (Option Value)}
    {oc_d__law_texts_right kV_d__law_texts_right dc_d__law_texts_right pm_d__law_texts_right cd_d__law_texts_right ct_d__law_texts_right : Value} {od_d__law_texts_right an_d__law_texts_right : Option Addr} {sl_d__law_texts_right : Array (Option Value)}
    {oc_d_law kV_d_law dc_d_law pm_d_law cd_d_law ct_d_law : Value} {od_d_law an_d_law : Option Addr} {sl_d_law : Array (Option Value)}
    {oc_d_R_init dc_d_R_init pm_d_R_init cd_d_R_init ct_d_R_init : Value} {od_d_R_init an_d_R_init : Option Addr} {sl_d_R_init : Array (Option Value)} {D_d_R_init : Addr}
    {oc_d_R_power dc_d_R_power pm_d_R_power cd_d_R_power ct_d_R_power : Value} {od_d_R_power an_d_R_power : Option Addr} {sl_d_R_power : Array (Option Value)} {D_d_R_power : Addr}
    {tw_d_R_power : Tok}
    {oc_d_R_none kV_d_R_none dc_d_R_none pm_d_R_none cd_d_R_none ct_d_R_none : Value} {od_d_R_none an_d_R_none : Option Addr} {sl_d_R_none : Array (Option Value)}
    {oc_d_R_of_text kV_d_R_of_text dc_d_R_of_text pm_d_R_of_text cd_d_R_of_text ct_d_R_of_text : Value} {od_d_R_of_text an_d_R_of_text : Option Addr} {sl_d_R_of_text : Array (Option Value)}
    {oc_d_R_terms kV_d_R_terms dc_d_R_terms pm_d_R_terms cd_d_R_terms ct_d_R_terms : Value} {od_d_R_terms an_d_R_terms : Option Addr} {sl_d_R_terms : Array (Option Value)}
    {oc_d_R_low kV_d_R_low dc_d_R_low pm_d_R_low cd_d_R_low ct_d_R_low : Value} {od_d_R_low an_d_R_low : Option Addr} {sl_d_R_low : Array (Option Value)}
    {oc_d_R_high kV_d_R_high dc_d_R_high pm_d_R_high cd_d_R_high ct_d_R_high : Value} {od_d_R_high an_d_R_high : Option Addr} {sl_d_R_high : Array (Option Value)}
    {oc_d_R_span kV_d_R_span dc_d_R_span pm_d_R_span cd_d_R_span ct_d_R_span : Value} {od_d_R_span an_d_R_span : Option Addr} {sl_d_R_span : Array (Option Value)}
    {oc_d_R_getitem kV_d_R_getitem dc_d_R_getitem pm_d_R_getitem cd_d_R_getitem ct_d_R_getitem : Value} {od_d_R_getitem an_d_R_getitem : Option Addr} {sl_d_R_getitem : Array (Option Value)}
    {oc_d_R_contains kV_d_R_contains dc_d_R_contains pm_d_R_contains cd_d_R_contains ct_d_R_contains : Value} {od_d_R_contains an_d_R_contains : Option Addr} {sl_d_R_contains : Array (Option Value)}
    {oc_d_R_len kV_d_R_len dc_d_R_len pm_d_R_len cd_d_R_len ct_d_R_len : Value} {od_d_R_len an_d_R_len : Option Addr} {sl_d_R_len : Array (Option Value)}
    {oc_d_R_iter kV_d_R_iter dc_d_R_iter pm_d_R_iter cd_d_R_iter ct_d_R_iter : Value} {od_d_R_iter an_d_R_iter : Option Addr} {sl_d_R_iter : Array (Option Value)}
    {oc_d_R_eq kV_d_R_eq dc_d_R_eq pm_d_R_eq cd_d_R_eq ct_d_R_eq : Value} {od_d_R_eq an_d_R_eq : Option Addr} {sl_d_R_eq : Array (Option Value)}
    {oc_d_R_str kV_d_R_str dc_d_R_str pm_d_R_str cd_d_R_str ct_d_R_str : Value} {od_d_R_str an_d_R_str : Option Addr} {sl_d_R_str : Array (Option Value)}
    {re_r_terms : List Value}
    {re_r_low : List Value}
    {re_r_high : List Value}
    {re_r_span : List Value}
    {re_c_power : List Value}
    {re_c_none : List Value}
    {re_c_of_text : List Value}
    {nm q : Str} {N : Addr} {bs : List Value} {sn : List Str} {sub : List Value} {ab : Bool} {col : Option Bool} {dd : Option Addr} {m0 m1 m2 m3 m5 : Option Value} {aCE : Addr}
    {nm2 q2 : Str} {N2 : Addr} {bs2 : List Value} {sn2 : List Str} {sub2 : List Value} {ab2 : Bool} {col2 : Option Bool} {dd2 : Option Addr} {n0 n1 n2 n3 n5 : Option Value}
    {oc pdoc ppm pct ccl cl : Value} {od pan cdd cld : Option Addr} {osl ccs csl : Array (Option Value)} {cda cc : Addr} {vs : Array Value} {file : Str} {tf : Tok}
    (h_f_isinstance : PySem.W.nsIn K mainGlobals "isinstance" = some (none))
    (h_f_abs : PySem.W.nsIn K mainGlobals "abs" = some (none))
    (h_f_len : PySem.W.nsIn K mainGlobals "len" = some (none))
    (h_f_all : PySem.W.nsIn K mainGlobals "all" = some (none))
    (h_f_any : PySem.W.nsIn K mainGlobals "any" = some (none))
    (h_f_int : PySem.W.nsIn K mainGlobals "int" = some (none))
    (h_f_bool : PySem.W.nsIn K mainGlobals "bool" = some (none))
    (h_f_dict : PySem.W.nsIn K mainGlobals "dict" = some (none))
    (h_f_str : PySem.W.nsIn K mainGlobals "str" = some (none))
    (h_f_list : PySem.W.nsIn K mainGlobals "list" = some (none))
    (h_f_zip : PySem.W.nsIn K mainGlobals "zip" = some (none))
    (h_f_sorted : PySem.W.nsIn K mainGlobals "sorted" = some (none))
    (h_f_min : PySem.W.nsIn K mainGlobals "min" = some (none))
    (h_f_max : PySem.W.nsIn K mainGlobals "max" = some (none))
    (h_f_iter : PySem.W.nsIn K mainGlobals "iter" = some (none))
    (h_f_repr : PySem.W.nsIn K mainGlobals "repr" = some (none))
    (h_f_range : PySem.W.nsIn K mainGlobals "range" = some (none))
    (h_f_enumerate : PySem.W.nsIn K mainGlobals "enumerate" = some (none))
    (h_v_MAX_POWER : PySem.W.nsIn K mainGlobals "MAX_POWER" = some (some (.int 10000 t_MAX_POWER)))
    (h_v_MAX_FIGURES : PySem.W.nsIn K mainGlobals "MAX_FIGURES" = some (some (.int 60 t_MAX_FIGURES)))
    (h_v_LETTER : PySem.W.nsIn K mainGlobals "LETTER" = some (some (.str "x" t_LETTER)))
    (h_v_FIGURES : PySem.W.nsIn K mainGlobals "FIGURES" = some (some (.str "0123456789" t_FIGURES)))
    (h_v_Row : PySem.W.nsIn K mainGlobals "Row" = some (some (.ref aRow)))
    (h_g_is_integer : PySem.W.nsIn K mainGlobals "is_integer" = some (some (.ref ais_integer)))
    (h_k_is_integer : PySem.W.keepIn K (.ref ais_integer) = true)
    (h_ld_is_integer : K.lookup ais_integer = some ⟨oc_d_is_integer, od_d_is_integer, .func (PySem.W.fnOf "is_integer" "is_integer" (defArgs s_is_integer) (defBody s_is_integer) (defScope s_is_integer) .none kV_d_is_integer dc_d_is_integer pm_d_is_integer an_d_is_integer cd_d_is_integer ct_d_is_integer), sl_d_is_integer⟩)
    (h_cd_is_integer : PySem.W.codeIn K cd_d_is_integer "is_integer" = true)
    (h_kpd_is_integer : PySem.W.keepIn K (.ref ais_integer) = true)
    (h_g_is_power : PySem.W.nsIn K mainGlobals "is_power" = some (some (.ref ais_power)))
    (h_k_is_power : PySem.W.keepIn K (.ref ais_power) = true)
    (h_ld_is_power : K.lookup ais_power = some ⟨oc_d_is_power, od_d_is_power, .func (PySem.W.fnOf "is_power" "is_power" (defArgs s_is_power) (defBody s_is_power) (defScope s_is_power) .none kV_d_is_power dc_d_is_power pm_d_is_power an_d_is_power cd_d_is_power ct_d_is_power), sl_d_is_power⟩)
    (h_cd_is_power : PySem.W.codeIn K cd_d_is_power "is_power" = true)
    (h_kpd_is_power : PySem.W.keepIn K (.ref ais_power) = true)
    (h_g_are_terms : PySem.W.nsIn K mainGlobals "are_terms" = some (some (.ref aare_terms)))
    (h_k_are_terms : PySem.W.keepIn K (.ref aare_terms) = true)
    (h_ld_are_terms : K.lookup aare_terms = some ⟨oc_d_are_terms, od_d_are_terms, .func (PySem.W.fnOf "are_terms" "are_terms" (defArgs s_are_terms) (defBody s_are_terms) (defScope s_are_terms) .none kV_d_are_terms dc_d_are_terms pm_d_are_terms an_d_are_terms cd_d_are_terms ct_d_are_terms), sl_d_are_terms⟩)
    (h_cd_are_terms : PySem.W.codeIn K cd_d_are_terms "are_terms" = true)
    (h_kpd_are_terms : PySem.W.keepIn K (.ref aare_terms) = true)
    (h_g_power_text : PySem.W.nsIn K mainGlobals "power_text" = some (some (.ref apower_text)))
    (h_k_power_text : PySem.W.keepIn K (.ref apower_text) = true)
    (h_ld_power_text : K.lookup apower_text = some ⟨oc_d_power_text, od_d_power_text, .func (PySem.W.fnOf "power_text" "power_text" (defArgs s_power_text) (defBody s_power_text) (defScope s_power_text) .none kV_d_power_text dc_d_power_text pm_d_power_text an_d_power_text cd_d_power_text ct_d_power_text), sl_d_power_text⟩)
    (h_cd_power_text : PySem.W.codeIn K cd_d_power_text "power_text" = true)
    (h_kpd_power_text : PySem.W.keepIn K (.ref apower_text) = true)
    (h_g_term_text : PySem.W.nsIn K mainGlobals "term_text" = some (some (.ref aterm_text)))
    (h_k_term_text : PySem.W.keepIn K (.ref aterm_text) = true)
    (h_ld_term_text : K.lookup aterm_text = some ⟨oc_d_term_text, od_d_term_text, .func (PySem.W.fnOf "term_text" "term_text" (defArgs s_term_text) (defBody s_term_text) (defScope s_term_text) .none kV_d_term_text dc_d_term_text pm_d_term_text an_d_term_text cd_d_term_text ct_d_term_text), sl_d_term_text⟩)
    (h_cd_term_text : PySem.W.codeIn K cd_d_term_text "term_text" = true)
    (h_kpd_term_text : PySem.W.keepIn K (.ref aterm_text) = true)
    (h_g_terms_text : PySem.W.nsIn K mainGlobals "terms_text" = some (some (.ref aterms_text)))
    (h_k_terms_text : PySem.W.keepIn K (.ref aterms_text) = true)
    (h_ld_terms_text : K.lookup aterms_text = some ⟨oc_d_terms_text, od_d_terms_text, .func (PySem.W.fnOf "terms_text" "terms_text" (defArgs s_terms_text) (defBody s_terms_text) (defScope s_terms_text) .none kV_d_terms_text dc_d_terms_text pm_d_terms_text an_d_terms_text cd_d_terms_text ct_d_terms_text), sl_d_terms_text⟩)
    (h_cd_terms_text : PySem.W.codeIn K cd_d_terms_text "terms_text" = true)
    (h_kpd_terms_text : PySem.W.keepIn K (.ref aterms_text) = true)
    (h_g_are_figures : PySem.W.nsIn K mainGlobals "are_figures" = some (some (.ref aare_figures)))
    (h_k_are_figures : PySem.W.keepIn K (.ref aare_figures) = true)
    (h_ld_are_figures : K.lookup aare_figures = some ⟨oc_d_are_figures, od_d_are_figures, .func (PySem.W.fnOf "are_figures" "are_figures" (defArgs s_are_figures) (defBody s_are_figures) (defScope s_are_figures) .none kV_d_are_figures dc_d_are_figures pm_d_are_figures an_d_are_figures cd_d_are_figures ct_d_are_figures), sl_d_are_figures⟩)
    (h_cd_are_figures : PySem.W.codeIn K cd_d_are_figures "are_figures" = true)
    (h_kpd_are_figures : PySem.W.keepIn K (.ref aare_figures) = true)
    (h_g_exponent_told : PySem.W.nsIn K mainGlobals "exponent_told" = some (some (.ref aexponent_told)))
    (h_k_exponent_told : PySem.W.keepIn K (.ref aexponent_told) = true)
    (h_ld_exponent_told : K.lookup aexponent_told = some ⟨oc_d_exponent_told, od_d_exponent_told, .func (PySem.W.fnOf "exponent_told" "exponent_told" (defArgs s_exponent_told) (defBody s_exponent_told) (defScope s_exponent_told) .none kV_d_exponent_told dc_d_exponent_told pm_d_exponent_told an_d_exponent_told cd_d_exponent_told ct_d_exponent_told), sl_d_exponent_told⟩)
    (h_cd_exponent_told : PySem.W.codeIn K cd_d_exponent_told "exponent_told" = true)
    (h_kpd_exponent_told : PySem.W.keepIn K (.ref aexponent_told) = true)
    (h_g_term_told : PySem.W.nsIn K mainGlobals "term_told" = some (some (.ref aterm_told)))
    (h_k_term_told : PySem.W.keepIn K (.ref aterm_told) = true)
    (h_ld_term_told : K.lookup aterm_told = some ⟨oc_d_term_told, od_d_term_told, .func (PySem.W.fnOf "term_told" "term_told" (defArgs s_term_told) (defBody s_term_told) (defScope s_term_told) .none kV_d_term_told dc_d_term_told pm_d_term_told an_d_term_told cd_d_term_told ct_d_term_told), sl_d_term_told⟩)
    (h_cd_term_told : PySem.W.codeIn K cd_d_term_told "term_told" = true)
    (h_kpd_term_told : PySem.W.keepIn K (.ref aterm_told) = true)
    (h_g_signed_terms : PySem.W.nsIn K mainGlobals "signed_terms" = some (some (.ref asigned_terms)))
    (h_k_signed_terms : PySem.W.keepIn K (.ref asigned_terms) = true)
    (h_ld_signed_terms : K.lookup asigned_terms = some ⟨oc_d_signed_terms, od_d_signed_terms, .func (PySem.W.fnOf "signed_terms" "signed_terms" (defArgs s_signed_terms) (defBody s_signed_terms) (defScope s_signed_terms) .none kV_d_signed_terms dc_d_signed_terms pm_d_signed_terms an_d_signed_terms cd_d_signed_terms ct_d_signed_terms), sl_d_signed_terms⟩)
    (h_cd_signed_terms : PySem.W.codeIn K cd_d_signed_terms "signed_terms" = true)
    (h_kpd_signed_terms : PySem.W.keepIn K (.ref asigned_terms) = true)
    (h_g_terms_told : PySem.W.nsIn K mainGlobals "terms_told" = some (some (.ref aterms_told)))
    (h_k_terms_told : PySem.W.keepIn K (.ref aterms_told) = true)
    (h_ld_terms_told : K.lookup aterms_told = some ⟨oc_d_terms_told, od_d_terms_told, .func (PySem.W.fnOf "terms_told" "terms_told" (defArgs s_terms_told) (defBody s_terms_told) (defScope s_terms_told) .none kV_d_terms_told dc_d_terms_told pm_d_terms_told an_d_terms_told cd_d_terms_told ct_d_terms_told), sl_d_terms_told⟩)
    (h_cd_terms_told : PySem.W.codeIn K cd_d_terms_told "terms_told" = true)
    (h_kpd_terms_told : PySem.W.keepIn K (.ref aterms_told) = true)
    (h_g_sorted_terms : PySem.W.nsIn K mainGlobals "sorted_terms" = some (some (.ref asorted_terms)))
    (h_k_sorted_terms : PySem.W.keepIn K (.ref asorted_terms) = true)
    (h_ld_sorted_terms : K.lookup asorted_terms = some ⟨oc_d_sorted_terms, od_d_sorted_terms, .func (PySem.W.fnOf "sorted_terms" "sorted_terms" (defArgs s_sorted_terms) (defBody s_sorted_terms) (defScope s_sorted_terms) .none kV_d_sorted_terms dc_d_sorted_terms pm_d_sorted_terms an_d_sorted_terms cd_d_sorted_terms ct_d_sorted_terms), sl_d_sorted_terms⟩)
    (h_cd_sorted_terms : PySem.W.codeIn K cd_d_sorted_terms "sorted_terms" = true)
    (h_kpd_sorted_terms : PySem.W.keepIn K (.ref asorted_terms) = true)
    (h_g__law_dice : PySem.W.nsIn K mainGlobals "_law_dice" = some (some (.ref a_law_dice)))
    (h_k__law_dice : PySem.W.keepIn K (.ref a_law_dice) = true)
    (h_ld__law_dice : K.lookup a_law_dice = some ⟨oc_d__law_dice, od_d__law_dice, .func (PySem.W.fnOf "_law_dice" "_law_dice" (defArgs s_law_dice) (defBody s_law_dice) (defScope s_law_dice) .none kV_d__law_dice dc_d__law_dice pm_d__law_dice an_d__law_dice cd_d__law_dice ct_d__law_dice), sl_d__law_dice⟩)
    (h_cd__law_dice : PySem.W.codeIn K cd_d__law_dice "_law_dice" = true)
    (h_kpd__law_dice : PySem.W.keepIn K (.ref a_law_dice) = true)
    (h_g__law_roll : PySem.W.nsIn K mainGlobals "_law_roll" = some (some (.ref a_law_roll)))
    (h_k__law_roll : PySem.W.keepIn K (.ref a_law_roll) = true)
    (h_ld__law_roll : K.lookup a_law_roll = some ⟨oc_d__law_roll, od_d__law_roll, .func (PySem.W.fnOf "_law_roll" "_law_roll" (defArgs s_law_roll) (defBody s_law_roll) (defScope s_law_roll) .none kV_d__law_roll dc_d__law_roll pm_d__law_roll an_d__law_roll cd_d__law_roll ct_d__law_roll), sl_d__law_roll⟩)
    (h_cd__law_roll : PySem.W.codeIn K cd_d__law_roll "_law_roll" = true)
    (h_kpd__law_roll : PySem.W.keepIn K (.ref a_law_roll) = true)
    (h_g__law_pick : PySem.W.nsIn K mainGlobals "_law_pick" = some (some (.ref a_law_pick)))
    (h_k__law_pick : PySem.W.keepIn K (.ref a_law_pick) = true)
    (h_ld__law_pick : K.lookup a_law_pick = some ⟨oc_d__law_pick, od_d__law_pick, .func (PySem.W.fnOf "_law_pick" "_law_pick" (defArgs s_law_pick) (defBody s_law_pick) (defScope s_law_pick) .none kV_d__law_pick dc_d__law_pick pm_d__law_pick an_d__law_pick cd_d__law_pick ct_d__law_pick), sl_d__law_pick⟩)
    (h_cd__law_pick : PySem.W.codeIn K cd_d__law_pick "_law_pick" = true)
    (h_kpd__law_pick : PySem.W.keepIn K (.ref a_law_pick) = true)
    (h_g__law_row : PySem.W.nsIn K mainGlobals "_law_row" = some (some (.ref a_law_row)))
    (h_k__law_row : PySem.W.keepIn K (.ref a_law_row) = true)
    (h_ld__law_row : K.lookup a_law_row = some ⟨oc_d__law_row, od_d__law_row, .func (PySem.W.fnOf "_law_row" "_law_row" (defArgs s_law_row) (defBody s_law_row) (defScope s_law_row) .none kV_d__law_row dc_d__law_row pm_d__law_row an_d__law_row cd_d__law_row ct_d__law_row), sl_d__law_row⟩)
    (h_cd__law_row : PySem.W.codeIn K cd_d__law_row "_law_row" = true)
    (h_kpd__law_row : PySem.W.keepIn K (.ref a_law_row) = true)
    (h_g__law_added : PySem.W.nsIn K mainGlobals "_law_added" = some (some (.ref a_law_added)))
    (h_k__law_added : PySem.W.keepIn K (.ref a_law_added) = true)
    (h_ld__law_added : K.lookup a_law_added = some ⟨oc_d__law_added, od_d__law_added, .func (PySem.W.fnOf "_law_added" "_law_added" (defArgs s_law_added) (defBody s_law_added) (defScope s_law_added) .none kV_d__law_added dc_d__law_added pm_d__law_added an_d__law_added cd_d__law_added ct_d__law_added), sl_d__law_added⟩)
    (h_cd__law_added : PySem.W.codeIn K cd_d__law_added "_law_added" = true)
    (h_kpd__law_added : PySem.W.keepIn K (.ref a_law_added) = true)
    (h_g__law_is_row : PySem.W.nsIn K mainGlobals "_law_is_row" = some (some (.ref a_law_is_row)))
    (h_k__law_is_row : PySem.W.keepIn K (.ref a_law_is_row) = true)
    (h_ld__law_is_row : K.lookup a_law_is_row = some ⟨oc_d__law_is_row, od_d__law_is_row, .func (PySem.W.fnOf "_law_is_row" "_law_is_row" (defArgs s_law_is_row) (defBody s_law_is_row) (defScope s_law_is_row) .none kV_d__law_is_row dc_d__law_is_row pm_d__law_is_row an_d__law_is_row cd_d__law_is_row ct_d__law_is_row), sl_d__law_is_row⟩)
    (h_cd__law_is_row : PySem.W.codeIn K cd_d__law_is_row "_law_is_row" = true)
    (h_kpd__law_is_row : PySem.W.keepIn K (.ref a_law_is_row) = true)
    (h_g__law_drawn_row : PySem.W.nsIn K mainGlobals "_law_drawn_row" = some (some (.ref a_law_drawn_row)))
    (h_k__law_drawn_row : PySem.W.keepIn K (.ref a_law_drawn_row) = true)
    (h_ld__law_drawn_row : K.lookup a_law_drawn_row = some ⟨oc_d__law_drawn_row, od_d__law_drawn_row, .func (PySem.W.fnOf "_law_drawn_row" "_law_drawn_row" (defArgs s_law_drawn_row) (defBody s_law_drawn_row) (defScope s_law_drawn_row) .none kV_d__law_drawn_row dc_d__law_drawn_row pm_d__law_drawn_row an_d__law_drawn_row cd_d__law_drawn_row ct_d__law_drawn_row), sl_d__law_drawn_row⟩)
    (h_cd__law_drawn_row : PySem.W.codeIn K cd_d__law_drawn_row "_law_drawn_row" = true)
    (h_kpd__law_drawn_row : PySem.W.keepIn K (.ref a_law_drawn_row) = true)
    (h_g__law_row_text : PySem.W.nsIn K mainGlobals "_law_row_text" = some (some (.ref a_law_row_text)))
    (h_k__law_row_text : PySem.W.keepIn K (.ref a_law_row_text) = true)
    (h_ld__law_row_text : K.lookup a_law_row_text = some ⟨oc_d__law_row_text, od_d__law_row_text, .func (PySem.W.fnOf "_law_row_text" "_law_row_text" (defArgs s_law_row_text) (defBody s_law_row_text) (defScope s_law_row_text) .none kV_d__law_row_text dc_d__law_row_text pm_d__law_row_text an_d__law_row_text cd_d__law_row_text ct_d__law_row_text), sl_d__law_row_text⟩)
    (h_cd__law_row_text : PySem.W.codeIn K cd_d__law_row_text "_law_row_text" = true)
    (h_kpd__law_row_text : PySem.W.keepIn K (.ref a_law_row_text) = true)
    (h_g__law_term_read : PySem.W.nsIn K mainGlobals "_law_term_read" = some (some (.ref a_law_term_read)))
    (h_k__law_term_read : PySem.W.keepIn K (.ref a_law_term_read) = true)
    (h_ld__law_term_read : K.lookup a_law_term_read = some ⟨oc_d__law_term_read, od_d__law_term_read, .func (PySem.W.fnOf "_law_term_read" "_law_term_read" (defArgs s_law_term_read) (defBody s_law_term_read) (defScope s_law_term_read) .none kV_d__law_term_read dc_d__law_term_read pm_d__law_term_read an_d__law_term_read cd_d__law_term_read ct_d__law_term_read), sl_d__law_term_read⟩)
    (h_cd__law_term_read : PySem.W.codeIn K cd_d__law_term_read "_law_term_read" = true)
    (h_kpd__law_term_read : PySem.W.keepIn K (.ref a_law_term_read) = true)
    (h_g__law_text_read : PySem.W.nsIn K mainGlobals "_law_text_read" = some (some (.ref a_law_text_read)))
    (h_k__law_text_read : PySem.W.keepIn K (.ref a_law_text_read) = true)
    (h_ld__law_text_read : K.lookup a_law_text_read = some ⟨oc_d__law_text_read, od_d__law_text_read, .func (PySem.W.fnOf "_law_text_read" "_law_text_read" (defArgs s_law_text_read) (defBody s_law_text_read) (defScope s_law_text_read) .none kV_d__law_text_read dc_d__law_text_read pm_d__law_text_read an_d__law_text_read cd_d__law_text_read ct_d__law_text_read), sl_d__law_text_read⟩)
    (h_cd__law_text_read : PySem.W.codeIn K cd_d__law_text_read "_law_text_read" = true)
    (h_kpd__law_text_read : PySem.W.keepIn K (.ref a_law_text_read) = true)
    (h_g__law_of_text : PySem.W.nsIn K mainGlobals "_law_of_text" = some (some (.ref a_law_of_text)))
    (h_k__law_of_text : PySem.W.keepIn K (.ref a_law_of_text) = true)
    (h_ld__law_of_text : K.lookup a_law_of_text = some ⟨oc_d__law_of_text, od_d__law_of_text, .func (PySem.W.fnOf "_law_of_text" "_law_of_text" (defArgs s_law_of_text) (defBody s_law_of_text) (defScope s_law_of_text) .none kV_d__law_of_text dc_d__law_of_text pm_d__law_of_text an_d__law_of_text cd_d__law_of_text ct_d__law_of_text), sl_d__law_of_text⟩)
    (h_cd__law_of_text : PySem.W.codeIn K cd_d__law_of_text "_law_of_text" = true)
    (h_kpd__law_of_text : PySem.W.keepIn K (.ref a_law_of_text) = true)
    (h_g__law_bent : PySem.W.nsIn K mainGlobals "_law_bent" = some (some (.ref a_law_bent)))
    (h_k__law_bent : PySem.W.keepIn K (.ref a_law_bent) = true)
    (h_ld__law_bent : K.lookup a_law_bent = some ⟨oc_d__law_bent, od_d__law_bent, .func (PySem.W.fnOf "_law_bent" "_law_bent" (defArgs s_law_bent) (defBody s_law_bent) (defScope s_law_bent) .none kV_d__law_bent dc_d__law_bent pm_d__law_bent an_d__law_bent cd_d__law_bent ct_d__law_bent), sl_d__law_bent⟩)
    (h_cd__law_bent : PySem.W.codeIn K cd_d__law_bent "_law_bent" = true)
    (h_kpd__law_bent : PySem.W.keepIn K (.ref a_law_bent) = true)
    (h_g__law_told_right : PySem.W.nsIn K mainGlobals "_law_told_right" = some (some (.ref a_law_told_right)))
    (h_k__law_told_right : PySem.W.keepIn K (.ref a_law_told_right) = true)
    (h_ld__law_told_right : K.lookup a_law_told_right = some ⟨oc_d__law_told_right, od_d__law_told_right, .func (PySem.W.fnOf "_law_told_right" "_law_told_right" (defArgs s_law_told_right) (defBody s_law_told_right) (defScope s_law_told_right) .none kV_d__law_told_right dc_d__law_told_right pm_d__law_told_right an_d__law_told_right cd_d__law_told_right ct_d__law_told_right), sl_d__law_told_right⟩)
    (h_cd__law_told_right : PySem.W.codeIn K cd_d__law_told_right "_law_told_right" = true)
    (h_kpd__law_told_right : PySem.W.keepIn K (.ref a_law_told_right) = true)
    (h_g__law_texts_right : PySem.W.nsIn K mainGlobals "_law_texts_right" = some (some (.ref a_law_texts_right)))
    (h_k__law_texts_right : PySem.W.keepIn K (.ref a_law_texts_right) = true)
    (h_ld__law_texts_right : K.lookup a_law_texts_right = some ⟨oc_d__law_texts_right, od_d__law_texts_right, .func (PySem.W.fnOf "_law_texts_right" "_law_texts_right" (defArgs s_law_texts_right) (defBody s_law_texts_right) (defScope s_law_texts_right) .none kV_d__law_texts_right dc_d__law_texts_right pm_d__law_texts_right an_d__law_texts_right cd_d__law_texts_right ct_d__law_texts_right), sl_d__law_texts_right⟩)
    (h_cd__law_texts_right : PySem.W.codeIn K cd_d__law_texts_right "_law_texts_right" = true)
    (h_kpd__law_texts_right : PySem.W.keepIn K (.ref a_law_texts_right) = true)
    (h_g_law : PySem.W.nsIn K mainGlobals "law" = some (some (.ref alaw)))
    (h_k_law : PySem.W.keepIn K (.ref alaw) = true)
    (h_ld_law : K.lookup alaw = some ⟨oc_d_law, od_d_law, .func (PySem.W.fnOf "law" "law" (defArgs s_law) (defBody s_law) (defScope s_law) .none kV_d_law dc_d_law pm_d_law an_d_law cd_d_law ct_d_law), sl_d_law⟩)
    (h_cd_law : PySem.W.codeIn K cd_d_law "law" = true)
    (h_kpd_law : PySem.W.keepIn K (.ref alaw) = true)
    (h_ld_R_init : K.lookup aR_init = some ⟨oc_d_R_init, od_d_R_init, .func (PySem.W.fnOf "__init__" "Row.__init__" (defArgs s_Row___init__) (defBody s_Row___init__) (defScope s_Row___init__) .none (.ref D_d_R_init) dc_d_R_init pm_d_R_init an_d_R_init cd_d_R_init ct_d_R_init), sl_d_R_init⟩)
    (h_cd_R_init : PySem.W.codeIn K cd_d_R_init "Row.__init__" = true)
    (h_kpd_R_init : PySem.W.keepIn K (.ref aR_init) = true)
    (h_wd_R_init : PySem.W.nsIn K D_d_R_init "is_known" = some (some (.bool false)))
    (h_ld_R_power : K.lookup aR_power = some ⟨oc_d_R_power, od_d_R_power, .func (PySem.W.fnOf "power" "Row.power" (defArgs s_Row_power) (defBody s_Row_power) (defScope s_Row_power) .none (.ref D_d_R_power) dc_d_R_power pm_d_R_power an_d_R_power cd_d_R_power ct_d_R_power), sl_d_R_power⟩)
    (h_cd_R_power : PySem.W.codeIn K cd_d_R_power "Row.power" = true)
    (h_kpd_R_power : PySem.W.keepIn K (.ref aR_power) = true)
    (h_wd_R_power : PySem.W.nsIn K D_d_R_power "many" = some (some (.int 1 tw_d_R_power)))
    (h_ld_R_none : K.lookup aR_none = some ⟨oc_d_R_none, od_d_R_none, .func (PySem.W.fnOf "none" "Row.none" (defArgs s_Row_none) (defBody s_Row_none) (defScope s_Row_none) .none kV_d_R_none dc_d_R_none pm_d_R_none an_d_R_none cd_d_R_none ct_d_R_none), sl_d_R_none⟩)
    (h_cd_R_none : PySem.W.codeIn K cd_d_R_none "Row.none" = true)
    (h_kpd_R_none : PySem.W.keepIn K (.ref aR_none) = true)
    (h_ld_R_of_text : K.lookup aR_of_text = some ⟨oc_d_R_of_text, od_d_R_of_text, .func (PySem.W.fnOf "of_text" "Row.of_text" (defArgs s_Row_of_text) (defBody s_Row_of_text) (defScope s_Row_of_text) .none kV_d_R_of_text dc_d_R_of_text pm_d_R_of_text an_d_R_of_text cd_d_R_of_text ct_d_R_of_text), sl_d_R_of_text⟩)
    (h_cd_R_of_text : PySem.W.codeIn K cd_d_R_of_text "Row.of_text" = true)
    (h_kpd_R_of_text : PySem.W.keepIn K (.ref aR_of_text) = true)
    (h_ld_R_terms : K.lookup aR_terms = some ⟨oc_d_R_terms, od_d_R_terms, .func (PySem.W.fnOf "terms" "Row.terms" (defArgs s_Row_terms) (defBody s_Row_terms) (defScope s_Row_terms) .none kV_d_R_terms dc_d_R_terms pm_d_R_terms an_d_R_terms cd_d_R_terms ct_d_R_terms), sl_d_R_terms⟩)
    (h_cd_R_terms : PySem.W.codeIn K cd_d_R_terms "Row.terms" = true)
    (h_kpd_R_terms : PySem.W.keepIn K (.ref aR_terms) = true)
    (h_ld_R_low : K.lookup aR_low = some ⟨oc_d_R_low, od_d_R_low, .func (PySem.W.fnOf "low" "Row.low" (defArgs s_Row_low) (defBody s_Row_low) (defScope s_Row_low) .none kV_d_R_low dc_d_R_low pm_d_R_low an_d_R_low cd_d_R_low ct_d_R_low), sl_d_R_low⟩)
    (h_cd_R_low : PySem.W.codeIn K cd_d_R_low "Row.low" = true)
    (h_kpd_R_low : PySem.W.keepIn K (.ref aR_low) = true)
    (h_ld_R_high : K.lookup aR_high = some ⟨oc_d_R_high, od_d_R_high, .func (PySem.W.fnOf "high" "Row.high" (defArgs s_Row_high) (defBody s_Row_high) (defScope s_Row_high) .none kV_d_R_high dc_d_R_high pm_d_R_high an_d_R_high cd_d_R_high ct_d_R_high), sl_d_R_high⟩)
    (h_cd_R_high : PySem.W.codeIn K cd_d_R_high "Row.high" = true)
    (h_kpd_R_high : PySem.W.keepIn K (.ref aR_high) = true)
    (h_ld_R_span : K.lookup aR_span = some ⟨oc_d_R_span, od_d_R_span, .func (PySem.W.fnOf "span" "Row.span" (defArgs s_Row_span) (defBody s_Row_span) (defScope s_Row_span) .none kV_d_R_span dc_d_R_span pm_d_R_span an_d_R_span cd_d_R_span ct_d_R_span), sl_d_R_span⟩)
    (h_cd_R_span : PySem.W.codeIn K cd_d_R_span "Row.span" = true)
    (h_kpd_R_span : PySem.W.keepIn K (.ref aR_span) = true)
    (h_ld_R_getitem : K.lookup aR_getitem = some ⟨oc_d_R_getitem, od_d_R_getitem, .func (PySem.W.fnOf "__getitem__" "Row.__getitem__" (defArgs s_Row___getitem__) (defBody s_Row___getitem__) (defScope s_Row___getitem__) .none kV_d_R_getitem dc_d_R_getitem pm_d_R_getitem an_d_R_getitem cd_d_R_getitem ct_d_R_getitem), sl_d_R_getitem⟩)
    (h_cd_R_getitem : PySem.W.codeIn K cd_d_R_getitem "Row.__getitem__" = true)
    (h_kpd_R_getitem : PySem.W.keepIn K (.ref aR_getitem) = true)
    (h_ld_R_contains : K.lookup aR_contains = some ⟨oc_d_R_contains, od_d_R_contains, .func (PySem.W.fnOf "__contains__" "Row.__contains__" (defArgs s_Row___contains__) (defBody s_Row___contains__) (defScope s_Row___contains__) .none kV_d_R_contains dc_d_R_contains pm_d_R_contains an_d_R_contains cd_d_R_contains ct_d_R_contains), sl_d_R_contains⟩)
    (h_cd_R_contains : PySem.W.codeIn K cd_d_R_contains "Row.__contains__" = true)
    (h_kpd_R_contains : PySem.W.keepIn K (.ref aR_contains) = true)
    (h_ld_R_len : K.lookup aR_len = some ⟨oc_d_R_len, od_d_R_len, .func (PySem.W.fnOf "__len__" "Row.__len__" (defArgs s_Row___len__) (defBody s_Row___len__) (defScope s_Row___len__) .none kV_d_R_len dc_d_R_len pm_d_R_len an_d_R_len cd_d_R_len ct_d_R_len), sl_d_R_len⟩)
    (h_cd_R_len : PySem.W.codeIn K cd_d_R_len "Row.__len__" = true)
    (h_kpd_R_len : PySem.W.keepIn K (.ref aR_len) = true)
    (h_ld_R_iter : K.lookup aR_iter = some ⟨oc_d_R_iter, od_d_R_iter, .func (PySem.W.fnOf "__iter__" "Row.__iter__" (defArgs s_Row___iter__) (defBody s_Row___iter__) (defScope s_Row___iter__) .none kV_d_R_iter dc_d_R_iter pm_d_R_iter an_d_R_iter cd_d_R_iter ct_d_R_iter), sl_d_R_iter⟩)
    (h_cd_R_iter : PySem.W.codeIn K cd_d_R_iter "Row.__iter__" = true)
    (h_kpd_R_iter : PySem.W.keepIn K (.ref aR_iter) = true)
    (h_ld_R_eq : K.lookup aR_eq = some ⟨oc_d_R_eq, od_d_R_eq, .func (PySem.W.fnOf "__eq__" "Row.__eq__" (defArgs s_Row___eq__) (defBody s_Row___eq__) (defScope s_Row___eq__) .none kV_d_R_eq dc_d_R_eq pm_d_R_eq an_d_R_eq cd_d_R_eq ct_d_R_eq), sl_d_R_eq⟩)
    (h_cd_R_eq : PySem.W.codeIn K cd_d_R_eq "Row.__eq__" = true)
    (h_kpd_R_eq : PySem.W.keepIn K (.ref aR_eq) = true)
    (h_ld_R_str : K.lookup aR_str = some ⟨oc_d_R_str, od_d_R_str, .func (PySem.W.fnOf "__str__" "Row.__str__" (defArgs s_Row___str__) (defBody s_Row___str__) (defScope s_Row___str__) .none kV_d_R_str dc_d_R_str pm_d_R_str an_d_R_str cd_d_R_str ct_d_R_str), sl_d_R_str⟩)
    (h_cd_R_str : PySem.W.codeIn K cd_d_R_str "Row.__str__" = true)
    (h_kpd_R_str : PySem.W.keepIn K (.ref aR_str) = true)
    (h_a_terms : PySem.W.findIn K (.ref aRow) "terms" = some (some (.ref ap_terms)))
    (h_b_terms : PySem.W.specialIn K (.ref ap_terms) "__get__" = some (some (.builtin "property.__get__")))
    (h_t_terms : PySem.W.takesIn K (.ref ap_terms) = some true)
    (h_r_terms : PySem.W.recIn K ap_terms "property" = some (.ref aR_terms :: re_r_terms))
    (h_a_low : PySem.W.findIn K (.ref aRow) "low" = some (some (.ref ap_low)))
    (h_b_low : PySem.W.specialIn K (.ref ap_low) "__get__" = some (some (.builtin "property.__get__")))
    (h_t_low : PySem.W.takesIn K (.ref ap_low) = some true)
    (h_r_low : PySem.W.recIn K ap_low "property" = some (.ref aR_low :: re_r_low))
    (h_a_high : PySem.W.findIn K (.ref aRow) "high" = some (some (.ref ap_high)))
    (h_b_high : PySem.W.specialIn K (.ref ap_high) "__get__" = some (some (.builtin "property.__get__")))
    (h_t_high : PySem.W.takesIn K (.ref ap_high) = some true)
    (h_r_high : PySem.W.recIn K ap_high "property" = some (.ref aR_high :: re_r_high))
    (h_a_span : PySem.W.findIn K (.ref aRow) "span" = some (some (.ref ap_span)))
    (h_b_span : PySem.W.specialIn K (.ref ap_span) "__get__" = some (some (.builtin "property.__get__")))
    (h_t_span : PySem.W.takesIn K (.ref ap_span) = some true)
    (h_r_span : PySem.W.recIn K ap_span "property" = some (.ref aR_span :: re_r_span))
    (h_c_power1 : PySem.W.findCls K (.ref aRow) (.type "type") "power" = some (.get (.builtin "classmethod.__get__") (.ref ap_power) .none (.ref aRow)))
    (h_c_power2 : PySem.W.recIn K ap_power "classmethod" = some (.ref aR_power :: re_c_power))
    (h_c_power3 : PySem.W.fnIn K aR_power = true)
    (h_c_none1 : PySem.W.findCls K (.ref aRow) (.type "type") "none" = some (.get (.builtin "classmethod.__get__") (.ref ap_none) .none (.ref aRow)))
    (h_c_none2 : PySem.W.recIn K ap_none "classmethod" = some (.ref aR_none :: re_c_none))
    (h_c_none3 : PySem.W.fnIn K aR_none = true)
    (h_c_of_text1 : PySem.W.findCls K (.ref aRow) (.type "type") "of_text" = some (.get (.builtin "classmethod.__get__") (.ref ap_of_text) .none (.ref aRow)))
    (h_c_of_text2 : PySem.W.recIn K ap_of_text "classmethod" = some (.ref aR_of_text :: re_c_of_text))
    (h_c_of_text3 : PySem.W.fnIn K aR_of_text = true)
    (h_m_len : PySem.W.findIn K (.ref aRow) "__len__" = some (some (.ref aR_len)))
    (h_i_len : PySem.W.isFn K (.ref aR_len) = true)
    (h_m_getitem : PySem.W.findIn K (.ref aRow) "__getitem__" = some (some (.ref aR_getitem)))
    (h_i_getitem : PySem.W.isFn K (.ref aR_getitem) = true)
    (h_m_contains : PySem.W.findIn K (.ref aRow) "__contains__" = some (some (.ref aR_contains)))
    (h_i_contains : PySem.W.isFn K (.ref aR_contains) = true)
    (h_m_iter : PySem.W.findIn K (.ref aRow) "__iter__" = some (some (.ref aR_iter)))
    (h_i_iter : PySem.W.isFn K (.ref aR_iter) = true)
    (h_m_str : PySem.W.findIn K (.ref aRow) "__str__" = some (some (.ref aR_str)))
    (h_i_str : PySem.W.isFn K (.ref aR_str) = true)
    (h_m_eq : PySem.W.findIn K (.ref aRow) "__eq__" = some (some (.ref aR_eq)))
    (h_i_eq : PySem.W.isFn K (.ref aR_eq) = true)
    (h_rd : PySem.W.readsIn K aRow (.type "type") = true)
    (h_rga : PySem.W.specialIn K (.ref aRow) "__getattribute__" = some (some (.builtin "type.__getattribute__")))
    (h_pg : PySem.W.plainGet K aRow Str.empty = true)
    (h_ic : PySem.W.isClsIn K aRow = true)
    (h_po : PySem.W.plainOver K aRow = true)
    (h_rsa : PySem.W.findIn K (.ref aRow) "__setattr__" = some (some (.builtin "object.__setattr__")))
    (h_ca : PySem.W.findIn K (.ref aRow) "__class__" = some (some (.builtin "object.__class__")))
    (h_cn : PySem.W.specialIn K (.builtin "object.__class__") "__get__" = some (some (.builtin "getset_descriptor.__get__")))
    (h_ct : PySem.W.takesIn K (.builtin "object.__class__") = some true)
    (h_cm : PySem.W.mroIn K aRow (.type "object") = some true)
    (h_sat : PySem.W.findIn K (.ref aRow) "own_terms" = some (some (.ref ap_own)))
    (h_sget : PySem.W.specialIn K (.ref ap_own) "__get__" = some (some (.builtin "member_descriptor.__get__")))
    (h_stk : PySem.W.takesIn K (.ref ap_own) = some true)
    (h_sty : PySem.W.typeIn K (.ref ap_own) = some (.type "member_descriptor"))
    (h_six : PySem.W.slotIn K ap_own aRow = some 0)
    (h_mks : PySem.W.makesIn K aRow = true)
    (h_mini : PySem.W.findIn K (.ref aRow) "__init__" = some (some (.ref aR_init)))
    (h_mfn : PySem.W.isFn K (.ref aR_init) = true)
    (h_mkp : PySem.W.keepIn K (.ref aRow) = true)
    (h_noseq : PySem.W.noSeq K aRow = true)
    (h_notf : PySem.W.notFirst K aRow (.ref aRow) = true)
    (h_mne : PySem.W.findIn K (.ref aRow) "__ne__" = some (some (.builtin "object.__ne__")))
    (h_rowint : PySem.W.subIn K (.ref aRow) (.type "int") = some false)
    (h_ty_dictrow : PySem.W.typeIn K (.ref aRow) = some (.type "type"))
    (h_dictrow : PySem.W.subIn K (.type "dict") (.ref aRow) = some false)
    (h_ty_strrow : PySem.W.typeIn K (.ref aRow) = some (.type "type"))
    (h_strrow : PySem.W.subIn K (.type "str") (.ref aRow) = some false)
    (h_notf_dict : PySem.W.notFirst K aRow (.type "dict") = true)
    (h_notf_str : PySem.W.notFirst K aRow (.type "str") = true)
    (h_fi_getitem : PySem.W.fnIn K aR_getitem = true)
    (h_PgC : PySem.W.nsIn K mainGlobals "ParseError" = some (some (.ref aPErr)))
    (h_Psup : PySem.W.nsIn K mainGlobals "super" = some (none))
    (h_Pcls : K.lookup aPErr = some (excClassObj nm q aPErr N bs [.ref aCE, .type "ValueError", .type "Exception", .type "BaseException", .type "object"] true sn sub ab col dd m0 m1 m2 m3 m5 "ValueError.__new__"))
    (h_Psa : PySem.W.findIn K (.ref aPErr) "__setattr__" = some (some (.builtin "object.__setattr__")))
    (h_Pga : PySem.W.findIn K (.ref aPErr) "__getattribute__" = some (some (.builtin "BaseException.__getattribute__")))
    (h_Pgg : PySem.W.findIn K (.ref aPErr) "__getattr__" = some none)
    (h_PnoN : PySem.W.findIn K (.ref aPErr) "number" = some none)
    (h_PiC : PySem.W.findIn K (.ref aPErr) "__init__" = some (some (.ref aPErr_init)))
    (h_PtC : PySem.W.typeIn K (.ref aPErr_init) = some (.type "function"))
    (h_PkC : PySem.W.keepIn K (.ref aPErr) = true)
    (h_PexC : PySem.W.subIn K (.ref aPErr) (.type "BaseException") = some true)
    (h_PtyC : PySem.W.typeIn K (.ref aPErr) = some (.type "type"))
    (h_PhdC : PySem.W.hasDictIn K aPErr = true)
    (h_Pic : PySem.W.isClsIn K aPErr = true)
    (h_Pss : PySem.W.subIn K (.ref aPErr) (.ref aPErr) = some true)
    (h_Pce2 : K.lookup aCE = some (excClassObj nm2 q2 aCE N2 bs2 [.type "ValueError", .type "Exception", .type "BaseException", .type "object"] true sn2 sub2 ab2 col2 dd2 n0 n1 n2 n3 n5 "ValueError.__new__"))
    (h_Pce3 : PySem.W.findIn K (.ref aCE) "__init__" = some (some (.builtin "ValueError.__init__")))
    (h_PsVE : PySem.W.subIn K (.ref aPErr) (.type "ValueError") = some true)
    (h_Pown : PySem.W.mroIn K aPErr (.ref aPErr) = some true)
    (h_Popq : PySem.W.nsIn K cStatics "thirdparty.any" = some none)
    (h_Pfl : K.lookup aPErr_init = some ⟨oc, od, .func (PySem.W.ksFn "__init__" "ParseError.__init__" (L2.defArgs s_prs) (L2.defBody s_prs) (L2.defScope s_prs) .none .none pdoc ppm pan (.ref cda) pct cc), osl⟩)
    (h_Pfc : PySem.W.codeIn K (.ref cda) "ParseError.__init__" = true)
    (h_Pcd : K.lookup cda = some ⟨ccl, cdd, .fields vs, ccs⟩)
    (h_Pvs : vs[2]? = some (.str file tf))
    (h_Pfe : ((P.main.file : Str) == file) = true)
    (h_Pce : K.lookup cc = some ⟨cl, cld, .cell (some (.ref aPErr)), csl⟩)
    (h_Ptop : (P.main.scope.names.lookup ("super" : Str)).isSome = false)
    : ∃ A : Ad, A.law = fa ∧ Txt K mg A ∧ PrsTxt P K mg A.PErr A.PErr_init := by
  have e := hfa.symm.trans (PySem.W.mg_of X G h_g_law)
  cases e
  exact ⟨⟨ais_integer, ais_power, aare_terms, apower_text, aterm_text, aterms_text, aare_figures, aexponent_told, aterm_told, asigned_terms, aterms_told, asorted_terms, a_law_dice, a_law_roll, a_law_pick, a_law_row, a_law_added, a_law_is_row, a_law_drawn_row, a_law_row_text, a_law_term_read, a_law_text_read, a_law_of_text, a_law_bent, a_law_told_right, a_law_texts_right, fa, aR_init, aR_power, aR_none, aR_of_text, aR_terms, aR_low, aR_high, aR_span, aR_getitem, aR_contains, aR_len, aR_iter, aR_eq, aR_str, ap_terms, ap_low, ap_high, ap_span, ap_power, ap_none, ap_of_text, ap_own, aRow, aPErr, aPErr_init⟩, rfl,
    { f_isinstance := PySem.W.mg_none_of X G h_f_isinstance,
      f_abs := PySem.W.mg_none_of X G h_f_abs,
      f_len := PySem.W.mg_none_of X G h_f_len,
      f_all := PySem.W.mg_none_of X G h_f_all,
      f_any := PySem.W.mg_none_of X G h_f_any,
      f_int := PySem.W.mg_none_of X G h_f_int,
      f_bool := PySem.W.mg_none_of X G h_f_bool,
      f_dict := PySem.W.mg_none_of X G h_f_dict,
      f_str := PySem.W.mg_none_of X G h_f_str,
      f_list := PySem.W.mg_none_of X G h_f_list,
      f_zip := PySem.W.mg_none_of X G h_f_zip,
      f_sorted := PySem.W.mg_none_of X G h_f_sorted,
      f_min := PySem.W.mg_none_of X G h_f_min,
      f_max := PySem.W.mg_none_of X G h_f_max,
      f_iter := PySem.W.mg_none_of X G h_f_iter,
      f_repr := PySem.W.mg_none_of X G h_f_repr,
      f_range := PySem.W.mg_none_of X G h_f_range,
      f_enumerate := PySem.W.mg_none_of X G h_f_enumerate,
      v_BOUND := hB,
      v_MAX_POWER := ⟨_, PySem.W.mg_of X G h_v_MAX_POWER, ⟨t_MAX_POWER, rfl⟩⟩,
      v_MAX_FIGURES := ⟨_, PySem.W.mg_of X G h_v_MAX_FIGURES, ⟨t_MAX_FIGURES, rfl⟩⟩,
      v_LETTER := ⟨_, PySem.W.mg_of X G h_v_LETTER, ⟨t_LETTER, rfl⟩⟩,
      v_FIGURES := ⟨_, PySem.W.mg_of X G h_v_FIGURES, ⟨t_FIGURES, rfl⟩⟩,
      v_Row := ⟨_, PySem.W.mg_of X G h_v_Row, rfl⟩,
      g_is_integer := PySem.W.mg_of X G h_g_is_integer,
      k_is_integer := h_k_is_integer,
      d_is_integer := ⟨_, fun_mk (st := s_is_integer) h_ld_is_integer h_cd_is_integer h_kpd_is_integer⟩,
      g_is_power := PySem.W.mg_of X G h_g_is_power,
      k_is_power := h_k_is_power,
      d_is_power := ⟨_, fun_mk (st := s_is_power) h_ld_is_power h_cd_is_power h_kpd_is_power⟩,
      g_are_terms := PySem.W.mg_of X G h_g_are_terms,
      k_are_terms := h_k_are_terms,
      d_are_terms := ⟨_, fun_mk (st := s_are_terms) h_ld_are_terms h_cd_are_terms h_kpd_are_terms⟩,
      g_power_text := PySem.W.mg_of X G h_g_power_text,
      k_power_text := h_k_power_text,
      d_power_text := ⟨_, fun_mk (st := s_power_text) h_ld_power_text h_cd_power_text h_kpd_power_text⟩,
      g_term_text := PySem.W.mg_of X G h_g_term_text,
      k_term_text := h_k_term_text,
      d_term_text := ⟨_, fun_mk (st := s_term_text) h_ld_term_text h_cd_term_text h_kpd_term_text⟩,
      g_terms_text := PySem.W.mg_of X G h_g_terms_text,
      k_terms_text := h_k_terms_text,
      d_terms_text := ⟨_, fun_mk (st := s_terms_text) h_ld_terms_text h_cd_terms_text h_kpd_terms_text⟩,
      g_are_figures := PySem.W.mg_of X G h_g_are_figures,
      k_are_figures := h_k_are_figures,
      d_are_figures := ⟨_, fun_mk (st := s_are_figures) h_ld_are_figures h_cd_are_figures h_kpd_are_figures⟩,
      g_exponent_told := PySem.W.mg_of X G h_g_exponent_told,
      k_exponent_told := h_k_exponent_told,
      d_exponent_told := ⟨_, fun_mk (st := s_exponent_told) h_ld_exponent_told h_cd_exponent_told h_kpd_exponent_told⟩,
      g_term_told := PySem.W.mg_of X G h_g_term_told,
      k_term_told := h_k_term_told,
      d_term_told := ⟨_, fun_mk (st := s_term_told) h_ld_term_told h_cd_term_told h_kpd_term_told⟩,
      g_signed_terms := PySem.W.mg_of X G h_g_signed_terms,
      k_signed_terms := h_k_signed_terms,
      d_signed_terms := ⟨_, fun_mk (st := s_signed_terms) h_ld_signed_terms h_cd_signed_terms h_kpd_signed_terms⟩,
      g_terms_told := PySem.W.mg_of X G h_g_terms_told,
      k_terms_told := h_k_terms_told,
      d_terms_told := ⟨_, fun_mk (st := s_terms_told) h_ld_terms_told h_cd_terms_told h_kpd_terms_told⟩,
      g_sorted_terms := PySem.W.mg_of X G h_g_sorted_terms,
      k_sorted_terms := h_k_sorted_terms,
      d_sorted_terms := ⟨_, fun_mk (st := s_sorted_terms) h_ld_sorted_terms h_cd_sorted_terms h_kpd_sorted_terms⟩,
      g__law_dice := PySem.W.mg_of X G h_g__law_dice,
      k__law_dice := h_k__law_dice,
      d__law_dice := ⟨_, fun_mk (st := s_law_dice) h_ld__law_dice h_cd__law_dice h_kpd__law_dice⟩,
      g__law_roll := PySem.W.mg_of X G h_g__law_roll,
      k__law_roll := h_k__law_roll,
      d__law_roll := ⟨_, fun_mk (st := s_law_roll) h_ld__law_roll h_cd__law_roll h_kpd__law_roll⟩,
      g__law_pick := PySem.W.mg_of X G h_g__law_pick,
      k__law_pick := h_k__law_pick,
      d__law_pick := ⟨_, fun_mk (st := s_law_pick) h_ld__law_pick h_cd__law_pick h_kpd__law_pick⟩,
      g__law_row := PySem.W.mg_of X G h_g__law_row,
      k__law_row := h_k__law_row,
      d__law_row := ⟨_, fun_mk (st := s_law_row) h_ld__law_row h_cd__law_row h_kpd__law_row⟩,
      g__law_added := PySem.W.mg_of X G h_g__law_added,
      k__law_added := h_k__law_added,
      d__law_added := ⟨_, fun_mk (st := s_law_added) h_ld__law_added h_cd__law_added h_kpd__law_added⟩,
      g__law_is_row := PySem.W.mg_of X G h_g__law_is_row,
      k__law_is_row := h_k__law_is_row,
      d__law_is_row := ⟨_, fun_mk (st := s_law_is_row) h_ld__law_is_row h_cd__law_is_row h_kpd__law_is_row⟩,
      g__law_drawn_row := PySem.W.mg_of X G h_g__law_drawn_row,
      k__law_drawn_row := h_k__law_drawn_row,
      d__law_drawn_row := ⟨_, fun_mk (st := s_law_drawn_row) h_ld__law_drawn_row h_cd__law_drawn_row h_kpd__law_drawn_row⟩,
      g__law_row_text := PySem.W.mg_of X G h_g__law_row_text,
      k__law_row_text := h_k__law_row_text,
      d__law_row_text := ⟨_, fun_mk (st := s_law_row_text) h_ld__law_row_text h_cd__law_row_text h_kpd__law_row_text⟩,
      g__law_term_read := PySem.W.mg_of X G h_g__law_term_read,
      k__law_term_read := h_k__law_term_read,
      d__law_term_read := ⟨_, fun_mk (st := s_law_term_read) h_ld__law_term_read h_cd__law_term_read h_kpd__law_term_read⟩,
      g__law_text_read := PySem.W.mg_of X G h_g__law_text_read,
      k__law_text_read := h_k__law_text_read,
      d__law_text_read := ⟨_, fun_mk (st := s_law_text_read) h_ld__law_text_read h_cd__law_text_read h_kpd__law_text_read⟩,
      g__law_of_text := PySem.W.mg_of X G h_g__law_of_text,
      k__law_of_text := h_k__law_of_text,
      d__law_of_text := ⟨_, fun_mk (st := s_law_of_text) h_ld__law_of_text h_cd__law_of_text h_kpd__law_of_text⟩,
      g__law_bent := PySem.W.mg_of X G h_g__law_bent,
      k__law_bent := h_k__law_bent,
      d__law_bent := ⟨_, fun_mk (st := s_law_bent) h_ld__law_bent h_cd__law_bent h_kpd__law_bent⟩,
      g__law_told_right := PySem.W.mg_of X G h_g__law_told_right,
      k__law_told_right := h_k__law_told_right,
      d__law_told_right := ⟨_, fun_mk (st := s_law_told_right) h_ld__law_told_right h_cd__law_told_right h_kpd__law_told_right⟩,
      g__law_texts_right := PySem.W.mg_of X G h_g__law_texts_right,
      k__law_texts_right := h_k__law_texts_right,
      d__law_texts_right := ⟨_, fun_mk (st := s_law_texts_right) h_ld__law_texts_right h_cd__law_texts_right h_kpd__law_texts_right⟩,
      g_law := PySem.W.mg_of X G h_g_law,
      k_law := h_k_law,
      d_law := ⟨_, fun_mk (st := s_law) h_ld_law h_cd_law h_kpd_law⟩,
      d_R_init := ⟨_, ⟨_, _, _, _, _, _, _, _, _, _, rfl, h_ld_R_init, h_cd_R_init, .inl ⟨rfl, rfl⟩, .inr ⟨_, rfl, fun q hq => by rw [List.mem_singleton.mp hq]; exact ⟨_, h_wd_R_init, rfl⟩⟩⟩, h_kpd_R_init⟩,
      d_R_power := ⟨_, ⟨_, _, _, _, _, _, _, _, _, _, rfl, h_ld_R_power, h_cd_R_power, .inl ⟨rfl, rfl⟩, .inr ⟨_, rfl, fun q hq => by rw [List.mem_singleton.mp hq]; exact ⟨_, h_wd_R_power, ⟨tw_d_R_power, rfl⟩⟩⟩⟩, h_kpd_R_power⟩,
      d_R_none := ⟨_, fun_mk (st := s_Row_none) h_ld_R_none h_cd_R_none h_kpd_R_none⟩,
      d_R_of_text := ⟨_, fun_mk (st := s_Row_of_text) h_ld_R_of_text h_cd_R_of_text h_kpd_R_of_text⟩,
      d_R_terms := ⟨_, fun_mk (st := s_Row_terms) h_ld_R_terms h_cd_R_terms h_kpd_R_terms⟩,
      d_R_low := ⟨_, fun_mk (st := s_Row_low) h_ld_R_low h_cd_R_low h_kpd_R_low⟩,
      d_R_high := ⟨_, fun_mk (st := s_Row_high) h_ld_R_high h_cd_R_high h_kpd_R_high⟩,
      d_R_span := ⟨_, fun_mk (st := s_Row_span) h_ld_R_span h_cd_R_span h_kpd_R_span⟩,
      d_R_getitem := ⟨_, fun_mk (st := s_Row___getitem__) h_ld_R_getitem h_cd_R_getitem h_kpd_R_getitem⟩,
      d_R_contains := ⟨_, fun_mk (st := s_Row___contains__) h_ld_R_contains h_cd_R_contains h_kpd_R_contains⟩,
      d_R_len := ⟨_, fun_mk (st := s_Row___len__) h_ld_R_len h_cd_R_len h_kpd_R_len⟩,
      d_R_iter := ⟨_, fun_mk (st := s_Row___iter__) h_ld_R_iter h_cd_R_iter h_kpd_R_iter⟩,
      d_R_eq := ⟨_, fun_mk (st := s_Row___eq__) h_ld_R_eq h_cd_R_eq h_kpd_R_eq⟩,
      d_R_str := ⟨_, fun_mk (st := s_Row___str__) h_ld_R_str h_cd_R_str h_kpd_R_str⟩,
      a_terms := h_a_terms,
      b_terms := h_b_terms,
      t_terms := h_t_terms,
      r_terms := ⟨_, h_r_terms⟩,
      a_low := h_a_low,
      b_low := h_b_low,
      t_low := h_t_low,
      r_low := ⟨_, h_r_low⟩,
      a_high := h_a_high,
      b_high := h_b_high,
      t_high := h_t_high,
      r_high := ⟨_, h_r_high⟩,
      a_span := h_a_span,
      b_span := h_b_span,
      t_span := h_t_span,
      r_span := ⟨_, h_r_span⟩,
      c_power := ⟨h_c_power1, ⟨_, h_c_power2⟩, h_c_power3⟩,
      c_none := ⟨h_c_none1, ⟨_, h_c_none2⟩, h_c_none3⟩,
      c_of_text := ⟨h_c_of_text1, ⟨_, h_c_of_text2⟩, h_c_of_text3⟩,
      m_len := h_m_len,
      i_len := h_i_len,
      m_getitem := h_m_getitem,
      i_getitem := h_i_getitem,
      m_contains := h_m_contains,
      i_contains := h_i_contains,
      m_iter := h_m_iter,
      i_iter := h_i_iter,
      m_str := h_m_str,
      i_str := h_i_str,
      m_eq := h_m_eq,
      i_eq := h_i_eq,
      cread := ⟨h_rd, h_rga⟩,
      scls := ⟨h_pg, h_ic, h_po, h_rsa⟩,
      sisi := ⟨h_ca, h_cn, h_ct, h_cm⟩,
      slot := ⟨h_sat, h_sget, h_stk, h_sty, h_six, by decide⟩,
      made := ⟨h_mks, h_mini, h_mfn, h_mkp⟩,
      rowrow := kit_self,
      noseq := h_noseq,
      notf := h_notf,
      mne := h_mne,
      rowint := kit_blt (by decide +kernel) h_rowint,
      dictrow := kit_own h_ic h_ty_dictrow h_dictrow,
      strrow := kit_own h_ic h_ty_strrow h_strrow,
      notf_dict := h_notf_dict,
      notf_str := h_notf_str,
      fi_getitem := h_fi_getitem },
    { gC := PySem.W.mg_of X G h_PgC,
      sup := PySem.W.mg_none_of X G h_Psup,
      cls := ⟨nm, q, N, bs, _, sn, sub, ab, col, dd, m0, m1, m2, m3, m5, h_Pcls, rfl⟩,
      sa := h_Psa,
      ga := h_Pga,
      gg := h_Pgg,
      noN := h_PnoN,
      iC := h_PiC,
      tC := h_PtC,
      kC := h_PkC,
      exC := h_PexC,
      tyC := h_PtyC,
      hdC := h_PhdC,
      te := exm_own h_PexC h_Pic h_PtyC h_Pss,
      alo := sup_own h_Pcls h_Pce2 h_Pce3,
      sVE := h_PsVE,
      own := h_Pown,
      opq := h_Popq,
      fn := ⟨_, _, _, _, _, _, _, _, _, _, _, _, _, _, _, _, _, _, h_Pfl, h_Pfc, h_Pcd, h_Pvs, h_Pfe, h_Pce⟩,
      top := h_Ptop }⟩
theorem bound_of {q : Program} {lv : List (Str × WData)} {mg : Str → Option Value} {h : Heap} (x : XL q lv mg h) (m : (("BOUND" : Str), WData.int (10 ^ 60)) ∈ lv) : ∃ u, mg "BOUND" = some u ∧ RelV (.int (10 ^ 60)) u := by
  obtain ⟨v, h1, h2⟩ := x.2.val _ m
  cases h2 with
  | _ => exact ⟨_, h1, _, rfl⟩
theorem walk {l : PySem.W.OpenLaw} {n : Nat} {q : Program} {loose : List Str} {lv : List (Str × WData)} {YP : World → Heap → Prop} {d : DefRec} {K : Params → PySem.W.Frag}
    (hn : l.most = some n) (hn2 : n ≤ 1000) (hdf : d.params.defaults = []) (hm : (("BOUND" : Str), WData.int (10 ^ 60)) ∈ lv) (hY : ∀ (w : World) (h : Heap), YP w h → (K w.params).In h)
    (F : ∀ (w : World) (mg : Str → Option Value) (fa : Addr) (h : Heap), (K w.params).In h → h.Ns mainGlobals mg → mg d.name = some (.ref fa) → (∃ u, mg "BOUND" = some u ∧ RelV (.int (10 ^ 60)) u) →
      ∃ A : Ad, A.law = fa ∧ Txt (K w.params) mg A ∧ PrsTxt l.prog (K w.params) mg A.PErr A.PErr_init) :
    PySem.W.WalkO q loose (XL q lv) YP l.row.toRowW d [] (fun f vs => PySem.call f vs) := by
  refine Att.attach_call hn hdf fun w s₀ s₁ mg mb fa o pm cd doc a vs ns G Y ho hd hcd hmg hobj hints hlen hg => ?_
  have KX := hY w _ Y
  obtain ⟨A, rfl, T, TP⟩ := F w mg fa _ KX G.T.g hmg (bound_of G.X hm)
  refine call_top (k := 10) (sp := spLaw (K w.params)) KX G.T.g G.T.b G.T.builtins G.T.nolimit hg hobj hints (Nat.le_trans hlen (Nat.le_trans hn2 (by decide))) ⟨rfl, by decide, by decide⟩ (fun base _ _ => c_law T TP) fun H hS => ?_
  exact ⟨a, ns, rfl, hS, Nat.le_trans hlen hn2, fun _ => rfl⟩
end Wb

open PySem PySem.W PyProof.Rows
set_option maxRecDepth 100000 in
set_option maxHeartbeats 0 in
theorem PySem.Challenge.cw_crosswebs_k01_whole_rows_and_texts_holds : PySem.Challenge.rw_crosswebs_k01_whole_rows_and_texts.Holds := by
  w_on; o_law; k_headL; (case hw => w_witness2)
  k_fill
  refine Wb.walk (l := PySem.Challenge.rw_crosswebs_k01_whole_rows_and_texts) rfl (by decide) rfl (by decide +kernel) (fun w h Y => PySem.W.kIn_of Y) ?F
  case F =>
    intro w mg fa h KX G hmg hB
    refine' Wb.all_mk KX G hmg hB ?h_f_isinstance ?h_f_abs ?h_f_len ?h_f_all ?h_f_any ?h_f_int ?h_f_bool ?h_f_dict ?h_f_str ?h_f_list ?h_f_zip ?h_f_sorted ?h_f_min ?h_f_max ?h_f_iter ?h_f_repr ?h_f_range ?h_f_enumerate ?h_v_MAX_POWER ?h_v_MAX_FIGURES ?h_v_LETTER ?h_v_FIGURES ?h_v_Row ?h_g_is_integer ?h_k_is_integer ?h_ld_is_integer ?h_cd_is_integer ?h_kpd_is_integer ?h_g_is_power ?h_k_is_power ?h_ld_is_power ?h_cd_is_power ?h_kpd_is_power ?h_g_are_terms ?h_k_are_terms ?h_ld_are_terms ?h_cd_are_terms ?h_kpd_are_terms ?h_g_power_text ?h_k_power_text ?h_ld_power_text ?h_cd_power_text ?h_kpd_power_text ?h_g_term_text ?h_k_term_text ?h_ld_term_text ?h_cd_term_text ?h_kpd_term_text ?h_g_terms_text ?h_k_terms_text ?h_ld_terms_text ?h_cd_terms_text ?h_kpd_terms_text ?h_g_are_figures ?h_k_are_figures ?h_ld_are_figures ?h_cd_are_figures ?h_kpd_are_figures ?h_g_exponent_told ?h_k_exponent_told ?h_ld_exponent_told ?h_cd_exponent_told ?h_kpd_exponent_told ?h_g_term_told ?h_k_term_told ?h_ld_term_told ?h_cd_term_told ?h_kpd_term_told ?h_g_signed_terms ?h_k_signed_terms ?h_ld_signed_terms ?h_cd_signed_terms ?h_kpd_signed_terms ?h_g_terms_told ?h_k_terms_told ?h_ld_terms_told ?h_cd_terms_told ?h_kpd_terms_told ?h_g_sorted_terms ?h_k_sorted_terms ?h_ld_sorted_terms ?h_cd_sorted_terms ?h_kpd_sorted_terms ?h_g__law_dice ?h_k__law_dice ?h_ld__law_dice ?h_cd__law_dice ?h_kpd__law_dice ?h_g__law_roll ?h_k__law_roll ?h_ld__law_roll ?h_cd__law_roll ?h_kpd__law_roll ?h_g__law_pick ?h_k__law_pick ?h_ld__law_pick ?h_cd__law_pick ?h_kpd__law_pick ?h_g__law_row ?h_k__law_row ?h_ld__law_row ?h_cd__law_row ?h_kpd__law_row ?h_g__law_added ?h_k__law_added ?h_ld__law_added ?h_cd__law_added ?h_kpd__law_added ?h_g__law_is_row ?h_k__law_is_row ?h_ld__law_is_row ?h_cd__law_is_row ?h_kpd__law_is_row ?h_g__law_drawn_row ?h_k__law_drawn_row ?h_ld__law_drawn_row ?h_cd__law_drawn_row ?h_kpd__law_drawn_row ?h_g__law_row_text ?h_k__law_row_text ?h_ld__law_row_text ?h_cd__law_row_text ?h_kpd__law_row_text ?h_g__law_term_read ?h_k__law_term_read ?h_ld__law_term_read ?h_cd__law_term_read ?h_kpd__law_term_read ?h_g__law_text_read ?h_k__law_text_read ?h_ld__law_text_read ?h_cd__law_text_read ?h_kpd__law_text_read ?h_g__law_of_text ?h_k__law_of_text ?h_ld__law_of_text ?h_cd__law_of_text ?h_kpd__law_of_text ?h_g__law_bent ?h_k__law_bent ?h_ld__law_bent ?h_cd__law_bent ?h_kpd__law_bent ?h_g__law_told_right ?h_k__law_told_right ?h_ld__law_told_right ?h_cd__law_told_right ?h_kpd__law_told_right ?h_g__law_texts_right ?h_k__law_texts_right ?h_ld__law_texts_right ?h_cd__law_texts_right ?h_kpd__law_texts_right ?h_g_law ?h_k_law ?h_ld_law ?h_cd_law ?h_kpd_law ?h_ld_R_init ?h_cd_R_init ?h_kpd_R_init ?h_wd_R_init ?h_ld_R_power ?h_cd_R_power ?h_kpd_R_power ?h_wd_R_power ?h_ld_R_none ?h_cd_R_none ?h_kpd_R_none ?h_ld_R_of_text ?h_cd_R_of_text ?h_kpd_R_of_text ?h_ld_R_terms ?h_cd_R_terms ?h_kpd_R_terms ?h_ld_R_low ?h_cd_R_low ?h_kpd_R_low ?h_ld_R_high ?h_cd_R_high ?h_kpd_R_high ?h_ld_R_span ?h_cd_R_span ?h_kpd_R_span ?h_ld_R_getitem ?h_cd_R_getitem ?h_kpd_R_getitem ?h_ld_R_contains ?h_cd_R_contains ?h_kpd_R_contains ?h_ld_R_len ?h_cd_R_len ?h_kpd_R_len ?h_ld_R_iter ?h_cd_R_iter ?h_kpd_R_iter ?h_ld_R_eq ?h_cd_R_eq ?h_kpd_R_eq ?h_ld_R_str ?h_cd_R_str ?h_kpd_R_str ?h_a_terms ?h_b_terms ?h_t_terms ?h_r_terms ?h_a_low ?h_b_low ?h_t_low ?h_r_low ?h_a_high ?h_b_high ?h_t_high ?h_r_high ?h_a_span ?h_b_span ?h_t_span ?h_r_span ?h_c_power1 ?h_c_power2 ?h_c_power3 ?h_c_none1 ?h_c_none2 ?h_c_none3 ?h_c_of_text1 ?h_c_of_text2 ?h_c_of_text3 ?h_m_len ?h_i_len ?h_m_getitem ?h_i_getitem ?h_m_contains ?h_i_contains ?h_m_iter ?h_i_iter ?h_m_str ?h_i_str ?h_m_eq ?h_i_eq ?h_rd ?h_rga ?h_pg ?h_ic ?h_po ?h_rsa ?h_ca ?h_cn ?h_ct ?h_cm ?h_sat ?h_sget ?h_stk ?h_sty ?h_six ?h_mks ?h_mini ?h_mfn ?h_mkp ?h_noseq ?h_notf ?h_mne ?h_rowint ?h_ty_dictrow ?h_dictrow ?h_ty_strrow ?h_strrow ?h_notf_dict ?h_notf_str ?h_fi_getitem ?h_PgC ?h_Psup ?h_Pcls ?h_Psa ?h_Pga ?h_Pgg ?h_PnoN ?h_PiC ?h_PtC ?h_PkC ?h_PexC ?h_PtyC ?h_PhdC ?h_Pic ?h_Pss ?h_Pce2 ?h_Pce3 ?h_PsVE ?h_Pown ?h_Popq ?h_Pfl ?h_Pfc ?h_Pcd ?h_Pvs ?h_Pfe ?h_Pce ?h_Ptop
    (case h_v_Row => k_is)
    (case h_g_is_integer => k_is)
    (case h_g_is_power => k_is)
    (case h_g_are_terms => k_is)
    (case h_g_power_text => k_is)
    (case h_g_term_text => k_is)
    (case h_g_terms_text => k_is)
    (case h_g_are_figures => k_is)
    (case h_g_exponent_told => k_is)
    (case h_g_term_told => k_is)
    (case h_g_signed_terms => k_is)
    (case h_g_terms_told => k_is)
    (case h_g_sorted_terms => k_is)
    (case h_g__law_dice => k_is)
    (case h_g__law_roll => k_is)
    (case h_g__law_pick => k_is)
    (case h_g__law_row => k_is)
    (case h_g__law_added => k_is)
    (case h_g__law_is_row => k_is)
    (case h_g__law_drawn_row => k_is)
    (case h_g__law_row_text => k_is)
    (case h_g__law_term_read => k_is)
    (case h_g__law_text_read => k_is)
    (case h_g__law_of_text => k_is)
    (case h_g__law_bent => k_is)
    (case h_g__law_told_right => k_is)
    (case h_g__law_texts_right => k_is)
    (case h_g_law => k_is)
    (case h_PgC => k_is)
    (case h_a_terms => k_is)
    (case h_a_low => k_is)
    (case h_a_high => k_is)
    (case h_a_span => k_is)
    (case h_c_power1 => k_is)
    (case h_c_none1 => k_is)
    (case h_c_of_text1 => k_is)
    (case h_m_len => k_is)
    (case h_m_getitem => k_is)
    (case h_m_contains => k_is)
    (case h_m_iter => k_is)
    (case h_m_str => k_is)
    (case h_m_eq => k_is)
    (case h_sat => k_is)
    (case h_mini => k_is)
    (case h_PiC => k_is)
    (case h_r_terms => k_is)
    (case h_r_low => k_is)
    (case h_r_high => k_is)
    (case h_r_span => k_is)
    (case h_c_power2 => k_is)
    (case h_c_none2 => k_is)
    (case h_c_of_text2 => k_is)
    (case h_f_isinstance => k_is)
    (case h_f_abs => k_is)
    (case h_f_len => k_is)
    (case h_f_all => k_is)
    (case h_f_any => k_is)
    (case h_f_int => k_is)
    (case h_f_bool => k_is)
    (case h_f_dict => k_is)
    (case h_f_str => k_is)
    (case h_f_list => k_is)
    (case h_f_zip => k_is)
    (case h_f_sorted => k_is)
    (case h_f_min => k_is)
    (case h_f_max => k_is)
    (case h_f_iter => k_is)
    (case h_f_repr => k_is)
    (case h_f_range => k_is)
    (case h_f_enumerate => k_is)
    (case h_v_MAX_POWER => k_is)
    (case h_v_MAX_FIGURES => k_is)
    (case h_v_LETTER => k_is)
    (case h_v_FIGURES => k_is)
    (case h_k_is_integer => k_is)
    (case h_ld_is_integer => k_is)
    (case h_cd_is_integer => k_is)
    (case h_kpd_is_integer => k_is)
    (case h_k_is_power => k_is)
    (case h_ld_is_power => k_is)
    (case h_cd_is_power => k_is)
    (case h_kpd_is_power => k_is)
    (case h_k_are_terms => k_is)
    (case h_ld_are_terms => k_is)
    (case h_cd_are_terms => k_is)
    (case h_kpd_are_terms => k_is)
    (case h_k_power_text => k_is)
    (case h_ld_power_text => k_is)
    (case h_cd_power_text => k_is)
    (case h_kpd_power_text => k_is)
    (case h_k_term_text => k_is)
    (case h_ld_term_text => k_is)
    (case h_cd_term_text => k_is)
    (case h_kpd_term_text => k_is)
    (case h_k_terms_text => k_is)
    (case h_ld_terms_text => k_is)
    (case h_cd_terms_text => k_is)
    (case h_kpd_terms_text => k_is)
    (case h_k_are_figures => k_is)
    (case h_ld_are_figures => k_is)
    (case h_cd_are_figures => k_is)
    (case h_kpd_are_figures => k_is)
    (case h_k_exponent_told => k_is)
    (case h_ld_exponent_told => k_is)
    (case h_cd_exponent_told => k_is)
    (case h_kpd_exponent_told => k_is)
    (case h_k_term_told => k_is)
    (case h_ld_term_told => k_is)
    (case h_cd_term_told => k_is)
    (case h_kpd_term_told => k_is)
    (case h_k_signed_terms => k_is)
    (case h_ld_signed_terms => k_is)
    (case h_cd_signed_terms => k_is)
    (case h_kpd_signed_terms => k_is)
    (case h_k_terms_told => k_is)
    (case h_ld_terms_told => k_is)
    (case h_cd_terms_told => k_is)
    (case h_kpd_terms_told => k_is)
    (case h_k_sorted_terms => k_is)
    (case h_ld_sorted_terms => k_is)
    (case h_cd_sorted_terms => k_is)
    (case h_kpd_sorted_terms => k_is)
    (case h_k__law_dice => k_is)
    (case h_ld__law_dice => k_is)
    (case h_cd__law_dice => k_is)
    (case h_kpd__law_dice => k_is)
    (case h_k__law_roll => k_is)
    (case h_ld__law_roll => k_is)
    (case h_cd__law_roll => k_is)
    (case h_kpd__law_roll => k_is)
    (case h_k__law_pick => k_is)
    (case h_ld__law_pick => k_is)
    (case h_cd__law_pick => k_is)
    (case h_kpd__law_pick => k_is)
    (case h_k__law_row => k_is)
    (case h_ld__law_row => k_is)
    (case h_cd__law_row => k_is)
    (case h_kpd__law_row => k_is)
    (case h_k__law_added => k_is)
    (case h_ld__law_added => k_is)
    (case h_cd__law_added => k_is)
    (case h_kpd__law_added => k_is)
    (case h_k__law_is_row => k_is)
    (case h_ld__law_is_row => k_is)
    (case h_cd__law_is_row => k_is)
    (case h_kpd__law_is_row => k_is)
    (case h_k__law_drawn_row => k_is)
    (case h_ld__law_drawn_row => k_is)
    (case h_cd__law_drawn_row => k_is)
    (case h_kpd__law_drawn_row => k_is)
    (case h_k__law_row_text => k_is)
    (case h_ld__law_row_text => k_is)
    (case h_cd__law_row_text => k_is)
    (case h_kpd__law_row_text => k_is)
    (case h_k__law_term_read => k_is)
    (case h_ld__law_term_read => k_is)
    (case h_cd__law_term_read => k_is)
    (case h_kpd__law_term_read => k_is)
    (case h_k__law_text_read => k_is)
    (case h_ld__law_text_read => k_is)
    (case h_cd__law_text_read => k_is)
    (case h_kpd__law_text_read => k_is)
    (case h_k__law_of_text => k_is)
    (case h_ld__law_of_text => k_is)
    (case h_cd__law_of_text => k_is)
    (case h_kpd__law_of_text => k_is)
    (case h_k__law_bent => k_is)
    (case h_ld__law_bent => k_is)
    (case h_cd__law_bent => k_is)
    (case h_kpd__law_bent => k_is)
    (case h_k__law_told_right => k_is)
    (case h_ld__law_told_right => k_is)
    (case h_cd__law_told_right => k_is)
    (case h_kpd__law_told_right => k_is)
    (case h_k__law_texts_right => k_is)
    (case h_ld__law_texts_right => k_is)
    (case h_cd__law_texts_right => k_is)
    (case h_kpd__law_texts_right => k_is)
    (case h_k_law => k_is)
    (case h_ld_law => k_is)
    (case h_cd_law => k_is)
    (case h_kpd_law => k_is)
    (case h_ld_R_init => k_is)
    (case h_cd_R_init => k_is)
    (case h_kpd_R_init => k_is)
    (case h_wd_R_init => k_is)
    (case h_ld_R_power => k_is)
    (case h_cd_R_power => k_is)
    (case h_kpd_R_power => k_is)
    (case h_wd_R_power => k_is)
    (case h_ld_R_none => k_is)
    (case h_cd_R_none => k_is)
    (case h_kpd_R_none => k_is)
    (case h_ld_R_of_text => k_is)
    (case h_cd_R_of_text => k_is)
    (case h_kpd_R_of_text => k_is)
    (case h_ld_R_terms => k_is)
    (case h_cd_R_terms => k_is)
    (case h_kpd_R_terms => k_is)
    (case h_ld_R_low => k_is)
    (case h_cd_R_low => k_is)
    (case h_kpd_R_low => k_is)
    (case h_ld_R_high => k_is)
    (case h_cd_R_high => k_is)
    (case h_kpd_R_high => k_is)
    (case h_ld_R_span => k_is)
    (case h_cd_R_span => k_is)
    (case h_kpd_R_span => k_is)
    (case h_ld_R_getitem => k_is)
    (case h_cd_R_getitem => k_is)
    (case h_kpd_R_getitem => k_is)
    (case h_ld_R_contains => k_is)
    (case h_cd_R_contains => k_is)
    (case h_kpd_R_contains => k_is)
    (case h_ld_R_len => k_is)
    (case h_cd_R_len => k_is)
    (case h_kpd_R_len => k_is)
    (case h_ld_R_iter => k_is)
    (case h_cd_R_iter => k_is)
    (case h_kpd_R_iter => k_is)
    (case h_ld_R_eq => k_is)
    (case h_cd_R_eq => k_is)
    (case h_kpd_R_eq => k_is)
    (case h_ld_R_str => k_is)
    (case h_cd_R_str => k_is)
    (case h_kpd_R_str => k_is)
    (case h_b_terms => k_is)
    (case h_t_terms => k_is)
    (case h_b_low => k_is)
    (case h_t_low => k_is)
    (case h_b_high => k_is)
    (case h_t_high => k_is)
    (case h_b_span => k_is)
    (case h_t_span => k_is)
    (case h_c_power3 => k_is)
    (case h_c_none3 => k_is)
    (case h_c_of_text3 => k_is)
    (case h_i_len => k_is)
    (case h_i_getitem => k_is)
    (case h_i_contains => k_is)
    (case h_i_iter => k_is)
    (case h_i_str => k_is)
    (case h_i_eq => k_is)
    (case h_rd => k_is)
    (case h_rga => k_is)
    (case h_pg => k_is)
    (case h_ic => k_is)
    (case h_po => k_is)
    (case h_rsa => k_is)
    (case h_ca => k_is)
    (case h_cn => k_is)
    (case h_ct => k_is)
    (case h_cm => k_is)
    (case h_sget => k_is)
    (case h_stk => k_is)
    (case h_sty => k_is)
    (case h_six => k_is)
    (case h_mks => k_is)
    (case h_mfn => k_is)
    (case h_mkp => k_is)
    (case h_noseq => k_is)
    (case h_notf => k_is)
    (case h_mne => k_is)
    (case h_rowint => k_is)
    (case h_ty_dictrow => k_is)
    (case h_dictrow => k_is)
    (case h_ty_strrow => k_is)
    (case h_strrow => k_is)
    (case h_notf_dict => k_is)
    (case h_notf_str => k_is)
    (case h_fi_getitem => k_is)
    (case h_Psup => k_is)
    (case h_Pcls => k_is)
    (case h_Psa => k_is)
    (case h_Pga => k_is)
    (case h_Pgg => k_is)
    (case h_PnoN => k_is)
    (case h_PtC => k_is)
    (case h_PkC => k_is)
    (case h_PexC => k_is)
    (case h_PtyC => k_is)
    (case h_PhdC => k_is)
    (case h_Pic => k_is)
    (case h_Pss => k_is)
    (case h_Pce2 => k_is)
    (case h_Pce3 => k_is)
    (case h_PsVE => k_is)
    (case h_Pown => k_is)
    (case h_Popq => k_is)
    (case h_Pfl => k_is)
    (case h_Pfc => k_is)
    (case h_Pcd => k_is)
    (case h_Pvs => rfl)
    (case h_Pfe => (first | rfl | decide +kernel))
    (case h_Pce => k_is)
    (case h_Ptop => (first | rfl | decide +kernel))
