import PyProof.Rows.All
import Wide.All
import OpenK.AllK
import Wide.FinOn
import Lean
import PySem.Challenge.RW_nz0265_01
open PySem PySem.W PyProof.Rows
set_option Elab.async false
set_option maxRecDepth 100000
set_option linter.all false

/- Hd -/
namespace Mine
set_option maxHeartbeats 8000000
open_top hd for PySem.Challenge.rw_nz0265_01
end Mine

/- NSplit -/
namespace Mine
open Builtin

/- split at one octet, as a plain function -/
def splitGo (c : UInt8) : List UInt8 → List UInt8 → List (List UInt8)
  | cur, [] => [cur]
  | cur, x :: xs => if x = c then cur :: splitGo c [] xs else splitGo c (cur ++ [x]) xs
def splitNl (c : UInt8) (l : List UInt8) : List (List UInt8) := splitGo c [] l

def occ (c : UInt8) : Nat → List UInt8 → List Nat
  | _, [] => []
  | k, x :: xs => if x = c then k :: occ c (k + 1) xs else occ c (k + 1) xs

theorem occ_length {c : UInt8} : ∀ {xs : List UInt8} {k : Nat}, (occ c k xs).length ≤ xs.length
  | [], _ => Nat.le_refl _
  | x :: xs, k => by
    unfold occ
    have := occ_length (c := c) (xs := xs) (k := k + 1)
    split <;> simp only [List.length_cons] <;> omega

theorem extract_one' {l : List UInt8} {c : UInt8} {i : Nat} : (l.toArray.extract i (i + 1) == #[c]) = (l[i]? == some c) := by
  rw [Bool.eq_iff_iff]
  simp only [beq_iff_eq]
  rw [List.extract_toArray]
  by_cases hi : i < l.length
  · have : List.extract l i (i + 1) = [l[i]] := by
      simp [hi, List.take_one, List.head?_drop]
    rw [this]; simp [hi]
  · have : List.extract l i (i + 1) = [] := by
      simp; omega
    rw [this]; simp [hi]

def occStep (l : List UInt8) (c : UInt8) (acc : List Nat × Nat) (i : Nat) : List Nat × Nat :=
  if i ≥ acc.2 && l.toArray.extract i (i + (#[c] : Array UInt8).size) == #[c] then (i :: acc.1, i + (#[c] : Array UInt8).size) else acc

theorem occ_fold {c : UInt8} : ∀ (xs pre : List UInt8) (acc : List Nat × Nat), acc.2 ≤ pre.length →
    ((List.range' pre.length xs.length).foldl (occStep (pre ++ xs) c) acc).1.reverse = acc.1.reverse ++ occ c pre.length xs
  | [], pre, acc, _ => by simp [occ]
  | x :: xs, pre, acc, ha => by
    rw [List.length_cons, List.range'_succ, List.foldl_cons]
    have hx : (pre ++ x :: xs)[pre.length]? = some x := by simp
    have hs : (#[c] : Array UInt8).size = 1 := rfl
    have e : pre ++ x :: xs = (pre ++ [x]) ++ xs := by simp
    have hl : (pre ++ [x]).length = pre.length + 1 := by simp
    by_cases hc : x = c
    · have h1 : occStep (pre ++ x :: xs) c acc pre.length = (pre.length :: acc.1, pre.length + 1) := by
        unfold occStep
        rw [hs, extract_one', hx, hc]; simp [ha]
      rw [h1, e]
      have ih := occ_fold (c := c) xs (pre ++ [x]) (pre.length :: acc.1, pre.length + 1) (by simp)
      rw [hl] at ih
      rw [ih]
      simp [occ, hc]
    · have h1 : occStep (pre ++ x :: xs) c acc pre.length = acc := by
        unfold occStep
        rw [hs, extract_one', hx]; simp [hc]
      rw [h1, e]
      have ih := occ_fold (c := c) xs (pre ++ [x]) acc (by simp; omega)
      rw [hl] at ih
      rw [ih]
      simp [occ, hc]

theorem occurrences_eq {l : List UInt8} {c : UInt8} : Bytes.occurrences l.toArray #[c] 0 l.toArray.size = occ c 0 l := by
  have h := occ_fold (c := c) l [] ([], 0) (Nat.le_refl _)
  unfold Bytes.occurrences
  have e : (List.range (l.toArray.size + 1 - (0 + (#[c] : Array UInt8).size))).map (· + 0) = List.range' 0 l.length := by
    have : l.toArray.size + 1 - (0 + (#[c] : Array UInt8).size) = l.length := by
      rw [List.size_toArray]
      show l.length + 1 - (0 + 1) = l.length
      omega
    rw [this, List.range_eq_range']
    simp
  rw [e]
  exact h

def betStep (l : List UInt8) (width : Nat) (acc : Array (Array UInt8) × Nat) (p : Nat) : Array (Array UInt8) × Nat :=
  (acc.1.push (l.toArray.extract acc.2 p), p + width)

theorem extract_mid {pre cur rest : List UInt8} : (pre ++ cur ++ rest).toArray.extract pre.length (pre.length + cur.length) = cur.toArray := by
  rw [List.extract_toArray]
  simp [List.extract_eq_take_drop]

theorem bet_fold {c : UInt8} : ∀ (xs pre cur : List UInt8) (P : Array (Array UInt8)),
    (let r := (occ c (pre.length + cur.length) xs).foldl (betStep (pre ++ cur ++ xs) 1) (P, pre.length)
     (r.1.push ((pre ++ cur ++ xs).toArray.extract r.2 (pre ++ cur ++ xs).length)).toList) = P.toList ++ (splitGo c cur xs).map List.toArray
  | [], pre, cur, P => by
    have := extract_mid (pre := pre) (cur := cur) (rest := [])
    simp only [List.append_nil] at this
    simp [occ, splitGo, this]
  | x :: xs, pre, cur, P => by
    by_cases hc : x = c
    · have ih := bet_fold (c := c) xs (pre ++ cur ++ [x]) [] (P.push cur.toArray)
      simp only [occ, if_pos hc, splitGo, List.foldl_cons]
      have hb : betStep (pre ++ cur ++ x :: xs) 1 (P, pre.length) (pre.length + cur.length) = (P.push cur.toArray, pre.length + cur.length + 1) := by
        unfold betStep
        rw [extract_mid]
      rw [hb]
      have e : pre ++ cur ++ x :: xs = pre ++ cur ++ [x] ++ [] ++ xs := by simp
      have hl : (pre ++ cur ++ [x]).length = pre.length + cur.length + 1 := by simp; omega
      rw [hl] at ih
      simp only [List.length_nil, Nat.add_zero] at ih
      rw [e, ih]
      simp
    · have ih := bet_fold (c := c) xs pre (cur ++ [x]) P
      simp only [occ, if_neg hc, splitGo]
      have e : pre ++ cur ++ x :: xs = pre ++ (cur ++ [x]) ++ xs := by simp
      have hl : pre.length + (cur ++ [x]).length = pre.length + cur.length + 1 := by simp; omega
      rw [hl] at ih
      rw [e, ih]

theorem between_eq {l : List UInt8} {c : UInt8} : Bytes.between l.toArray 1 (occ c 0 l) = (splitNl c l).map List.toArray := by
  have h := bet_fold (c := c) l [] [] #[]
  unfold Bytes.between
  exact h

theorem splitGo_length {c : UInt8} : ∀ {xs cur : List UInt8}, (splitGo c cur xs).length ≤ xs.length + 1
  | [], _ => Nat.le_refl _
  | x :: xs, cur => by
    unfold splitGo
    split
    · have := splitGo_length (c := c) (xs := xs) (cur := [])
      simp only [List.length_cons]; omega
    · have := splitGo_length (c := c) (xs := xs) (cur := cur ++ [x])
      simp only [List.length_cons]; omega
theorem splitGo_part {c : UInt8} : ∀ {xs cur p : List UInt8}, p ∈ splitGo c cur xs → p.length ≤ cur.length + xs.length
  | [], cur, p, h => by
    simp [splitGo] at h; subst h; simp
  | x :: xs, cur, p, h => by
    unfold splitGo at h
    split at h
    · rcases List.mem_cons.mp h with rfl | h
      · simp
      · have := splitGo_part h
        simp only [List.length_cons, List.length_nil] at this ⊢; omega
    · have := splitGo_part h
      simp only [List.length_cons, List.length_append, List.length_nil] at this ⊢; omega
end Mine

/- NB -/
namespace Mine
open Builtin

/- the methods' places in the table -/
theorem slot_rstrip : Slot "bytes" "rstrip" "bytes.rstrip" :=
  .of (owner := "bytes") (n := "rstrip") (by rw [typeLookup_type, builtinLookup_eq_fast]; kernel_rfl) (by decide +kernel) (by decide +kernel) (by decide +kernel)
    (by first | exact .inl (by decide +kernel) | exact .inr (by decide +kernel)) (by rw [isSubtype_type]; kernel_rfl)
theorem type_rstrip : typeOf (.builtin "bytes.rstrip") = pure (.type "method_descriptor") := by show builtinType _ = _; rw [builtinType_eq_fast]; kernel_rfl
theorem entry_rstrip : entryFor table "bytes.rstrip" = some Builtin.«bytes.rstrip» := entryFor_of_tree (by kernel_rfl)
theorem args_rstrip (a b : Value) : argsOk "bytes.rstrip" ⟨[a, b], []⟩ := by
  unfold argsOk; rw [signature?_of (id := "bytes.rstrip") (n := ['p', 'i', 'r', 't', 's', 'r']) (o := ['s', 'e', 't', 'y', 'b']) (by kernel_rfl) FB.owner_bytes]; kernel_rfl
theorem slot_find : Slot "bytes" "find" "bytes.find" :=
  .of (owner := "bytes") (n := "find") (by rw [typeLookup_type, builtinLookup_eq_fast]; kernel_rfl) (by decide +kernel) (by decide +kernel) (by decide +kernel)
    (by first | exact .inl (by decide +kernel) | exact .inr (by decide +kernel)) (by rw [isSubtype_type]; kernel_rfl)
theorem type_find : typeOf (.builtin "bytes.find") = pure (.type "method_descriptor") := by show builtinType _ = _; rw [builtinType_eq_fast]; kernel_rfl
theorem entry_find : entryFor table "bytes.find" = some Builtin.«bytes.find» := entryFor_of_tree (by kernel_rfl)
theorem args_find (a b c d : Value) : argsOk "bytes.find" ⟨[a, b, c, d], []⟩ := by
  unfold argsOk; rw [signature?_of (id := "bytes.find") (n := ['d', 'n', 'i', 'f']) (o := ['s', 'e', 't', 'y', 'b']) (by kernel_rfl) FB.owner_bytes]; kernel_rfl
theorem slot_split : Slot "bytes" "split" "bytes.split" :=
  .of (owner := "bytes") (n := "split") (by rw [typeLookup_type, builtinLookup_eq_fast]; kernel_rfl) (by decide +kernel) (by decide +kernel) (by decide +kernel)
    (by first | exact .inl (by decide +kernel) | exact .inr (by decide +kernel)) (by rw [isSubtype_type]; kernel_rfl)
theorem type_split : typeOf (.builtin "bytes.split") = pure (.type "method_descriptor") := by show builtinType _ = _; rw [builtinType_eq_fast]; kernel_rfl
theorem entry_split : entryFor table "bytes.split" = some Builtin.«bytes.split» := entryFor_of_tree (by kernel_rfl)
theorem args_split (a b : Value) : argsOk "bytes.split" ⟨[a, b], []⟩ := by
  unfold argsOk; rw [signature?_of (id := "bytes.split") (n := ['t', 'i', 'l', 'p', 's']) (o := ['s', 'e', 't', 'y', 'b']) (by kernel_rfl) FB.owner_bytes]; kernel_rfl

def rstrip (cs l : List UInt8) : List UInt8 := (l.reverse.dropWhile cs.contains).reverse

theorem rstrip_eq_of_length {cs l : List UInt8} (h : (rstrip cs l).length = l.length) : rstrip cs l = l := by
  unfold rstrip at h ⊢
  have h1 := (List.dropWhile_suffix (l := l.reverse) cs.contains)
  have h2 : (l.reverse.dropWhile cs.contains).length = l.reverse.length := by simpa using h
  rw [h1.eq_of_length h2]; simp

section
variable {prog : Program} {w : World} {A : Around} {E : Value → Shared → Prop} {s : Shared} {l cs : List UInt8} {t u : Tok}

theorem like_eq {id : String} {b : Array UInt8} : Bytes.bytesLike id (.bytes b t) = pure b := by
  unfold Bytes.bytesLike
  rw [KBy.buffer_eq]
  rfl

theorem meets_rstrip : Meets («bytes.rstrip» ⟨[.bytes l.toArray t, .bytes cs.toArray u], []⟩) (fun _ R s => l.length ≤ sizeLine ∧ ∀ t' k, R (.ok (.ret (.bytes (rstrip cs l).toArray t'))) { s with toks := k }) := by
  refine .of_wp fun prog w A R s hS => ?_
  obtain ⟨hsz, h⟩ := hS
  show wpAny _ _ (Bytes.bytesLike _ (.bytes cs.toArray u) >>= fun r => _) _ _ s
  refine wpAny_bind (wpAny_of_eq like_eq ?_)
  have hk : (l.reverse.dropWhile cs.toArray.contains).reverse = rstrip cs l := by
    unfold rstrip; congr 2; funext c; simp
  show wpAny _ _ (if ((l.reverse.dropWhile cs.toArray.contains).reverse).length == l.toArray.size then _ else _) _ _ s
  rw [hk]
  by_cases hl : (rstrip cs l).length = l.length
  · rw [if_pos (by simpa using hl)]
    refine wpAny_bind (wpAny_rule ?_)
    show wpAny _ _ (Bytes.Kind.same .bytes (.bytes l.toArray t) >>= fun v => _) _ _ s
    refine wpAny_bind ?_
    unfold Bytes.Kind.same
    refine wpAny_ite (KBc.ite_yes rfl ?_)
    refine wpAny_bind (wpAny_typeOf (typeIs_bytes _ _ t) ?_)
    refine wpAny_ite (KBc.ite_yes rfl ?_)
    refine wpAny_pure (wpAny_pure ⟨_, rfl, ?_⟩)
    have := h t s.toks
    rw [rstrip_eq_of_length hl] at this
    exact this
  · rw [if_neg (by simpa using hl)]
    have hle : (rstrip cs l).length ≤ sizeLine := by
      have : (rstrip cs l).length ≤ l.length := by
        unfold rstrip
        have h1 := (List.dropWhile_suffix (l := l.reverse) cs.contains).length_le
        simpa using h1
      omega
    have h2 := h s.toks (s.toks + 1)
    rw [← hk] at h2 hle
    exact wpAny_bind (wpAny_mkBytes (wpAny_pure ⟨_, rfl, h2⟩) (by rw [List.size_toArray]; exact hle))

theorem rstrip_K {Q : Value → Shared → Prop} (hsz : l.length ≤ 16777216) (h : ∀ t' k, Q (.bytes (rstrip cs l).toArray t') { s with toks := k }) :
    wpAny (model prog w) A (call (.builtin "bytes.rstrip") [.bytes l.toArray t, .bytes cs.toArray u]) Q E s :=
  call_meets slot_rstrip (typeIs_bytes _ _ _) entry_rstrip (args_rstrip _ _) meets_rstrip ⟨by rw [sizeLine_eq]; exact hsz, h⟩

def findIn (l : List UInt8) (c : UInt8) (lo hi : Nat) : Option Nat := ((List.range (hi - lo)).map (· + lo)).find? fun i => l[i]? == some c
def findInt (l : List UInt8) (c : UInt8) (lo hi : Nat) : Int := match findIn l c lo hi with
  | some i => (i : Int)
  | none => -1

theorem extract_one {c : UInt8} {i : Nat} : (l.toArray.extract i (i + 1) == #[c]) = (l[i]? == some c) := by
  rw [Bool.eq_iff_iff]
  simp only [beq_iff_eq]
  rw [List.extract_toArray]
  by_cases hi : i < l.length
  · have : List.extract l i (i + 1) = [l[i]] := by
      simp [hi, List.take_one, List.head?_drop]
    rw [this]; simp [hi]
  · have : List.extract l i (i + 1) = [] := by
      simp; omega
    rw [this]; simp [hi]

theorem find_eq {c : UInt8} {lo hi : Nat} : (if ((hi : Int) - (lo : Int) < ((#[c] : Array UInt8).size : Int)) then none else some ((lo : Int).toNat, (hi : Int).toNat)).bind (fun (p : Nat × Nat) => Bytes.find? l.toArray #[c] p.1 p.2) = findIn l c lo hi := by
  have h1 : ((#[c] : Array UInt8).size : Int) = 1 := rfl
  rw [h1]
  by_cases h : (hi : Int) - (lo : Int) < 1
  · rw [if_pos h]
    have : hi - lo = 0 := by omega
    simp [findIn, this]
  · rw [if_neg h]
    show Bytes.find? l.toArray #[c] lo hi = _
    unfold Bytes.find? findIn
    have h2 : hi + 1 - (lo + (#[c] : Array UInt8).size) = hi - lo := by show hi + 1 - (lo + 1) = _; omega
    rw [h2]
    congr 1
    funext i
    exact extract_one

theorem bound_eq {i : Int} {t : Tok} : Bytes.bound? (some (.int i t)) = pure (some i) := by
  unfold Bytes.bound?
  kernel_rfl

theorem window_eq {n lo hi : Nat} (h : hi ≤ n) : Bytes.window n (some (lo : Int)) (some (hi : Int)) = ((lo : Int), (hi : Int)) := by
  unfold Bytes.window
  simp only [Option.getD_some]
  rw [if_neg (by omega), if_neg (by omega)]
  congr 1
  omega

theorem meets_find {c : UInt8} {lo hi : Nat} {t1 t2 t3 : Tok} (hh : hi ≤ l.length) :
    Meets («bytes.find» ⟨[.bytes l.toArray t, .bytes #[c] t1, .int lo t2, .int hi t3], []⟩) (fun _ R s => ∀ t' k, R (.ok (.ret (.int (findInt l c lo hi) t'))) { s with toks := k }) := by
  refine .of_wp fun prog w A R s h => ?_
  show wpAny _ _ (Bytes.searchArgs .bytes "find" _ >>= fun r => _) _ _ s
  refine wpAny_bind ?_
  unfold Bytes.searchArgs
  show wpAny _ _ (Bytes.bound? (some (.int lo t2)) >>= fun r => _) _ _ s
  rw [bound_eq]
  refine wpAny_bind (wpAny_pure ?_)
  show wpAny _ _ (Bytes.bound? (some (.int hi t3)) >>= fun r => _) _ _ s
  rw [bound_eq]
  refine wpAny_bind (wpAny_pure ?_)
  show wpAny _ _ (Bytes.buffer? _ (.bytes #[c] t1) >>= fun r => _) _ _ s
  rw [KBy.buffer_eq]
  refine wpAny_bind (wpAny_pure ?_)
  refine wpAny_bind (wpAny_pure ?_)
  refine wpAny_bind (wpAny_of_eq (a := l.toArray) rfl ?_)
  have hw : Bytes.window l.toArray.size (some (lo : Int)) (some (hi : Int)) = ((lo : Int), (hi : Int)) := window_eq (by simpa using hh)
  rw [hw]
  refine wpAny_pure ?_
  show wpAny _ _ (match Option.bind _ (fun (p : Nat × Nat) => Bytes.find? l.toArray #[c] p.1 p.2) with | some i => retInt i | none => _) _ _ s
  rw [find_eq]
  have h' := h s.toks (s.toks + 1)
  unfold findInt at h'
  cases hf : findIn l c lo hi with
  | none =>
    rw [hf] at h'
    refine wpAny_bind (wpAny_rule ?_)
    refine wpAny_ite (KBy.ite_no (by decide) ?_)
    exact wpAny_bind (wpAny_mkInt (wpAny_pure ⟨_, rfl, h'⟩))
  | some i =>
    rw [hf] at h'
    exact wpAny_bind (wpAny_mkInt (wpAny_pure ⟨_, rfl, h'⟩))

theorem find_K {c : UInt8} {lo hi : Nat} {t1 t2 t3 : Tok} {Q : Value → Shared → Prop} (hh : hi ≤ l.length) (h : ∀ t' k, Q (.int (findInt l c lo hi) t') { s with toks := k }) :
    wpAny (model prog w) A (call (.builtin "bytes.find") [.bytes l.toArray t, .bytes #[c] t1, .int lo t2, .int hi t3]) Q E s :=
  call_meets slot_find (typeIs_bytes _ _ _) entry_find (args_find _ _ _ _) (meets_find hh) h

/- split at one octet -/
inductive BytesAre : List Value → List (List UInt8) → Prop
  | nil : BytesAre [] []
  | cons {vs : List Value} {ps : List (List UInt8)} {p : List UInt8} (t : Tok) : BytesAre vs ps → BytesAre (Value.bytes p.toArray t :: vs) (p :: ps)
theorem BytesAre.length_eq {vs : List Value} {ps : List (List UInt8)} (h : BytesAre vs ps) : vs.length = ps.length := by
  induction h with
  | nil => rfl
  | cons _ _ ih => simp [ih]

theorem mapM_new : ∀ (ps : List (List UInt8)) (s : Shared) (Q : List Value → Shared → Prop), (∀ p ∈ ps, p.length ≤ sizeLine) →
    (∀ vs k, BytesAre vs ps → Q vs { s with toks := k }) → ∀ {M : Model}, wpAny M A (List.mapM Bytes.Kind.bytes.new (ps.map List.toArray)) Q E s
  | [], s, Q, _, h => by
    rw [List.map_nil, List.mapM_nil]; exact wpAny_pure (h [] s.toks .nil)
  | p :: ps, s, Q, hz, h => by
    rw [List.map_cons, List.mapM_cons]
    refine wpAny_bind (wpAny_mkBytes ?_ (by rw [List.size_toArray]; exact hz p (List.mem_cons_self ..)))
    refine wpAny_bind (mapM_new ps _ _ (fun y hy => hz y (List.mem_cons_of_mem _ hy)) fun vs k hv => wpAny_pure ?_)
    exact h _ k (.cons _ hv)

theorem meets_split {c : UInt8} {t1 : Tok} :
    Meets («bytes.split» ⟨[.bytes l.toArray t, .bytes #[c] t1], []⟩) (fun _ R s => l.length < sizeLine ∧
      ∀ vs k, BytesAre vs (splitNl c l) → R (.ok (.ret (.ref s.heap.objs.size))) { s with heap := s.heap.push { cls := .type "list", data := .seq vs.toArray }, toks := k }) := by
  refine .of_wp fun prog w A R s hS => ?_
  obtain ⟨hsz, h⟩ := hS
  show wpAny _ _ (Bytes.bytesLike _ (.bytes #[c] t1) >>= fun r => _) _ _ s
  refine wpAny_bind (wpAny_of_eq like_eq ?_)
  have hp : List.take (if (-1 : Int) < 0 then l.toArray.size + 1 else (-1 : Int).toNat) (Bytes.occurrences l.toArray #[c] 0 l.toArray.size) = occ c 0 l := by
    rw [if_pos (by decide), occurrences_eq]
    refine List.take_of_length_le ?_
    have := occ_length (c := c) (xs := l) (k := 0)
    rw [List.size_toArray]; omega
  refine wpAny_ite (KBy.ite_no (by simp) ?_)
  show wpAny _ _ (if (List.take (if (-1 : Int) < 0 then l.toArray.size + 1 else (-1 : Int).toNat) (Bytes.occurrences l.toArray #[c] 0 l.toArray.size)).isEmpty = true then _ else
    (List.mapM Bytes.Kind.bytes.new (Bytes.between l.toArray 1 (List.take (if (-1 : Int) < 0 then l.toArray.size + 1 else (-1 : Int).toNat) (Bytes.occurrences l.toArray #[c] 0 l.toArray.size))) >>= fun r => _)) _ _ s
  rw [hp]
  have hb := between_eq (l := l) (c := c)
  by_cases he : (occ c 0 l).isEmpty = true
  · rw [if_pos he]
    refine wpAny_bind (wpAny_rule ?_)
    refine wpAny_bind ?_
    unfold Bytes.Kind.same
    refine wpAny_ite (KBc.ite_yes rfl ?_)
    refine wpAny_bind (wpAny_typeOf (typeIs_bytes _ _ t) ?_)
    refine wpAny_ite (KBc.ite_yes rfl ?_)
    refine wpAny_pure ?_
    refine wpAny_bind (wpAny_newList (wpAny_pure ⟨_, rfl, ?_⟩) (by rw [sizeLine_eq]; exact Nat.le_of_ble_eq_true rfl))
    have h1 : splitNl c l = [l] := by
      rw [List.isEmpty_iff.mp he] at hb
      have h2 : Bytes.between l.toArray 1 [] = [l.toArray] := by simp [Bytes.between]
      rw [h2] at hb
      cases hq : splitNl c l with
      | nil => rw [hq] at hb; simp at hb
      | cons a r =>
        rw [hq] at hb
        simp only [List.map_cons, List.cons.injEq] at hb
        obtain ⟨ha, hr⟩ := hb
        have : r = [] := by simpa using hr.symm
        have h3 : l = a := by simpa using congrArg Array.toList ha
        rw [this, h3]
    exact h [_] s.toks (by rw [h1]; exact .cons _ .nil)
  · rw [if_neg he, hb]
    refine wpAny_bind (mapM_new _ _ _ (fun p hp => ?_) fun vs k hv => ?_)
    · have := splitGo_part hp
      simp only [List.length_nil] at this; omega
    · have hvl : vs.length = (splitNl c l).length := hv.length_eq
      have := splitGo_length (c := c) (xs := l) (cur := [])
      refine wpAny_bind (wpAny_newList (wpAny_pure ⟨_, rfl, h vs k hv⟩) ?_)
      rw [hvl]; unfold splitNl; omega

section
variable {h₀ : Heap} {L : Addr} {m : PySem.Str → Option Value} {news : List (Addr × Obj)}
theorem split_K {c : UInt8} {t1 : Tok} {Q : Value → Shared → Prop} (F : Fr h₀ L s.heap m) (N : News h₀ L s.heap news) (hsz : l.length < 16777216)
    (h : ∀ D vs h' k, BytesAre vs (splitNl c l) → Fr h₀ L h' m → News h₀ L h' ((D, listOf vs.toArray 0) :: news) → (∀ p ∈ news, p.1 < D) → Q (.ref D) { s with heap := h', toks := k }) :
    wpAny (model prog w) A (call (.builtin "bytes.split") [.bytes l.toArray t, .bytes #[c] t1]) Q E s :=
  call_meets slot_split (typeIs_bytes _ _ _) entry_split (args_split _ _) meets_split ⟨by rw [sizeLine_eq]; exact hsz, fun vs k hv =>
    h _ vs _ k hv (F.push _) (N.push F _) fun p hp => Heap.lt_size (N p hp).1⟩
end

theorem method_rstrip {M : Model} {b : Array UInt8} {pl : Sem Bool} {Q : Value × List Value → Shared → Prop} (h : Q (.builtin "bytes.rstrip", [.bytes b t]) s) : wpAny M A (getMethod (.bytes b t) "rstrip" pl) Q E s := by
  with_reducible exact KBd.method_of (.bytes b t) (typeIs_bytes _ _ _) slot_rstrip type_rstrip KBd.noRef h
theorem method_find {M : Model} {b : Array UInt8} {pl : Sem Bool} {Q : Value × List Value → Shared → Prop} (h : Q (.builtin "bytes.find", [.bytes b t]) s) : wpAny M A (getMethod (.bytes b t) "find" pl) Q E s := by
  with_reducible exact KBd.method_of (.bytes b t) (typeIs_bytes _ _ _) slot_find type_find KBd.noRef h
theorem method_split {M : Model} {b : Array UInt8} {pl : Sem Bool} {Q : Value × List Value → Shared → Prop} (h : Q (.builtin "bytes.split", [.bytes b t]) s) : wpAny M A (getMethod (.bytes b t) "split" pl) Q E s := by
  with_reducible exact KBd.method_of (.bytes b t) (typeIs_bytes _ _ _) slot_split type_split KBd.noRef h
end

/- octets as lists -/
def cutL (l : List UInt8) (lo hi : Option Int) : List UInt8 := (l.drop (lo.elim 0 (clipAt l.length))).take (hi.elim l.length (clipAt l.length) - lo.elim 0 (clipAt l.length))
theorem cutL_from {l : List UInt8} {a : Nat} : cutL l (some (a : Int)) none = l.drop a := by
  unfold cutL
  simp only [Option.elim, clipAt_nat]
  rw [List.take_of_length_le (by rw [List.length_drop]; exact Nat.le_refl _)]
  by_cases h : a ≤ l.length
  · rw [Nat.min_eq_left h]
  · rw [Nat.min_eq_right (by omega), List.drop_of_length_le (Nat.le_refl _), List.drop_of_length_le (by omega)]
theorem cutL_to {l : List UInt8} {b : Nat} : cutL l none (some (b : Int)) = l.take b := by
  unfold cutL
  simp only [Option.elim, clipAt_nat, List.drop_zero, Nat.sub_zero]
  by_cases h : b ≤ l.length
  · rw [Nat.min_eq_left h]
  · rw [Nat.min_eq_right (by omega), List.take_of_length_le (Nat.le_refl _), List.take_of_length_le (by omega)]
theorem cutL_both {l : List UInt8} {a b : Nat} : cutL l (some (a : Int)) (some (b : Int)) = (l.drop a).take (b - a) := by
  unfold cutL
  simp only [Option.elim, clipAt_nat]
  by_cases h : a ≤ l.length
  · rw [Nat.min_eq_left h]
    by_cases hb : b ≤ l.length
    · rw [Nat.min_eq_left hb]
    · rw [Nat.min_eq_right (by omega), List.take_of_length_le (by rw [List.length_drop]; exact Nat.le_refl _), List.take_of_length_le (by rw [List.length_drop]; omega)]
  · rw [Nat.min_eq_right (a := a) (by omega), List.drop_of_length_le (Nat.le_refl _), List.drop_of_length_le (by omega), List.take_nil, List.take_nil]
theorem cutL_1 {l : List UInt8} : cutL l (some 1) none = l.drop 1 := cutL_from (a := 1)
theorem cutL_2 {l : List UInt8} : cutL l (some 2) none = l.drop 2 := cutL_from (a := 2)

section
variable {prog : Program} {w : World} {A : Around} {E : Value → Shared → Prop} {s : Shared} {l r : List UInt8} {t u : Tok} {h₀ : Heap} {L : Addr} {m : PySem.Str → Option Value} {news : List (Addr × Obj)} {value slice : PySem.Expr}
theorem add_L {Q : Value → Shared → Prop} (hsz : l.length + r.length ≤ 16777216) (h : ∀ t' k, Q (.bytes (l ++ r).toArray t') { s with toks := k }) :
    wpAny (model prog w) A (binaryOp .Add (.bytes l.toArray t) (.bytes r.toArray u)) Q E s :=
  KBy.add_bytes (by simpa using hsz) fun t' k => by
    have := h t' k
    simpa using this
theorem len_L {Q : Value → Shared → Prop} (hsz : l.length ≤ 16777216) (h : ∀ t' k, Q (.int (l.length : Int) t') { s with toks := k }) :
    wpAny (model prog w) A (call (.builtin "len") [.bytes l.toArray t]) Q E s :=
  len_bytes (by rw [List.size_toArray]; omega) (by
    have := h (s.toks + 1) (s.toks + 1 + 1)
    simpa using this)
theorem eq_L {Q : Value → Shared → Prop} (h : Q (.bool (l == r)) s) : wpAny (model prog w) A (compareOp .Eq (.bytes l.toArray t) (.bytes r.toArray u)) Q E s :=
  eq_bytes (by simpa using h)
theorem ne_L {Q : Value → Shared → Prop} (h : Q (.bool (l != r)) s) : wpAny (model prog w) A (compareOp .NotEq (.bytes l.toArray t) (.bytes r.toArray u)) Q E s :=
  ne_bytes (by simpa using h)
theorem slice_L {lv uv : Value} {lo hi : Option Int} {Q : Value → Shared → Prop} (hF : Fr h₀ L s.heap m) (hN : News h₀ L s.heap news) (hl : IsPart lv lo) (hu : IsPart uv hi) (hz : l.length ≤ 16777216)
    {c : List UInt8} (hc : cutL l lo hi = c)
    (h : ∀ h' t' k, Fr h₀ L h' m → News h₀ L h' news → Q (.bytes c.toArray t') { s with heap := h', toks := k })
    (hs : subscripted slice false (.bytes l.toArray t) (.ref s.heap.objs.size) = operate [.ref s.heap.objs.size, .bytes l.toArray t] (getItem (.bytes l.toArray t) (.ref s.heap.objs.size)) := by with_unfolding_all rfl)
    (ht : ∀ r, letTemporaryGo value (.bytes l.toArray t) r = pure () := by intro _; with_unfolding_all rfl) :
    wpAny (model prog w) A (subscriptTail value slice (.bytes l.toArray t) (.ref s.heap.objs.size)) Q E { s with heap := s.heap.push { cls := .type "slice", data := .fields #[lv, uv, .none] } } := by
  refine KBc.slice_K hF hN rfl hl hu (by rw [KBw.ints_length, List.size_toArray]; exact hz) (fun h' t' k F' N' _ => ?_) hs ht
  have e : KBy.picked l.toArray lo hi = c.toArray := by
    rw [KBc.picked_eq, List.size_toArray, ← hc]
    rfl
  rw [e]
  exact h h' t' k F' N'
theorem item_L {i : Int} {ui : Tok} {Q : Value → Shared → Prop} (hfit : l.length ≤ 16777216) (h0 : 0 ≤ i) (h1 : i < (l.length : Int)) (h : ∀ t' k, Q (.int ((l.getD i.toNat 0).toNat : Int) t') { s with toks := k })
    (hs : subscripted slice false (.bytes l.toArray t) (.int i ui) = operate [.bytes l.toArray t, .int i ui] (getItem (.bytes l.toArray t) (.int i ui)) := by with_unfolding_all rfl)
    (ht : ∀ r, letTemporaryGo value (.bytes l.toArray t) r = pure () := by intro _; with_unfolding_all rfl) :
    wpAny (model prog w) A (subscriptTail value slice (.bytes l.toArray t) (.int i ui)) Q E s :=
  KBy.item_N (by omega) h0 h1 (h _ _) hs ht

theorem menu_L {tp : Addr} {vs : List Value} {i : Int} {ui : Tok} {n : Nat} {P : List UInt8 → Prop} {Q : Value → Shared → Prop} (N : News h₀ L s.heap news) (hm : (tp, { cls := .type "tuple", data := .seq vs.toArray n }) ∈ news)
    (h0 : 0 ≤ i) (h1 : i < (vs.length : Int)) (hv : vs.length < 1000) (hall : ∀ x ∈ vs, ∃ ln t, x = Value.bytes (List.toArray ln) t ∧ P ln) (h : ∀ ln t, P ln → Q (.bytes (List.toArray ln) t) s)
    (hs : subscripted slice false (.ref tp) (.int i ui) = operate [.ref tp, .int i ui] (getItem (.ref tp) (.int i ui)) := by with_unfolding_all rfl) :
    wpAny (model prog w) A (subscriptTail value slice (.ref tp) (.int i ui)) Q E s := by
  have hlt : i.toNat < vs.length := by omega
  have hx : vs[i.toNat]? = some vs[i.toNat] := by simp [hlt]
  obtain ⟨ln, t, e, hp⟩ := hall _ (List.mem_of_getElem? hx)
  rw [e] at hx
  refine item_tupleT (j := i.toNat) (News.isTup N hm) (by omega) (by omega) ?_ hx (h ln t hp) hs
  have hn : ¬ i < 0 := by omega
  unfold seqIndex?
  simp only [if_neg hn]
  rw [if_pos (by simp; omega)]
end

theorem findIn_some {l : List UInt8} {c : UInt8} {lo hi i : Nat} (h : findIn l c lo hi = some i) : lo ≤ i ∧ i < hi ∧ l[i]? = some c ∧ ∀ j, lo ≤ j → j < i → l[j]? ≠ some c := by
  unfold findIn at h
  obtain ⟨hp, as, bs, he, hn⟩ := List.find?_eq_some_iff_append.mp h
  have hm : i ∈ (List.range (hi - lo)).map (· + lo) := by rw [he]; simp
  obtain ⟨j, hj, rfl⟩ := List.mem_map.mp hm
  have hj' := List.mem_range.mp hj
  refine ⟨by omega, by omega, by simpa using hp, fun q hq1 hq2 => ?_⟩
  have hlen : as.length = j := by
    have h1 : ((List.range (hi - lo)).map (· + lo))[as.length]? = some (j + lo) := by rw [he]; simp
    have h3 : as.length < ((List.range (hi - lo)).map (· + lo)).length := by rw [he]; simp
    have h4 : as.length < hi - lo := by simpa using h3
    simp [h4] at h1
    omega
  have h2 : as[q - lo]? = some q := by
    have h5 : ((List.range (hi - lo)).map (· + lo))[q - lo]? = some q := by
      have : q - lo < hi - lo := by omega
      simp [this]; omega
    rw [he, List.getElem?_append_left (by omega)] at h5
    exact h5
  have := hn q (List.mem_of_getElem? h2)
  simpa using this
theorem findIn_none {l : List UInt8} {c : UInt8} {lo hi : Nat} (h : findIn l c lo hi = none) : ∀ j, lo ≤ j → j < hi → l[j]? ≠ some c := by
  intro j h1 h2
  unfold findIn at h
  rw [List.find?_eq_none] at h
  have := h j (List.mem_map.mpr ⟨j - lo, List.mem_range.mpr (by omega), by omega⟩)
  simpa using this
/- the first place is what it is said to be -/
theorem findIn_eq {l : List UInt8} {c : UInt8} {lo hi i : Nat} (h1 : lo ≤ i) (h2 : i < hi) (h3 : l[i]? = some c) (h4 : ∀ j, lo ≤ j → j < i → l[j]? ≠ some c) : findIn l c lo hi = some i := by
  cases hf : findIn l c lo hi with
  | none => exact absurd h3 (findIn_none hf i h1 h2)
  | some k =>
    obtain ⟨k1, k2, k3, k4⟩ := findIn_some hf
    rcases Nat.lt_trichotomy i k with h | h | h
    · exact absurd h3 (k4 i h1 h)
    · rw [h]
    · exact absurd k3 (h4 k k1 h)
theorem find_K2 {prog : Program} {w : World} {A : Around} {E : Value → Shared → Prop} {s : Shared} {l : List UInt8} {t : Tok} {c : UInt8} {lo hi : Nat} {t1 t2 t3 : Tok} {Q : Value → Shared → Prop} (hh : hi ≤ l.length)
    (h1 : findIn l c lo hi = none → ∀ t' k, Q (.int (-1) t') { s with toks := k }) (h2 : ∀ i, findIn l c lo hi = some i → lo ≤ i → i < hi → ∀ t' k, Q (.int (i : Int) t') { s with toks := k }) :
    wpAny (model prog w) A (call (.builtin "bytes.find") [.bytes l.toArray t, .bytes #[c] t1, .int lo t2, .int hi t3]) Q E s := by
  refine find_K hh fun t' k => ?_
  unfold findInt
  cases hf : findIn l c lo hi with
  | none => exact h1 hf t' k
  | some i => exact h2 i hf (findIn_some hf).1 (findIn_some hf).2.1 t' k

def Hold (P : Prop) : Prop := P
theorem Hold.of {P : Prop} (h : Hold P) : P := h
theorem Hold.out {P : Prop} (h : P) : Hold P := h
end Mine

/- NC -/
namespace Mine

/- what a call of a def comes to: the answer, and the ledger behind it -/
def Fn (w : World) (f : Addr) (d : Nat) (vs : List Value) (news : List (Addr × Obj)) (Post : Value → List (Addr × Obj) → Prop) : Prop :=
  ∀ (mean : ExcName → Option Value) (mg mb : Str → Option Value) (dp un : Nat) (gd : Option (List Code)) (cn : Str) (cs : Scope) (a : Addr) (ccd : Value) (cl : List (Str × Addr)) (outer : List Env) (A₀ : Around) (base h₀ : Heap) (L : Addr) (m : Str → Option Value) (s : Shared) (Q E : Value → Shared → Prop),
    Below A₀ base outer h₀ → Fr h₀ L s.heap m → (hd.heap_39 w.params).In h₀ → News h₀ L s.heap news →
    Top hd.view_39 (looseW hd.view_39 [Str.ofString "line_spans"]) mean mg mb h₀ → cs.kind = .function → dp + d < recursionLimit → un + 8 * d < cLine →
    (∀ r news' h' tk', Post r news' → Fr h₀ L h' m → News h₀ L h' news' → Q r { s with heap := h', toks := tk' }) →
    wpAny (model Challenge.rw_nz0265_01.row.prog w) (ktrTop dp un gd cn cs L a ccd cl outer) (call (.ref f) vs) Q E s

theorem fr_ps {h₀ h : Heap} {L : Addr} {m : Str → Option Value} {ps : List (Str × Value)} (F : Fr h₀ L h m) (hp : ∀ p ∈ ps, m p.1 = some p.2) : Fr h₀ L h (kstB m ps) := by
  have e : kstB m ps = m := by
    funext z
    exact kstB_eq hp fun _ => rfl
  rw [e]; exact F
theorem news_sub {h₀ h : Heap} {L : Addr} {news news' : List (Addr × Obj)} (N : News h₀ L h news) (hs : ∀ p ∈ news', p ∈ news) : News h₀ L h news' := fun p hp => N p (hs p hp)

abbrev listO (vs : List Value) (n : Nat) : Obj := listOf vs.toArray n

local macro_rules | `(tactic| k_all) => `(tactic| with_reducible assumption)
theorem draw_fn (w : World) (tape cells : Addr) (vs : List Value) (ns : List Int) (n₁ n₂ : Nat) (k : Int) (t t' : Tok) (lim : Int) (news : List (Addr × Obj))
    (hi : IntsAre vs ns) (h0 : 0 < ns.length) (hl : ns.length ≤ 63) (hk : 0 ≤ k) (hk' : k < 1000) (hlim : 0 < lim) (hlim' : lim < 1000) (hne : @Ne Nat cells tape) (hnn : ∀ p ∈ news, p.1 ≠ tape) :
    Fn w 44 1 [.ref tape, .int lim t'] ((tape, listOf #[.ref cells, .int k t] n₁) :: (cells, listOf vs.toArray n₂) :: news)
      (fun r news' => ∃ v t₁ t₂, r = .int v t₁ ∧ 0 ≤ v ∧ v < lim ∧ news' = (tape, listOf #[.ref cells, .int (k + 1) t₂] n₁) :: (cells, listOf vs.toArray n₂) :: news) := by
  unfold Fn
  w_top off
  k_fill
  intro mean mg mb dp un gd cn cs a ccd cl outer A₀ base h₀ L m s Q E B F X N T hk hd hu hret
  refine wpAny_call ?_
  k_dflt ktr_enter
  k_steps
  rename Fr h₀ L _ m => kF
  rename News h₀ L _ _ => kN
  refine hret _ _ _ _ ?_ kF kN
  exact ⟨_, _, _, rfl, fmod_lo _ (by omega), fmod_hi _ (by omega), rfl⟩
end Mine

/- ND -/
namespace Mine

def Tape (tape cells : Addr) (k : Int) (t : Tok) (n : Nat) : Addr × Obj := (tape, listOf #[.ref cells, .int k t] n)

theorem split_uniq {x : Addr} {o o' : Obj} {post post' : List (Addr × Obj)} : ∀ (pre pre' : List (Addr × Obj)), (∀ p ∈ pre, p.1 ≠ x) → (∀ p ∈ pre', p.1 ≠ x) → pre ++ (x, o) :: post = pre' ++ (x, o') :: post' → pre = pre' ∧ post = post'
  | [], [], _, _, e => by simp only [List.nil_append, List.cons.injEq] at e; exact ⟨rfl, e.2⟩
  | [], q :: r, _, h, e => by
    simp only [List.nil_append, List.cons_append, List.cons.injEq] at e
    exact absurd (by rw [← e.1]) (h q (.head _))
  | p :: r, [], h, _, e => by
    simp only [List.nil_append, List.cons_append, List.cons.injEq] at e
    exact absurd (by rw [e.1]) (h p (.head _))
  | p :: r, q :: r', h, h', e => by
    simp only [List.cons_append, List.cons.injEq] at e
    obtain ⟨h1, h2⟩ := split_uniq r r' (fun p hp => h p (.tail _ hp)) (fun p hp => h' p (.tail _ hp)) e.2
    exact ⟨by rw [e.1, h1], h2⟩

section
variable {w : World} {mean : ExcName → Option Value} {mg mb : Str → Option Value} {dp un : Nat} {gd : Option (List Code)} {cn : Str} {cs : Scope} {a : Addr} {ccd : Value} {cl : List (Str × Addr)} {outer : List Env} {A₀ : Around} {base h₀ : Heap} {L : Addr} {m : Str → Option Value} {s : Shared} {Q E : Value → Shared → Prop}
theorem draw_use {tape cells : Addr} {vs : List Value} {ns : List Int} {n₁ n₂ : Nat} {k : Int} {t t' : Tok} {lim : Int} {full : List (Addr × Obj)} {full' : Tok → List (Addr × Obj)}
    (B : Below A₀ base outer h₀) (F : Fr h₀ L s.heap m) (X : (hd.heap_39 w.params).In h₀) (N : News h₀ L s.heap full) (T : Top hd.view_39 (looseW hd.view_39 [Str.ofString "line_spans"]) mean mg mb h₀) (hcs : cs.kind = .function)
    (U : ∀ t₂, Upd tape (listOf #[.ref cells, .int k t] n₁) (listOf #[.ref cells, .int (k + 1) t₂] n₁) full (full' t₂)) (h2 : (cells, listOf vs.toArray n₂) ∈ full)
    (hi : IntsAre vs ns) (h0 : 0 < ns.length) (hl : ns.length ≤ 63) (hk : 0 ≤ k) (hk' : k < 1000) (hlim : 0 < lim) (hlim' : lim < 1000) (hne : @Ne Nat cells tape)
    (hd : dp + 1 < recursionLimit) (hu : un + 8 < cLine)
    (hret : ∀ v t₁ t₂ h' tk', 0 ≤ v → v < lim → Fr h₀ L h' m → News h₀ L h' (full' t₂) → Q (.int v t₁) { s with heap := h', toks := tk' }) :
    wpAny (model Challenge.rw_nz0265_01.row.prog w) (ktrTop dp un gd cn cs L a ccd cl outer) (call (.ref 44) [.ref tape, .int lim t']) Q E s := by
  obtain ⟨pre, post, rfl, _, hp1, hp2⟩ := (U 0).split
  have hU := fun t₂ => (U t₂)
  have N' : News h₀ L s.heap ((tape, listOf #[.ref cells, .int k t] n₁) :: (cells, listOf vs.toArray n₂) :: (pre ++ post)) := by
    refine news_sub N fun p hp => ?_
    rcases List.mem_cons.mp hp with rfl | hp
    · exact List.mem_append.mpr (.inr (.head _))
    rcases List.mem_cons.mp hp with rfl | hp
    · exact h2
    rcases List.mem_append.mp hp with hp | hp
    · exact List.mem_append.mpr (.inl hp)
    · exact List.mem_append.mpr (.inr (.tail _ hp))
  have hnn : ∀ p ∈ pre ++ post, p.1 ≠ tape := fun p hp => (List.mem_append.mp hp).elim (hp1 p) (hp2 p)
  refine draw_fn w tape cells vs ns n₁ n₂ k t t' lim (pre ++ post) hi h0 hl hk hk' hlim hlim' hne hnn mean mg mb dp un gd cn cs a ccd cl outer A₀ base h₀ L m s Q E B F X N' T hcs hd hu ?_
  rintro r news' h' tk' ⟨v, t₁, t₂, rfl, hv0, hv1, rfl⟩ F' N'
  refine hret v t₁ t₂ h' tk' hv0 hv1 F' ?_
  obtain ⟨pre', post', e1, e2, hp1', hp2'⟩ := (U t₂).split
  have huniq := split_uniq pre pre' hp1 hp1' e1
  rw [e2, ← huniq.1, ← huniq.2]
  refine news_sub N' fun p hp => ?_
  rcases List.mem_append.mp hp with hp | hp
  · exact .tail _ (.tail _ (List.mem_append.mpr (.inl hp)))
  rcases List.mem_cons.mp hp with rfl | hp
  · exact .head _
  · exact .tail _ (.tail _ (List.mem_append.mpr (.inr hp)))
end

def lineOpts (m : List UInt8) : List (List UInt8) := [m, m ++ [45,45], m ++ [32,9], m ++ [120], m.drop 1, m.drop 2, [], [121], m ++ [45,45,120], m ++ [45,45,9], [32] ++ m, [45,45], m ++ [45], [45] ++ m]

theorem opts_head (m : List UInt8) : m ∈ lineOpts m := List.Mem.head _

section
local macro_rules | `(tactic| k_all) => `(tactic| with_reducible assumption)
local macro_rules | `(tactic| walk_at "binaryOp Add bytes bytes") => `(tactic| (k_here; (with_reducible show wpAny _ _ (binaryOp Operator.Add (Value.bytes (List.toArray _) _) (Value.bytes (List.toArray _) _)) _ _ _); (refine add_L (by simp only [List.length_append, List.length_cons, List.length_nil]; omega) ?_); intro _ _))
local macro_rules | `(tactic| walk_at "subscriptTail") => `(tactic| (k_here; (with_reducible show wpAny _ _ (subscriptTail _ (Expr.Slice _ _ none _) (Value.bytes (List.toArray _) _) (Value.ref _)) _ _ _); (with_reducible rename Fr _ _ _ _ => F'); (with_reducible rename News _ _ _ _ => N'); (refine slice_L (s := ⟨_, _, _, _, _⟩) F' N' (by constructor) (by constructor) (by omega) (by first | exact cutL_1 | exact cutL_2) ?_); intro _ _ _ _ _))
local macro_rules | `(tactic| walk_at "call ref") => `(tactic| (k_here; (with_reducible show wpAny _ _ (call (Value.ref 44) [Value.ref _, Value.int _ _]) _ _ _); k_dflt (refine' draw_use ?k1 ?k2 ?k3 ?k4 ?k5 ?k6 ?kU ?kc ?k7 ?k8 ?k9 ?ka ?kb ?kd ?ke ?kf ?kg ?kh ?_; (case k1 => k_asm); (case k2 => k_asm); (case k3 => k_asm); (case k4 => k_asm); (case k5 => k_asm); (case k6 => first | exact rfl | assumption); (case kU => intro _; k_upd); (case kc => k_mem); (case k7 => with_reducible assumption); (case k8 => omega); (case k9 => omega); (case ka => omega); (case kb => omega); (case kd => omega); (case ke => omega); (case kf => assumption); (case kg => ktr_room); (case kh => ktr_units)); intro v t₁ t₂ h' tk' hv0 hv1 F' N'))
theorem line_fn (w : World) (tape cells : Addr) (vs : List Value) (ns : List Int) (n₁ n₂ : Nat) (k : Int) (t t' : Tok) (mk : List UInt8) (news : List (Addr × Obj))
    (hi : IntsAre vs ns) (h0 : 0 < ns.length) (hl : ns.length ≤ 63) (hk : 0 ≤ k) (hk' : k < 1000) (hm : mk.length ≤ 16) (hne : @Ne Nat cells tape) (hnn : ∀ p ∈ news, p.1 ≠ tape) :
    Fn w 51 2 [.ref tape, .bytes mk.toArray t'] ((tape, listOf #[.ref cells, .int k t] n₁) :: (cells, listOf vs.toArray n₂) :: news)
      (fun r news' => ∃ ln t₁ t₂, r = .bytes (List.toArray ln) t₁ ∧ ln ∈ lineOpts mk ∧ news' = (tape, listOf #[.ref cells, .int (k + 1) t₂] n₁) :: (cells, listOf vs.toArray n₂) :: news) := by
  unfold Fn
  w_top off
  k_fill
  intro mean mg mb dp un gd cn cs a ccd cl outer A₀ base h₀ L m s Q E B F X N T hcs hd hu hret
  refine wpAny_call ?_
  k_dflt ktr_enter
  k_steps
  k_dflt (refine' menu_L (P := fun ln => ln ∈ lineOpts mk) ?k1 ?k2 ?k3 ?k4 ?k5 ?k6 ?_ ?k7; (case k1 => k_asm); (case k2 => k_mem); (case k3 => assumption); (case k4 => (simp only [List.length_cons, List.length_nil]; omega)); (case k5 => (simp only [List.length_cons, List.length_nil]; omega)); (case k6 => (simp only [List.forall_mem_cons, List.not_mem_nil, false_implies, implies_true, and_true]; (repeat' apply And.intro) <;> exact ⟨_, _, rfl, by simp [lineOpts]⟩)); (case k7 => with_unfolding_all rfl))
  intro ln tl hln
  k_steps
  rename Fr h₀ L _ m => kF
  rename News h₀ L _ _ => kN
  refine hret _ _ _ _ ?_ kF (news_sub kN (fun p hp => List.Mem.tail _ hp))
  exact ⟨_, _, _, rfl, by assumption, rfl⟩
end
end Mine

/- NH -/
namespace Mine
theorem allLt_out {d : Addr} : ∀ {l : List (Addr × Obj)}, AllLt d l → ∀ p ∈ l, @LT.lt Nat _ p.1 d
  | [], _, _, hp => (nomatch hp)
  | q :: r, h, p, hp => by
    rcases List.mem_cons.mp hp with rfl | hp
    · exact h.1
    · exact allLt_out h.2 p hp

/- one more tuple at the end of a list that the def has made -/
theorem grow {h₀ h : Heap} {L fa D : Addr} {tl news : List (Addr × Obj)} {vs items : List Value} {ds its : List Dat} {n k : Nat} (hda : DatAll tl vs ds)
    (N : News h₀ L h ((D, { cls := .type "tuple", data := .seq items.toArray n }) :: (fa, listOf (vs ++ [Value.ref D]).toArray k) :: (tl ++ news))) (hl : fa < D ∧ AllLt D (tl ++ news))
    (ho1 : ∀ p ∈ news, ∀ q ∈ tl, @LT.lt Nat _ p.1 q.1) (ho2 : ∀ p ∈ tl ++ news, p.1 ≠ fa) (hit : DatAll [] items its) :
    ∃ vs' tl', News h₀ L h ((fa, listOf vs'.toArray k) :: (tl' ++ news)) ∧ DatAll tl' vs' (ds ++ [.tuple its]) ∧ (∀ p ∈ news, ∀ q ∈ tl', @LT.lt Nat _ p.1 q.1) ∧ (∀ p ∈ tl' ++ news, p.1 ≠ fa) ∧ vs'.length = vs.length + 1 := by
  refine ⟨vs ++ [.ref D], (D, { cls := .type "tuple", data := .seq items.toArray n }) :: tl, ?_, ?_, ?_, ?_, by simp⟩
  · refine news_sub N fun p hp => ?_
    rcases List.mem_cons.mp hp with rfl | hp
    · exact .tail _ (.head _)
    rcases List.mem_cons.mp hp with rfl | hp
    · exact .head _
    · exact .tail _ (.tail _ hp)
  · exact DatAll.append (DatAll.mono (fun p hp => .tail _ hp) hda) (DatAll.one (.tuple (.head _) (DatAll.mono (fun _ hp => absurd hp List.not_mem_nil) hit)))
  · intro p hp q hq
    rcases List.mem_cons.mp hq with rfl | hq
    · exact allLt_out hl.2 p (List.mem_append.mpr (.inr hp))
    · exact ho1 p hp q hq
  · intro p hp
    rcases List.mem_cons.mp hp with rfl | hp
    · exact Nat.ne_of_gt hl.1
    · exact ho2 p hp
theorem three {x y z : Int} {a b c : Nat} {t u v : Tok} (hx : x = a) (hy : y = b) (hz : z = c) : DatAll [] [Value.int x t, Value.int y u, Value.int z v] [Dat.int a, Dat.int b, Dat.int c] := by
  subst hx hy hz
  exact .cons (.int _ _) (.cons (.int _ _) (.cons (.int _ _) .nil))


theorem grow_dat {D : Addr} {tl : List (Addr × Obj)} {vs items : List Value} {ds its : List Dat} {n : Nat} (hda : DatAll tl vs ds) (hit : DatAll [] items its) :
    DatAll ((D, { cls := .type "tuple", data := .seq items.toArray n }) :: tl) (vs ++ [Value.ref D]) (ds ++ [.tuple its]) :=
  DatAll.append (DatAll.mono (fun p hp => .tail _ hp) hda) (DatAll.one (.tuple (.head _) (DatAll.mono (fun _ hp => absurd hp List.not_mem_nil) hit)))
theorem two {x y : Int} {a b : Nat} {t u : Tok} (hx : x = a) (hy : y = b) : DatAll [] [Value.int x t, Value.int y u] [Dat.int a, Dat.int b] := by
  subst hx hy
  exact .cons (.int _ _) (.cons (.int _ _) .nil)

theorem Fn.use {w : World} {f : Addr} {d : Nat} {vs : List Value} {news : List (Addr × Obj)} {Post : Value → List (Addr × Obj) → Prop} (h : Fn w f d vs news Post)
    {mean : ExcName → Option Value} {mg mb : Str → Option Value} {dp un : Nat} {gd : Option (List Code)} {cn : Str} {cs : Scope} {a : Addr} {ccd : Value} {cl : List (Str × Addr)} {outer : List Env} {A₀ : Around} {base h₀ : Heap} {L : Addr} {m : Str → Option Value} {s : Shared} {Q E : Value → Shared → Prop}
    (B : Below A₀ base outer h₀) (F : Fr h₀ L s.heap m) (X : (hd.heap_39 w.params).In h₀) (N : News h₀ L s.heap news) (T : Top hd.view_39 (looseW hd.view_39 [Str.ofString "line_spans"]) mean mg mb h₀) (hcs : cs.kind = .function) (hd : dp + d < recursionLimit) (hu : un + 8 * d < cLine)
    (ret : ∀ r news' h' tk', Post r news' → Fr h₀ L h' m → News h₀ L h' news' → Q r { s with heap := h', toks := tk' }) :
    wpAny (model Challenge.rw_nz0265_01.row.prog w) (ktrTop dp un gd cn cs L a ccd cl outer) (call (.ref f) vs) Q E s :=
  h mean mg mb dp un gd cn cs a ccd cl outer A₀ base h₀ L m s Q E B F X N T hcs hd hu ret
end Mine

/- NE -/
namespace Mine

def bWay (line bnd : List UInt8) : String :=
  if (line.take ([45, 45] ++ bnd).length != [45, 45] ++ bnd) = true then "" else
    if (rstrip [32, 9] (line.drop ([45, 45] ++ bnd).length) == []) = true then "next" else
      if (rstrip [32, 9] (line.drop ([45, 45] ++ bnd).length) == [45, 45]) = true then "last" else ""

theorem bWay_cases (line bnd : List UInt8) : bWay line bnd = "" ∨ bWay line bnd = "next" ∨ bWay line bnd = "last" := by
  unfold bWay
  split
  · exact .inl rfl
  · split
    · exact .inr (.inl rfl)
    · split
      · exact .inr (.inr rfl)
      · exact .inl rfl

section
local macro_rules | `(tactic| walk_at "binaryOp Add bytes bytes") => `(tactic| (k_here; (with_reducible show wpAny _ _ (binaryOp Operator.Add (Value.bytes (List.toArray _) _) (Value.bytes (List.toArray _) _)) _ _ _); (refine add_L (by simp only [List.length_append, List.length_cons, List.length_nil]; omega) ?_); intro _ _))
local macro_rules | `(tactic| walk_at "call builtin:len") => `(tactic| (k_here; (with_reducible show wpAny _ _ (call (Value.builtin "len") [Value.bytes (List.toArray _) _]) _ _ _); (refine len_L (by simp only [List.length_append, List.length_cons, List.length_nil]; omega) ?_); intro _ _))
local macro_rules | `(tactic| walk_at "subscriptTail") => `(tactic| (k_here; (with_reducible show wpAny _ _ (subscriptTail _ (Expr.Slice _ _ none _) (Value.bytes (List.toArray _) _) (Value.ref _)) _ _ _); (with_reducible rename Fr _ _ _ _ => F'); (with_reducible rename News _ _ _ _ => N'); (refine slice_L (s := ⟨_, _, _, _, _⟩) F' N' (by constructor) (by constructor) (by omega) (by first | exact cutL_from | exact cutL_to) ?_); intro _ _ _ _ _))
local macro_rules | `(tactic| walk_at "compareOp Eq bytes bytes") => `(tactic| (k_here; (with_reducible show wpAny _ _ (compareOp _ (Value.bytes (List.toArray _) _) (Value.bytes (List.toArray _) _)) _ _ _); refine eq_L ?_))
local macro_rules | `(tactic| walk_at "compareOp NotEq bytes bytes") => `(tactic| (k_here; (with_reducible show wpAny _ _ (compareOp _ (Value.bytes (List.toArray _) _) (Value.bytes (List.toArray _) _)) _ _ _); refine ne_L ?_))
local macro_rules | `(tactic| walk_at "getMethod bytes") => `(tactic| (k_here; (with_reducible refine method_rstrip ?_)))
local macro_rules | `(tactic| walk_at "call builtin:bytes.rstrip") => `(tactic| (k_here; (refine rstrip_K (by simp only [List.length_drop]; omega) ?_); intro _ _))
theorem way_fn (w : World) (line bnd : List UInt8) (t t' : Tok) (news : List (Addr × Obj)) (hl : line.length ≤ 100000) (hb : bnd.length ≤ 16) :
    Fn w 29 1 [.bytes line.toArray t, .bytes bnd.toArray t'] news (fun r news' => ∃ t₁, r = .str (Str.ofString (bWay line bnd)) t₁ ∧ news' = news) := by
  unfold Fn
  w_top off
  k_fill
  intro mean mg mb dp un gd cn cs a ccd cl outer A₀ base h₀ L m s Q E B F X N T hcs hd hu hret
  refine wpAny_call ?_
  k_dflt ktr_enter
  k_steps
  all_goals (
    rename Fr h₀ L _ m => kF
    rename News h₀ L _ _ => kN
    refine hret _ _ _ _ ?_ kF kN
    clear kF kN hret
    refine ⟨_, congrArg (fun x => Value.str (Str.ofString x) _) (?_ : _ = bWay line bnd), rfl⟩)
  · simp_all [bWay]
  · simp_all [bWay]
  · simp_all [bWay]
  · simp_all [bWay]
end
end Mine

/- NF -/
namespace Mine

def lastOf (d : List UInt8) (b i : Nat) : Nat := if b < i ∧ ((d.getD (i - 1) 0).toNat : Int) = 13 then i - 1 else i
def lsGo (d : List UInt8) (hi : Nat) : Nat → Nat → List (Nat × Nat × Nat)
  | 0, _ => []
  | n + 1, b => if b < hi then match findIn d 10 b hi with
      | none => [(b, hi, hi)]
      | some i => (b, lastOf d b i, i + 1) :: lsGo d hi n (i + 1)
    else []
def tri (x : Nat × Nat × Nat) : Dat := .tuple [.int x.1, .int x.2.1, .int x.2.2]

theorem ls_step {d : List UInt8} {hi lo b q i lst : Nat} {Fd : List (Nat × Nat × Nat)} (hls : lsGo d hi hi lo = Fd ++ lsGo d hi q b) (hb : b < hi) (hq : hi - b ≤ q) (hf : findIn d 10 b hi = some i) (hlst : lastOf d b i = lst) :
    ∃ q', lsGo d hi hi lo = (Fd ++ [(b, lst, i + 1)]) ++ lsGo d hi q' (i + 1) ∧ hi - (i + 1) ≤ q' := by
  obtain ⟨q', rfl⟩ : ∃ q', q = q' + 1 := ⟨q - 1, by omega⟩
  refine ⟨q', ?_, by have := (findIn_some hf).1; omega⟩
  rw [hls]
  simp only [lsGo]
  rw [if_pos hb, hf, ← hlst]
  simp
theorem ls_last {d : List UInt8} {hi lo b q : Nat} {Fd : List (Nat × Nat × Nat)} (hls : lsGo d hi hi lo = Fd ++ lsGo d hi q b) (hb : b < hi) (hq : hi - b ≤ q) (hf : findIn d 10 b hi = none) :
    lsGo d hi hi lo = Fd ++ [(b, hi, hi)] := by
  obtain ⟨q', rfl⟩ : ∃ q', q = q' + 1 := ⟨q - 1, by omega⟩
  rw [hls]
  simp only [lsGo]
  rw [if_pos hb, hf]
theorem ls_done {d : List UInt8} {hi lo b q : Nat} {Fd : List (Nat × Nat × Nat)} (hls : lsGo d hi hi lo = Fd ++ lsGo d hi q b) (hb : ¬ b < hi) : lsGo d hi hi lo = Fd := by
  rw [hls]
  cases q with
  | zero => simp [lsGo]
  | succ q => simp [lsGo, hb]

section
local macro_rules | `(tactic| walk_at "call builtin:len") => `(tactic| (k_here; (with_reducible show wpAny _ _ (call (Value.builtin "len") [Value.bytes (List.toArray _) _]) _ _ _); (refine len_L (by omega) ?_); intro _ _))
local macro_rules | `(tactic| k_all) => `(tactic| with_reducible assumption)
local macro_rules | `(tactic| walk_at "getMethod bytes") => `(tactic| (k_here; (with_reducible refine method_find ?_)))
local macro_rules | `(tactic| walk_at "call builtin:bytes.find") => `(tactic| (k_here; (refine find_K2 (by omega) (fun hfN _ _ => ?_) (fun iF hfS hfLo hfHi _ _ => ?_))))
local macro_rules | `(tactic| walk_at "call builtin:list.append") => `(tactic| (k_here; (with_reducible show wpAny _ _ (call (Value.builtin _) [Value.ref _, _]) _ _ _); k_dflt (refine' append_K ?k1 ?k2 ?k3 ?_ ?z; (case k1 => k_asm); (case k2 => k_asm); (case k3 => k_upd); (case z => (rw [List.size_toArray, sizeLine_eq]; omega)); k_whole); intro h' F' N'; (try simp only [List.push_toArray] at N')))
local macro_rules | `(tactic| walk_at "subscriptTail") => `(tactic| (k_here; (with_reducible show wpAny _ _ (subscriptTail _ _ (Value.bytes (List.toArray _) _) (Value.int _ _)) _ _ _); (refine item_L (by omega) (by omega) (by omega) ?_); intro _ _))
local macro_rules | `(tactic| walk_at "exec While Compare cons nil") => `(tactic| (refine Hold.of ?_))
theorem spans_fn (w : World) (d : List UInt8) (lo hi : Nat) (t t' t'' : Tok) (news : List (Addr × Obj)) (hd : d.length ≤ 100000) (hh : hi ≤ d.length) (hl : lo ≤ hi) :
    Fn w 22 1 [.bytes d.toArray t, .int lo t', .int hi t''] news (fun r news' => ∃ f vs k tl, r = .ref f ∧ news' = (f, listOf vs.toArray k) :: (tl ++ news) ∧ DatAll tl vs ((lsGo d hi hi lo).map tri) ∧ (∀ p ∈ news, ∀ q ∈ tl, @LT.lt Nat _ p.1 q.1) ∧ (∀ p ∈ tl ++ news, p.1 ≠ f) ∧ (∀ p ∈ news, @LT.lt Nat _ p.1 f)) := by
  unfold Fn
  w_top off
  k_fill
  intro mean mg mb dp un gd cn cs a ccd cl outer A₀ base h₀ L m s Q E B F X N T hcs hd' hu hret
  refine wpAny_call ?_
  k_dflt (refine' code_def ?k1 ?k2 ?k3 ?k4 ?k5 ?kA ?kF ?kK ?k6 ?k7 ?k8 ?k9 ?kB ?_ ?c2 ?c3 ?c4 ?c5; (case kA => exact rfl); (case kF => exact rfl); (case kK => assumption); (case k1 => k_asm); (case k2 => k_asm); (case k3 => k_asm); (case k4 => k_asm); (case k5 => k_asm); (case k6 => k_is); (case k7 => k_is); (case k8 => ktr_room); (case k9 => exact binds_K (by k_in) rfl (by k_is) rfl rfl rfl); (case c5 => decide); (case kB => exact locs rfl); (case c2 => exact rfl); (case c3 => exact rfl); (case c4 => exact rfl); k_whole; intro g' L' h' FG' F' N' B' X' T'; (try dsimp only); (try k_fold))
  k_steps
  refine Hold.out ?_
  rename Fr g' L' _ _ => F₀
  rename News g' L' _ _ => N₀
  refine While_inv2 (n₀ := hi - lo) (fun n m nx => ∃ (fa : Addr) (b : Nat) (vs : List Value) (k : Nat) (tl : List (Addr × Obj)) (Fd : List (Nat × Nat × Nat)) (q : Nat) (t1 : Tok),
    nx = (fa, listOf vs.toArray k) :: (tl ++ news) ∧ DatAll tl vs (Fd.map tri) ∧ lsGo d hi hi lo = Fd ++ lsGo d hi q b ∧ hi - b ≤ q ∧ b ≤ hi ∧ n = hi - b ∧
    m (Str.ofString "begin") = some (.int b t1) ∧ (∃ t2, m (Str.ofString "behind") = some (.int hi t2)) ∧ m (Str.ofString "found") = some (.ref fa) ∧ m (Str.ofString "data") = some (.bytes d.toArray t) ∧
    (∀ p ∈ news, ∀ q ∈ tl, @LT.lt Nat _ p.1 q.1) ∧ (∀ p ∈ tl ++ news, p.1 ≠ fa) ∧ (∀ p ∈ news, @LT.lt Nat _ p.1 fa) ∧ vs.length ≤ b) F₀ N₀ ?_ ?_
  · have e1 : (if (d.length : Int) < (hi : Int) then (d.length : Int) else (hi : Int)) = hi := if_neg (by omega)
    rename ∀ p ∈ news, p.1 < _ => hlt
    refine ⟨_, lo, [], 0, [], [], hi, t', rfl, .nil, rfl, by omega, hl, rfl, rfl, ⟨_, congrArg (fun x => some (Value.int x _)) e1⟩, rfl, rfl, (fun _ _ _ h => nomatch h), (fun p hp => Nat.ne_of_lt (hlt p hp)), hlt, Nat.zero_le _⟩
  · clear F₀ N₀
    rintro n m₁ news₁ h₁ tk₁ F₁ N₁ ⟨fa, b, vs, k, tl, Fd, q, t1, rfl, hda, hls, hq, hb, rfl, hm1, ⟨t2, hm2⟩, hm3, hm4, ho1, ho2, ho3, hvl⟩
    replace F₁ := fr_ps (ps := [(Str.ofString "begin", .int b t1), (Str.ofString "behind", .int hi t2), (Str.ofString "found", .ref fa), (Str.ofString "data", .bytes d.toArray t)]) F₁ (by simp only [List.forall_mem_cons, List.not_mem_nil, false_implies, implies_true, and_true]; exact ⟨hm1, hm2, hm3, hm4⟩)
    dsimp only [kstB] at F₁
    clear hm1 hm2 hm3 hm4
    try k_fold
    k_steps
    · dsimp only [WhileStep2]
      k_steps
      rename Fr h₀ L _ m => kF
      rename News h₀ L _ _ => kN
      rename findIn d 10 b hi = none => hf
      obtain ⟨vs', tl', N9, hd9, ho1', ho2', _⟩ := grow hda kN (by assumption) ho1 ho2 (three (a := b) (b := hi) (c := hi) rfl rfl rfl)
      refine hret _ _ _ _ ⟨fa, vs', _, tl', rfl, rfl, ?_, ho1', ho2', ho3⟩ kF N9
      rw [ls_last hls (by omega) hq hf, List.map_append]
      exact hd9
    · rename findIn d 10 b hi = some _ => hf
      obtain ⟨i, hf'⟩ : ∃ i, findIn d 10 b hi = some i := ⟨_, hf⟩
      obtain rfl := Option.some.inj (hf'.symm.trans hf)
      rename Fr g' L' _ _ => kF
      rename News g' L' _ _ => kN
      obtain ⟨vs', tl', N9, hd9, ho1', ho2', hlen⟩ := grow hda kN (by assumption) ho1 ho2 (three (a := b) (b := i - 1) (c := i + 1) rfl (by omega) rfl)
      obtain ⟨q', hls', hq'⟩ := ls_step (lst := i - 1) hls (by omega) hq hf (by
        unfold lastOf
        rename ((List.getD d _ 0).toNat : Int) = 13 => h13
        have e : ((i : Int) - 1).toNat = i - 1 := by omega
        rw [e] at h13
        rw [if_pos ⟨by omega, h13⟩])
      have hii := (findIn_some hf).2.1
      have hil := (findIn_some hf).1
      exact ⟨_, _, _, _, hi - (i + 1), rfl, kF, N9, by omega, fa, i + 1, vs', _, tl', Fd ++ [(b, i - 1, i + 1)], q', _, rfl, by rw [List.map_append]; exact hd9, hls', hq', by omega, rfl, rfl, ⟨_, rfl⟩, rfl, rfl, ho1', ho2', ho3, by omega⟩
    · rename findIn d 10 b hi = some _ => hf
      obtain ⟨i, hf'⟩ : ∃ i, findIn d 10 b hi = some i := ⟨_, hf⟩
      obtain rfl := Option.some.inj (hf'.symm.trans hf)
      rename Fr g' L' _ _ => kF
      rename News g' L' _ _ => kN
      obtain ⟨vs', tl', N9, hd9, ho1', ho2', hlen⟩ := grow hda kN (by assumption) ho1 ho2 (three (a := b) (b := i) (c := i + 1) rfl rfl rfl)
      obtain ⟨q', hls', hq'⟩ := ls_step (lst := i) hls (by omega) hq hf (by
        unfold lastOf
        rename ¬ ((List.getD d _ 0).toNat : Int) = 13 => h13
        have e : ((i : Int) - 1).toNat = i - 1 := by omega
        rw [e] at h13
        rw [if_neg (fun h => h13 h.2)])
      have hii := (findIn_some hf).2.1
      have hil := (findIn_some hf).1
      exact ⟨_, _, _, _, hi - (i + 1), rfl, kF, N9, by omega, fa, i + 1, vs', _, tl', Fd ++ [(b, i, i + 1)], q', _, rfl, by rw [List.map_append]; exact hd9, hls', hq', by omega, rfl, rfl, ⟨_, rfl⟩, rfl, rfl, ho1', ho2', ho3, by omega⟩
    · rename findIn d 10 b hi = some _ => hf
      obtain ⟨i, hf'⟩ : ∃ i, findIn d 10 b hi = some i := ⟨_, hf⟩
      obtain rfl := Option.some.inj (hf'.symm.trans hf)
      rename Fr g' L' _ _ => kF
      rename News g' L' _ _ => kN
      obtain ⟨vs', tl', N9, hd9, ho1', ho2', hlen⟩ := grow hda kN (by assumption) ho1 ho2 (three (a := b) (b := i) (c := i + 1) rfl rfl rfl)
      obtain ⟨q', hls', hq'⟩ := ls_step (lst := i) hls (by omega) hq hf (by
        unfold lastOf
        rw [if_neg (fun h => by omega)])
      have hii := (findIn_some hf).2.1
      have hil := (findIn_some hf).1
      exact ⟨_, _, _, _, hi - (i + 1), rfl, kF, N9, by omega, fa, i + 1, vs', _, tl', Fd ++ [(b, i, i + 1)], q', _, rfl, by rw [List.map_append]; exact hd9, hls', hq', by omega, rfl, rfl, ⟨_, rfl⟩, rfl, rfl, ho1', ho2', ho3, by omega⟩
    · rename Fr h₀ L _ m => kF
      rename News h₀ L _ _ => kN
      refine hret _ _ _ _ ⟨fa, vs, _, tl, rfl, rfl, ?_, ho1, ho2, ho3⟩ kF kN
      rw [ls_done hls (by omega)]
      exact hda
end
end Mine

/- NI -/
namespace Mine

/- the end of a loop's turn: the iterator as it stood, the rest by J -/
def TurnP (h₀ : Heap) (L I : Addr) (oI : Obj) (Jn : (Str → Option Value) → List (Addr × Obj) → Prop) (s₁ : Shared) (Q : Flow → Shared → Prop) (f : Flow) (s₂ : Shared) : Prop :=
  match f with
  | .ret v => Q (.ret v) s₂
  | .brk => Q .next s₂
  | _ => ∃ h' tk m' nx, s₂ = { s₁ with heap := h', toks := tk } ∧ Fr h₀ L h' m' ∧ News h₀ L h' ((I, oI) :: nx) ∧ (∀ p ∈ nx, p.1 ≠ I) ∧ Jn m' nx

section
variable {prog : Program} {w : World} {A : Around} {E : Value → Shared → Prop} {s : Shared} {env : Env} {h₀ : Heap} {target : Expr} {body : List Stmt} {Q : Flow → Shared → Prop}
theorem iter_J {l : Addr} {vs : List Value} {nn : Nat} {m₀ : Str → Option Value} {news : List (Addr × Obj)} (J : Nat → (Str → Option Value) → List (Addr × Obj) → Prop)
    (hh : A.handled = none) (hl : (l, listOf vs.toArray nn) ∈ news) (F : Fr h₀ env.locals s.heap m₀) (N : News h₀ env.locals s.heap news) (hj : J 0 m₀ news)
    (hJl : ∀ i m nx, J i m nx → (l, listOf vs.toArray nn) ∈ nx)
    (turn : ∀ I oI i v m₁ news₁ h tk, vs[i]? = some v → J i m₁ news₁ → (∀ p ∈ news₁, p.1 ≠ I) → Fr h₀ env.locals h m₁ → News h₀ env.locals h ((I, oI) :: news₁) →
      wpAny (model prog w) A (assign target env v) (fun _ s₃ => wpAny (model prog w) A (execs body env) (TurnP h₀ env.locals I oI (J (i + 1)) { s with heap := h, toks := tk } Q) E s₃) E { s with heap := h, toks := tk })
    (done : ∀ m₁ news₁ h tk, J vs.length m₁ news₁ → Fr h₀ env.locals h m₁ → News h₀ env.locals h news₁ → Q .next { s with heap := h, toks := tk }) :
    wpAny (model prog w) A (pyIter (.ref l)) (fun it s₂ => TurnsAt prog w A h₀ env target body Q E it s₂) E s := by
  have hol : s.heap.get? l = some (listOf vs.toArray nn) := (N _ hl).1
  have hls : s.heap.IsList l vs.toArray := ⟨_, hol, rfl, nn, rfl⟩
  have hne : l ≠ s.heap.objs.size := Nat.ne_of_lt (Heap.lt_size hol)
  refine wpAny_pyIter_list hls ?_
  have W := KTurns.ofWalks (target := target) (Walks.list (prog := prog) (w := w) hh s.heap.objs.size l hne vs.toArray) fun i v s Q E st q => letGo_listiter st.1 q
  have hlen : vs.toArray.size = vs.length := by simp
  rw [hlen] at W
  refine ⟨_, _, _, vs.length, _, _, _, m₀, news, J, rfl, W, ?_, ?_, ?_, ⟨⟨_, Heap.get?_push_size _ rfl, rfl, rfl⟩, hls.at fun o e => Heap.get?_push_of_some _ e⟩, F.push _, (fun p hp => ⟨Heap.get?_push_of_some _ (N p hp).1, (N p hp).2⟩), hj, ?_, ?_⟩
  · intro hm
    rcases List.mem_cons.mp hm with e | hm
    · exact absurd F.ns.lt (e ▸ Nat.lt_irrefl _)
    · exact (N _ hl).2.1 ((List.mem_singleton.mp hm).symm)
  · intro b hb
    rw [List.mem_singleton.mp hb]
    exact next_is_new F
  · intro p hp hI
    exact absurd (Heap.lt_size (N p hp).1) ((List.mem_singleton.mp hI) ▸ Nat.lt_irrefl _)
  · intro i v m₁ news₁ h₁ tk₁ own hin hP hJ hoff hown hget hall hst F₁ N₁
    have hP' : vs[i]? = some v := by
      have hP'' : vs.toArray[i]? = some v := hP
      simpa using hP''
    have hI0 : h₀.get? s.heap.objs.size = none := next_is_new F
    obtain ⟨oI, hoI, _⟩ := hst.1
    have hIown : (s.heap.objs.size, oI) ∈ own := hall _ (List.mem_cons.mpr (.inl rfl)) hI0 _ hoI
    have hl₁ := hJl _ _ _ hJ
    have hlo : h₁.get? l = some (listOf vs.toArray nn) := (N₁ _ (List.mem_append.mpr (.inr hl₁))).1
    have hoff' : ∀ p ∈ news₁, p.1 ≠ s.heap.objs.size := fun p hp e => hoff p hp (by rw [e]; exact List.mem_singleton.mpr rfl)
    have N₂ : News h₀ env.locals h₁ ((s.heap.objs.size, oI) :: news₁) := fun p hp => by
      rcases List.mem_cons.mp hp with rfl | hp
      · exact N₁ _ (List.mem_append_left _ hIown)
      · exact N₁ _ (List.mem_append_right _ hp)
    have fin : ∀ s₃, (∃ h' tk m' nx, s₃ = { ({ s with heap := h₁, toks := tk₁ } : Shared) with heap := h', toks := tk } ∧ Fr h₀ env.locals h' m' ∧ News h₀ env.locals h' ((s.heap.objs.size, oI) :: nx) ∧ (∀ p ∈ nx, p.1 ≠ s.heap.objs.size) ∧ J (i + 1) m' nx) →
        LoopStepU h₀ env.locals [s.heap.objs.size] own (J (i + 1)) { s with heap := h₁, toks := tk₁ } .next s₃ := by
      rintro s₃ ⟨h', tk, m', nx, e, F', N', ho, hj'⟩
      refine ⟨rfl, h', tk, m', nx, e, F', ?_, ?_, hj'⟩
      · rintro ⟨pa, po⟩ hp
        rcases List.mem_append.mp hp with hp | hp
        · have h2 : h₁.get? pa = some po := hget _ hp
          rcases List.mem_cons.mp (hown _ hp) with h3 | h3
          · have h3' : pa = s.heap.objs.size := h3
            subst h3'
            have h6 : oI = po := Option.some.inj (hoI.symm.trans h2)
            subst h6
            exact N' _ (.head _)
          · have h3' : pa = l := List.mem_singleton.mp h3
            subst h3'
            have h6 : listOf vs.toArray nn = po := Option.some.inj (hlo.symm.trans h2)
            subst h6
            exact N' _ (.tail _ (hJl _ _ _ hj'))
        · exact N' _ (.tail _ hp)
      · intro p hp hI
        exact ho p hp (List.mem_singleton.mp hI)
    refine wpAny_mono (turn _ oI i v m₁ news₁ h₁ tk₁ hP' hJ hoff' F₁ N₂) (fun _ s₂ h₂ => wpAny_mono h₂ (fun f s₃ p => ?_) fun _ _ e => e) fun _ _ e => e
    cases f with
    | ret v => exact .ret p
    | brk => exact .brk p
    | next => exact .next (fin _ p)
    | cont => exact .cont (fin _ p)
  · intro h' tk m' news' F' N' _ hJ
    exact done m' news' h' tk hJ F' N'
end
end Mine

/- NG -/
namespace Mine

def shut (P : List (Nat × Nat)) (g : Option Nat) (x : Nat → Nat) : List (Nat × Nat) := match g with
  | some b => P ++ [(b, x b)]
  | none => P
def psGo (d bnd : List UInt8) (hi : Nat) : List (Nat × Nat × Nat) → List (Nat × Nat) → Option Nat → Nat → List (Nat × Nat)
  | [], P, g, _ => shut P g fun _ => hi
  | (a, b, c) :: r, P, g, bf =>
    if bWay ((d.drop a).take (b - a)) bnd = "" then psGo d bnd hi r P g b
    else if bWay ((d.drop a).take (b - a)) bnd = "last" then shut P g fun x => max x bf
    else psGo d bnd hi r (shut P g fun x => max x bf) (some c) b
def duo (x : Nat × Nat) : Dat := .tuple [.int x.1, .int x.2]
def gv : Option Nat → Int
  | some b => b
  | none => -1

theorem tri_cases {tl : List (Addr × Obj)} {v : Value} {x : Nat × Nat × Nat} (h : DatIn tl v (tri x)) :
    ∃ T n t1 t2 t3, v = .ref T ∧ (T, ({ cls := .type "tuple", data := .seq #[Value.int x.1 t1, Value.int x.2.1 t2, Value.int x.2.2 t3] n } : Obj)) ∈ tl := by
  unfold tri at h
  cases h with
  | tuple hm hd =>
    cases hd with
    | cons h1 hd => cases hd with
      | cons h2 hd => cases hd with
        | cons h3 hd =>
          cases hd; cases h1; cases h2; cases h3
          exact ⟨_, _, _, _, _, rfl, hm⟩
theorem lsGo_bounds {d : List UInt8} {hi : Nat} : ∀ {n b : Nat} {x : Nat × Nat × Nat}, x ∈ lsGo d hi n b → x.1 ≤ hi ∧ x.2.1 ≤ hi ∧ x.2.2 ≤ hi
  | 0, _, _, h => by simp [lsGo] at h
  | n + 1, b, x, h => by
    unfold lsGo at h
    split at h
    · rename_i hb
      split at h
      · simp only [List.mem_singleton] at h; subst h; exact ⟨by dsimp only; omega, Nat.le_refl _, Nat.le_refl _⟩
      · rename_i i hf
        have := (findIn_some hf).2.1
        rcases List.mem_cons.mp h with rfl | h
        · refine ⟨by dsimp only; omega, ?_, by dsimp only; omega⟩
          dsimp only; unfold lastOf; split <;> omega
        · exact lsGo_bounds h
    · simp at h

theorem sub1 {a b c : Addr × Obj} {rest : List (Addr × Obj)} : ∀ p ∈ c :: a :: rest, p ∈ a :: b :: c :: rest := by
  intro p hp
  rcases List.mem_cons.mp hp with rfl | hp
  · exact .tail _ (.tail _ (.head _))
  rcases List.mem_cons.mp hp with rfl | hp
  · exact .head _
  · exact .tail _ (.tail _ (.tail _ hp))
theorem sub2 {a b c x : Addr × Obj} {rest tl tl2 news : List (Addr × Obj)} (hb1 : ∀ p ∈ x :: (tl ++ news), p ∈ rest) (hb2 : ∀ p ∈ tl2, p ∈ rest) : ∀ p ∈ a :: (tl2 ++ news), p ∈ a :: b :: c :: rest := by
  intro p hp
  rcases List.mem_cons.mp hp with rfl | hp
  · exact .head _
  rcases List.mem_append.mp hp with hp | hp
  · exact .tail _ (.tail _ (.tail _ (hb2 p hp)))
  · exact .tail _ (.tail _ (.tail _ (hb1 p (.tail _ (List.mem_append.mpr (.inr hp))))))
theorem more {h₀ h : Heap} {L fa D I T : Addr} {oI oT o : Obj} {base rest tl2 : List (Addr × Obj)} {us : List Value} {P : List (Nat × Nat)} {b M k n : Nat} {x y : Int} {t u : Tok}
    (kN : News h₀ L h ((D, { cls := .type "tuple", data := .seq #[Value.int x t, Value.int y u] n }) :: (fa, listOf (us ++ [Value.ref D]).toArray k) :: (T, oT) :: (I, oI) :: rest))
    (l1 : fa < D ∧ T < D ∧ I < D ∧ AllLt D rest) (hb1 : ∀ p ∈ base, p ∈ rest) (hb2 : ∀ p ∈ tl2, p ∈ rest) (hb3 : ∀ p ∈ rest, @Ne Nat p.1 fa) (hI : ∀ p ∈ (fa, o) :: rest, p.1 ≠ I) (hd2 : DatAll tl2 us (P.map duo)) (hx : x = b) (hy : y = M) :
    ∃ us' rest' tl2', News h₀ L h ((I, oI) :: (fa, listOf us'.toArray k) :: rest') ∧ (∀ p ∈ base, p ∈ rest') ∧ (∀ p ∈ tl2', p ∈ rest') ∧ (∀ p ∈ rest', @Ne Nat p.1 fa) ∧ DatAll tl2' us' ((P ++ [(b, M)]).map duo) ∧ us'.length = us.length + 1 ∧ ∀ p ∈ (fa, listOf us'.toArray k) :: rest', p.1 ≠ I := by
  refine ⟨us ++ [Value.ref D], (D, { cls := .type "tuple", data := .seq #[Value.int x t, Value.int y u] n }) :: rest, (D, { cls := .type "tuple", data := .seq #[Value.int x t, Value.int y u] n }) :: tl2, ?_, fun p hp => .tail _ (hb1 p hp), ?_, ?_, ?_, by simp, ?_⟩
  · refine news_sub kN fun p hp => ?_
    rcases List.mem_cons.mp hp with rfl | hp
    · exact .tail _ (.tail _ (.tail _ (.head _)))
    rcases List.mem_cons.mp hp with rfl | hp
    · exact .tail _ (.head _)
    rcases List.mem_cons.mp hp with rfl | hp
    · exact .head _
    · exact .tail _ (.tail _ (.tail _ (.tail _ hp)))
  · intro p hp
    rcases List.mem_cons.mp hp with rfl | hp
    · exact .head _
    · exact .tail _ (hb2 p hp)
  · intro p hp
    rcases List.mem_cons.mp hp with rfl | hp
    · exact Nat.ne_of_gt l1.1
    · exact hb3 p hp
  · rw [List.map_append]
    exact grow_dat (items := [Value.int x t, Value.int y u]) hd2 (two hx hy)
  · intro p hp
    rcases List.mem_cons.mp hp with rfl | hp
    · exact hI (fa, o) (.head _)
    rcases List.mem_cons.mp hp with rfl | hp
    · exact Nat.ne_of_gt l1.2.2.1
    · exact hI p (.tail _ hp)
theorem sub3 {a c x : Addr × Obj} {rest tl tl2 news : List (Addr × Obj)} (hb1 : ∀ p ∈ x :: (tl ++ news), p ∈ rest) (hb2 : ∀ p ∈ tl2, p ∈ rest) : ∀ p ∈ a :: (tl2 ++ news), p ∈ c :: a :: rest := by
  intro p hp
  rcases List.mem_cons.mp hp with rfl | hp
  · exact .tail _ (.head _)
  rcases List.mem_append.mp hp with hp | hp
  · exact .tail _ (.tail _ (hb2 p hp))
  · exact .tail _ (.tail _ (hb1 p (.tail _ (List.mem_append.mpr (.inr hp)))))
theorem sub4 {a x : Addr × Obj} {rest tl tl2 news : List (Addr × Obj)} (hb1 : ∀ p ∈ x :: (tl ++ news), p ∈ rest) (hb2 : ∀ p ∈ tl2, p ∈ rest) : ∀ p ∈ a :: (tl2 ++ news), p ∈ a :: rest := by
  intro p hp
  rcases List.mem_cons.mp hp with rfl | hp
  · exact .head _
  rcases List.mem_append.mp hp with hp | hp
  · exact .tail _ (hb2 p hp)
  · exact .tail _ (hb1 p (.tail _ (List.mem_append.mpr (.inr hp))))
theorem last1 {h₀ h : Heap} {L fa D : Addr} {x9 : Addr × Obj} {rest tl2 tl news : List (Addr × Obj)} {us : List Value} {P : List (Nat × Nat)} {b M k n : Nat} {x y : Int} {t u : Tok}
    (kN : News h₀ L h ((D, { cls := .type "tuple", data := .seq #[Value.int x t, Value.int y u] n }) :: (fa, listOf (us ++ [Value.ref D]).toArray k) :: rest))
    (hb1 : ∀ p ∈ x9 :: (tl ++ news), p ∈ rest) (hb2 : ∀ p ∈ tl2, p ∈ rest) (hd2 : DatAll tl2 us (P.map duo)) (hx : x = b) (hy : y = M) :
    ∃ us' tl2', News h₀ L h ((fa, listOf us'.toArray k) :: (tl2' ++ news)) ∧ DatAll tl2' us' ((P ++ [(b, M)]).map duo) := by
  refine ⟨us ++ [Value.ref D], (D, { cls := .type "tuple", data := .seq #[Value.int x t, Value.int y u] n }) :: tl2, ?_, ?_⟩
  · refine news_sub kN fun p hp => ?_
    rcases List.mem_cons.mp hp with rfl | hp
    · exact .tail _ (.head _)
    rcases List.mem_append.mp hp with hp | hp
    · rcases List.mem_cons.mp hp with rfl | hp
      · exact .head _
      · exact .tail _ (.tail _ (hb2 p hp))
    · exact .tail _ (.tail _ (hb1 p (.tail _ (List.mem_append.mpr (.inr hp)))))
  · rw [List.map_append]
    exact grow_dat (items := [Value.int x t, Value.int y u]) hd2 (two hx hy)
theorem lsGo_length {d : List UInt8} {hi : Nat} : ∀ {n b : Nat}, (lsGo d hi n b).length ≤ hi - b
  | 0, _ => Nat.zero_le _
  | n + 1, b => by
    unfold lsGo
    split
    · split
      · simp only [List.length_singleton]; omega
      · rename_i i hf
        have h1 := findIn_some hf
        have := lsGo_length (d := d) (hi := hi) (n := n) (b := i + 1)
        simp only [List.length_cons]; omega
    · exact Nat.zero_le _
theorem ps_no {d bnd : List UInt8} {hi a b c bf : Nat} {r : List (Nat × Nat × Nat)} {P : List (Nat × Nat)} {g : Option Nat} (h : bWay ((d.drop a).take (b - a)) bnd = "") : psGo d bnd hi ((a, b, c) :: r) P g bf = psGo d bnd hi r P g b := by
  rw [psGo, if_pos h]
theorem ps_next {d bnd : List UInt8} {hi a b c bf : Nat} {r : List (Nat × Nat × Nat)} {P : List (Nat × Nat)} {g : Option Nat} (h : bWay ((d.drop a).take (b - a)) bnd = "next") : psGo d bnd hi ((a, b, c) :: r) P g bf = psGo d bnd hi r (shut P g fun x => max x bf) (some c) b := by
  rw [psGo, if_neg (by rw [h]; decide), if_neg (by rw [h]; decide)]
theorem ps_last {d bnd : List UInt8} {hi a b c bf : Nat} {r : List (Nat × Nat × Nat)} {P : List (Nat × Nat)} {g : Option Nat} (h : bWay ((d.drop a).take (b - a)) bnd = "last") : psGo d bnd hi ((a, b, c) :: r) P g bf = shut P g fun x => max x bf := by
  rw [psGo, if_neg (by rw [h]; decide), if_pos h]

section
local macro_rules | `(tactic| walk_at "mine pad") => `(tactic| fail)
local macro_rules | `(tactic| walk_at "exec For Tuple Call cons nil") => `(tactic| (k_here; (rename Fr _ _ _ _ => lF'); (with_unfolding_all refine' For_turns lF' ?_)))
local macro_rules | `(tactic| walk_at "call ref") => `(tactic| (refine Hold.of ?_))
local macro_rules | `(tactic| k_all) => `(tactic| with_reducible assumption)
local macro_rules | `(tactic| walk_at "call builtin:list.append") => `(tactic| (k_here; (with_reducible show wpAny _ _ (call (Value.builtin _) [Value.ref _, _]) _ _ _); k_dflt (refine' append_K ?k1 ?k2 ?k3 ?_ ?z; (case k1 => k_asm); (case k2 => k_asm); (case k3 => k_upd); (case z => (rw [List.size_toArray, sizeLine_eq]; omega)); k_whole); intro h' F' N'; (try simp only [List.push_toArray] at N')))
local macro_rules | `(tactic| walk_at "subscriptTail") => `(tactic| (k_here; (with_reducible show wpAny _ _ (subscriptTail _ (Expr.Slice _ _ none _) (Value.bytes (List.toArray _) _) (Value.ref _)) _ _ _); (with_reducible rename Fr _ _ _ _ => F'); (with_reducible rename News _ _ _ _ => N'); (refine slice_L (s := ⟨_, _, _, _, _⟩) F' N' (by constructor) (by constructor) (by omega) cutL_both ?_); intro _ _ _ _ _))
local macro_rules | `(tactic| walk_at "newList") => `(tactic| (refine Hold.of ?_))
local macro_rules | `(tactic| walk_at "pyIter ref") => `(tactic| (refine Hold.of ?_))
theorem parts_fn (w : World) (d bnd : List UInt8) (lo hi : Nat) (t t' t'' t4 : Tok) (news : List (Addr × Obj)) (hd : d.length ≤ 100000) (hh : hi ≤ d.length) (hl : lo ≤ hi) (hb : bnd.length ≤ 16) :
    Fn w 36 2 [.bytes d.toArray t, .int lo t', .int hi t'', .bytes bnd.toArray t4] news (fun r news' => ∃ f vs k tl, r = .ref f ∧ news' = (f, listOf vs.toArray k) :: (tl ++ news) ∧ DatAll tl vs ((psGo d bnd hi (lsGo d hi hi lo) [] none lo).map duo)) := by
  unfold Fn
  w_top off
  k_fill
  intro mean mg mb dp un gd cn cs a ccd cl outer A₀ base h₀ L m s Q E B F X N T hcs hd' hu hret
  refine wpAny_call ?_
  k_dflt ktr_enter
  k_steps
  refine Hold.out ?_
  k_dflt (refine' newList_K ?k1 ?k2 ?_; (case k1 => k_asm); (case k2 => k_asm))
  intro fa h1 F₀ N₀ hfa
  k_steps
  refine Hold.out ?_
  rename Fr _ _ _ _ => F₀
  rename News _ _ _ _ => N₀
  k_dflt (refine' Fn.use (spans_fn w d lo hi _ _ _ _ hd hh hl) ?k1 F₀ ?k3 N₀ ?k5 ?k6 ?k7 ?k8 ?_; (case k1 => k_asm); (case k3 => k_asm); (case k5 => k_asm); (case k6 => exact rfl); (case k7 => ktr_room); (case k8 => ktr_units))
  rintro r news' h' tk' ⟨f, vs, k, tl, rfl, rfl, hda, ho1, ho2, ho3⟩ F₁ N₁
  clear F₀ N₀
  k_steps
  refine Hold.out ?_
  have hbase : ∀ p ∈ (f, listOf vs.toArray k) :: (tl ++ news), @Ne Nat p.1 fa := by
    intro p hp
    rcases List.mem_cons.mp hp with rfl | hp
    · exact Nat.ne_of_gt (ho3 _ (.head _))
    rcases List.mem_append.mp hp with hp | hp
    · exact Nat.ne_of_gt (ho1 _ (.head _) p hp)
    · exact Nat.ne_of_lt (hfa p hp)
  have N₂ := news_sub (news' := (fa, listOf ([] : List Value).toArray 0) :: (f, listOf vs.toArray k) :: (tl ++ news)) N₁ (by
    intro p hp
    rcases List.mem_cons.mp hp with rfl | hp
    · exact .tail _ (List.mem_append.mpr (.inr (.head _)))
    rcases List.mem_cons.mp hp with rfl | hp
    · exact .head _
    rcases List.mem_append.mp hp with hp | hp
    · exact .tail _ (List.mem_append.mpr (.inl hp))
    · exact .tail _ (List.mem_append.mpr (.inr (.tail _ hp))))
  clear N₁
  have hlen : vs.length = ((lsGo d hi hi lo).map tri).length := hda.length
  refine iter_J (l := f) (vs := vs) (nn := k) (fun i m nx => ∃ (us : List Value) (k' : Nat) (rest tl2 : List (Addr × Obj)) (P : List (Nat × Nat)) (g : Option Nat) (bf : Nat),
    nx = (fa, listOf us.toArray k') :: rest ∧ (∀ p ∈ (f, listOf vs.toArray k) :: (tl ++ news), p ∈ rest) ∧ (∀ p ∈ tl2, p ∈ rest) ∧ (∀ p ∈ rest, @Ne Nat p.1 fa) ∧ DatAll tl2 us (P.map duo) ∧
    psGo d bnd hi (lsGo d hi hi lo) [] none lo = psGo d bnd hi ((lsGo d hi hi lo).drop i) P g bf ∧ us.length ≤ i ∧ (∃ t1, m (Str.ofString "begun") = some (.int (gv g) t1)) ∧ (∃ t2, m (Str.ofString "before") = some (.int bf t2)) ∧
    m (Str.ofString "found") = some (.ref fa) ∧ m (Str.ofString "data") = some (.bytes d.toArray t) ∧ m (Str.ofString "boundary") = some (.bytes bnd.toArray t4) ∧ m (Str.ofString "end") = some (.int hi t'')) rfl (.tail _ (.head _)) F₁ N₂ ?_ ?_ ?_ ?_
  · exact ⟨[], 0, (f, listOf vs.toArray k) :: (tl ++ news), [], [], none, lo, rfl, fun _ h => h, fun _ h => absurd h List.not_mem_nil, hbase, .nil, rfl, Nat.le_refl _, ⟨_, rfl⟩, ⟨_, rfl⟩, rfl, rfl, rfl, rfl⟩
  · rintro i m nx ⟨us, k', rest, tl2, P, g, bf, rfl, hb1, _⟩
    exact .tail _ (hb1 _ (.head _))
  · clear F₁ N₂
    rintro I oI i v m₁ news₁ h₁ tk₁ hv ⟨us, k', rest, tl2, P, g, bf, rfl, hb1, hb2, hb3, hd2, hps, hul, ⟨t1, hm1⟩, ⟨t2, hm2⟩, hm3, hm4, hm5, hm6⟩ hI F₁ N₁
    have hi' : i < (lsGo d hi hi lo).length := by
      have := (List.getElem?_eq_some_iff.mp hv).1
      rw [hlen, List.length_map] at this; exact this
    obtain ⟨⟨x, y, z⟩, hx⟩ : ∃ x, (lsGo d hi hi lo)[i]? = some x := ⟨_, List.getElem?_eq_getElem hi'⟩
    have hbd := lsGo_bounds (List.mem_of_getElem? hx)
    obtain ⟨v', hv', hdv⟩ := DatAll.get hda (k := i) (by rw [List.length_map]; exact hi')
    rw [hv] at hv'
    obtain rfl := Option.some.inj hv'
    have hdv' : DatIn tl v (tri (x, y, z)) := by
      have e : ((lsGo d hi hi lo).map tri)[i]'(by rw [List.length_map]; exact hi') = tri (x, y, z) := by
        rw [List.getElem_map]
        congr 1
        exact Option.some.inj ((List.getElem?_eq_getElem hi').symm.trans hx)
      rw [e] at hdv; exact hdv
    obtain ⟨T', n', u1, u2, u3, rfl, hT'⟩ := tri_cases hdv'
    have hTr : (T', ({ cls := .type "tuple", data := .seq #[Value.int x u1, Value.int y u2, Value.int z u3] n' } : Obj)) ∈ rest := hb1 _ (.tail _ (List.mem_append.mpr (.inl hT')))
    have hTf : @Ne Nat T' fa := hb3 _ hTr
    have hTI : @Ne Nat T' I := hI _ (.tail _ hTr)
    have hfI : @Ne Nat fa I := hI _ (.head _)
    have N₂ := news_sub (news' := (fa, listOf us.toArray k') :: (T', { cls := .type "tuple", data := .seq #[Value.int x u1, Value.int y u2, Value.int z u3] n' }) :: (I, oI) :: rest) N₁ (by
      intro p hp
      rcases List.mem_cons.mp hp with rfl | hp
      · exact .tail _ (.head _)
      rcases List.mem_cons.mp hp with rfl | hp
      · exact .tail _ (.tail _ hTr)
      rcases List.mem_cons.mp hp with rfl | hp
      · exact .head _
      · exact .tail _ (.tail _ hp))
    clear N₁
    have hdrop : (lsGo d hi hi lo).drop i = (x, y, z) :: (lsGo d hi hi lo).drop (i + 1) := by
      rw [List.drop_eq_getElem_cons hi']
      congr 1
      exact Option.some.inj ((List.getElem?_eq_getElem hi').symm.trans hx)
    rw [hdrop] at hps
    replace F₁ := fr_ps (ps := [(Str.ofString "begun", .int (gv g) t1), (Str.ofString "before", .int bf t2), (Str.ofString "found", .ref fa), (Str.ofString "data", .bytes d.toArray t), (Str.ofString "boundary", .bytes bnd.toArray t4), (Str.ofString "end", .int hi t'')]) F₁ (by simp only [List.forall_mem_cons, List.not_mem_nil, false_implies, implies_true, and_true]; exact ⟨hm1, hm2, hm3, hm4, hm5, hm6⟩)
    dsimp only [kstB] at F₁
    clear hm1 hm2 hm3 hm4 hm5 hm6
    have hul' : us.length ≤ 200000 := by
      have h3 : (lsGo d hi hi lo).length ≤ hi - lo := lsGo_length
      omega
    try k_fold
    cases g with
    | none =>
      dsimp only [gv] at F₁
      k_steps
      refine Hold.out ?_
      rename Fr _ _ _ _ => F₀
      rename News _ _ _ _ => N₀
      k_dflt (refine' Fn.use (way_fn w ((d.drop x).take (y - x)) bnd _ _ _ ?a1 hb) ?k1 F₀ ?k3 N₀ ?k5 ?k6 ?k7 ?k8 ?_; (case a1 => (rw [List.length_take, List.length_drop]; omega)); (case k1 => k_asm); (case k3 => k_asm); (case k5 => k_asm); (case k6 => exact rfl); (case k7 => ktr_room); (case k8 => ktr_units))
      clear F₀ N₀
      rintro r news' h' tk' ⟨t9, rfl, rfl⟩ F₁ N₁
      rcases bWay_cases ((d.drop x).take (y - x)) bnd with hw | hw | hw <;> rw [hw]
      · k_steps
        rename Fr _ _ _ _ => kF
        rename News _ _ _ _ => kN
        rw [ps_no hw] at hps
        exact ⟨_, _, _, (fa, listOf us.toArray k') :: rest, rfl, kF, news_sub kN sub1, hI, us, k', rest, tl2, P, none, y, rfl, hb1, hb2, hb3, hd2, hps, by omega, ⟨_, rfl⟩, ⟨_, rfl⟩, rfl, rfl, rfl, rfl⟩
      · k_steps
        rename Fr _ _ _ _ => kF
        rename News _ _ _ _ => kN
        rw [ps_next hw] at hps
        exact ⟨_, _, _, (fa, listOf us.toArray k') :: rest, rfl, kF, news_sub kN sub1, hI, us, k', rest, tl2, P, some z, y, rfl, hb1, hb2, hb3, hd2, hps, by omega, ⟨_, rfl⟩, ⟨_, rfl⟩, rfl, rfl, rfl, rfl⟩
      · k_steps
        all_goals (try dsimp only [TurnP])
        k_steps
        rename Fr h₀ L _ m => kF
        rename News h₀ L _ _ => kN
        refine hret _ _ _ _ ⟨fa, us, k', tl2, rfl, rfl, ?_⟩ kF (news_sub kN (sub2 hb1 hb2))
        rw [hps, ps_last hw]
        exact hd2
    | some b =>
      dsimp only [gv] at F₁
      k_steps
      refine Hold.out ?_
      rename Fr _ _ _ _ => F₀
      rename News _ _ _ _ => N₀
      k_dflt (refine' Fn.use (way_fn w ((d.drop x).take (y - x)) bnd _ _ _ ?a1 hb) ?k1 F₀ ?k3 N₀ ?k5 ?k6 ?k7 ?k8 ?_; (case a1 => (rw [List.length_take, List.length_drop]; omega)); (case k1 => k_asm); (case k3 => k_asm); (case k5 => k_asm); (case k6 => exact rfl); (case k7 => ktr_room); (case k8 => ktr_units))
      clear F₀ N₀
      rintro r news' h' tk' ⟨t9, rfl, rfl⟩ F₁ N₁
      rcases bWay_cases ((d.drop x).take (y - x)) bnd with hw | hw | hw <;> rw [hw]
      · k_steps
        rename Fr _ _ _ _ => kF
        rename News _ _ _ _ => kN
        rw [ps_no hw] at hps
        exact ⟨_, _, _, (fa, listOf us.toArray k') :: rest, rfl, kF, news_sub kN sub1, hI, us, k', rest, tl2, P, some b, y, rfl, hb1, hb2, hb3, hd2, hps, by omega, ⟨_, rfl⟩, ⟨_, rfl⟩, rfl, rfl, rfl, rfl⟩
      · k_steps
        rename Fr _ _ _ _ => kF
        rename News _ _ _ _ => kN
        rw [ps_next hw] at hps
        obtain ⟨us', rest', tl2', N9, hb1', hb2', hb3', hd2', hul9, hI'⟩ := more (b := b) (M := max b bf) kN (by assumption) hb1 hb2 hb3 hI hd2 rfl (by split <;> omega)
        exact ⟨_, _, _, (fa, listOf us'.toArray (k' + 1)) :: rest', rfl, kF, N9, hI', us', k' + 1, rest', tl2', P ++ [(b, max b bf)], some z, y, rfl, hb1', hb2', hb3', hd2', hps, by omega, ⟨_, rfl⟩, ⟨_, rfl⟩, rfl, rfl, rfl, rfl⟩
      · k_steps
        all_goals (try dsimp only [TurnP])
        k_steps
        rename Fr h₀ L _ m => kF
        rename News h₀ L _ _ => kN
        obtain ⟨us', rest', tl2', N9, hb1', hb2', hb3', hd2', hul9, hI'⟩ := more (b := b) (M := max b bf) kN (by assumption) hb1 hb2 hb3 hI hd2 rfl (by split <;> omega)
        refine hret _ _ _ _ ⟨fa, us', k' + 1, tl2', rfl, rfl, ?_⟩ kF (news_sub N9 (sub3 hb1' hb2'))
        rw [hps, ps_last hw]
        exact hd2'
  · rintro m₁ nx h₁ tk₁ ⟨us, k', rest, tl2, P, g, bf, rfl, hb1, hb2, hb3, hd2, hps, hul, ⟨t1, hm1⟩, ⟨t2, hm2⟩, hm3, hm4, hm5, hm6⟩ F₁ N₁
    have hd9 : (lsGo d hi hi lo).drop vs.length = [] := List.drop_eq_nil_of_le (by rw [hlen, List.length_map]; exact Nat.le_refl _)
    rw [hd9] at hps
    replace F₁ := fr_ps (ps := [(Str.ofString "begun", .int (gv g) t1), (Str.ofString "before", .int bf t2), (Str.ofString "found", .ref fa), (Str.ofString "data", .bytes d.toArray t), (Str.ofString "boundary", .bytes bnd.toArray t4), (Str.ofString "end", .int hi t'')]) F₁ (by simp only [List.forall_mem_cons, List.not_mem_nil, false_implies, implies_true, and_true]; exact ⟨hm1, hm2, hm3, hm4, hm5, hm6⟩)
    dsimp only [kstB] at F₁
    clear hm1 hm2 hm3 hm4 hm5 hm6
    have hul' : us.length ≤ 200000 := by
      have h3 : (lsGo d hi hi lo).length ≤ hi - lo := lsGo_length
      rw [List.length_map] at hlen
      omega
    cases g with
    | none =>
      dsimp only [gv] at F₁
      k_steps
      rename Fr h₀ L _ m => kF
      rename News h₀ L _ _ => kN
      refine hret _ _ _ _ ⟨fa, us, k', tl2, rfl, rfl, ?_⟩ kF (news_sub kN (sub4 hb1 hb2))
      rw [hps, psGo]
      exact hd2
    | some b =>
      dsimp only [gv] at F₁
      k_steps
      rename Fr h₀ L _ m => kF
      rename News h₀ L _ _ => kN
      obtain ⟨us', tl2', N9, hd2'⟩ := last1 (b := b) (M := hi) kN hb1 hb2 hd2 rfl rfl
      refine hret _ _ _ _ ⟨fa, us', k' + 1, tl2', rfl, rfl, ?_⟩ kF N9
      rw [hps, psGo]
      exact hd2'
end
end Mine

/- NJ -/
namespace Mine

abbrev Row := List UInt8 × Nat
def dueGo (mk : List UInt8) (hi : Nat) : List Row → List (Nat × Nat) → Option Nat → Nat → Nat → List (Nat × Nat)
  | [], P, g, _, _ => shut P g fun _ => hi
  | (ln, sz) :: r, P, g, bf, at_ =>
    if rstrip [32, 9] ln = mk then dueGo mk hi r (shut P g fun x => max x bf) (some (at_ + ln.length + sz)) (at_ + ln.length) (at_ + ln.length + sz)
    else if rstrip [32, 9] ln = mk ++ [45, 45] then shut P g fun x => max x bf
    else dueGo mk hi r P g (at_ + ln.length) (at_ + ln.length + sz)
def rowD (x : Row) : Dat := .tuple [.bytes x.1.toArray, .int x.2]
theorem row_cases {tl : List (Addr × Obj)} {v : Value} {x : Row} (h : DatIn tl v (rowD x)) :
    ∃ T n t1 t2, v = .ref T ∧ (T, ({ cls := .type "tuple", data := .seq #[Value.bytes x.1.toArray t1, Value.int x.2 t2] n } : Obj)) ∈ tl := by
  unfold rowD at h
  cases h with
  | tuple hm hd =>
    cases hd with
    | cons h1 hd => cases hd with
      | cons h2 hd =>
        cases hd; cases h1; cases h2
        exact ⟨_, _, _, _, rfl, hm⟩

theorem last2 {h₀ h : Heap} {L X fb fa D : Addr} {o1 o2 : Obj} {x9 : Addr × Obj} {rest tl2 tl news : List (Addr × Obj)} {us : List Value} {P : List (Nat × Nat)} {b M k n : Nat} {x y : Int} {t u : Tok}
    (kN : News h₀ L h ((X, listOf (us ++ [Value.ref D]).toArray k) :: (fb, o1) :: (D, { cls := .type "tuple", data := .seq #[Value.int x t, Value.int y u] n }) :: (fa, o2) :: rest))
    (hb1 : ∀ p ∈ x9 :: (tl ++ news), p ∈ rest) (hb2 : ∀ p ∈ tl2, p ∈ rest) (hd2 : DatAll tl2 us (P.map duo)) (hx : x = b) (hy : y = M) :
    ∃ us' tl2', News h₀ L h ((X, listOf us'.toArray k) :: (tl2' ++ news)) ∧ DatAll tl2' us' ((P ++ [(b, M)]).map duo) := by
  refine ⟨us ++ [Value.ref D], (D, { cls := .type "tuple", data := .seq #[Value.int x t, Value.int y u] n }) :: tl2, ?_, ?_⟩
  · refine news_sub kN fun p hp => ?_
    rcases List.mem_cons.mp hp with rfl | hp
    · exact .head _
    rcases List.mem_append.mp hp with hp | hp
    · rcases List.mem_cons.mp hp with rfl | hp
      · exact .tail _ (.tail _ (.head _))
      · exact .tail _ (.tail _ (.tail _ (.tail _ (hb2 p hp))))
    · exact .tail _ (.tail _ (.tail _ (.tail _ (hb1 p (.tail _ (List.mem_append.mpr (.inr hp)))))))
  · rw [List.map_append]
    exact grow_dat (items := [Value.int x t, Value.int y u]) hd2 (two hx hy)
theorem due_mk {mk ln : List UInt8} {hi sz bf at_ : Nat} {r : List Row} {P : List (Nat × Nat)} {g : Option Nat} (h : rstrip [32, 9] ln = mk) :
    dueGo mk hi ((ln, sz) :: r) P g bf at_ = dueGo mk hi r (shut P g fun x => max x bf) (some (at_ + ln.length + sz)) (at_ + ln.length) (at_ + ln.length + sz) := by
  rw [dueGo, if_pos h]
theorem due_last {mk ln : List UInt8} {hi sz bf at_ : Nat} {r : List Row} {P : List (Nat × Nat)} {g : Option Nat} (h1 : ¬ rstrip [32, 9] ln = mk) (h2 : rstrip [32, 9] ln = mk ++ [45, 45]) :
    dueGo mk hi ((ln, sz) :: r) P g bf at_ = shut P g fun x => max x bf := by
  rw [dueGo, if_neg h1, if_pos h2]
theorem due_no {mk ln : List UInt8} {hi sz bf at_ : Nat} {r : List Row} {P : List (Nat × Nat)} {g : Option Nat} (h1 : ¬ rstrip [32, 9] ln = mk) (h2 : ¬ rstrip [32, 9] ln = mk ++ [45, 45]) :
    dueGo mk hi ((ln, sz) :: r) P g bf at_ = dueGo mk hi r P g (at_ + ln.length) (at_ + ln.length + sz) := by
  rw [dueGo, if_neg h1, if_neg h2]

section
local macro_rules | `(tactic| walk_at "exec For Tuple Name cons nil") => `(tactic| (k_here; (rename Fr _ _ _ _ => lF'); (with_unfolding_all refine' For_turns lF' ?_)))
local macro_rules | `(tactic| k_all) => `(tactic| with_reducible assumption)
local macro_rules | `(tactic| walk_at "call builtin:list.append") => `(tactic| (k_here; (with_reducible show wpAny _ _ (call (Value.builtin _) [Value.ref _, _]) _ _ _); k_dflt (refine' append_K ?k1 ?k2 ?k3 ?_ ?z; (case k1 => k_asm); (case k2 => k_asm); (case k3 => k_upd); (case z => (rw [List.size_toArray, sizeLine_eq]; omega)); k_whole); intro h' F' N'; (try simp only [List.push_toArray] at N')))
local macro_rules | `(tactic| walk_at "binaryOp Add bytes bytes") => `(tactic| (k_here; (with_reducible show wpAny _ _ (binaryOp Operator.Add (Value.bytes (List.toArray _) _) (Value.bytes (List.toArray _) _)) _ _ _); (refine add_L (by simp only [List.length_append, List.length_cons, List.length_nil]; omega) ?_); intro _ _))
local macro_rules | `(tactic| walk_at "call builtin:len") => `(tactic| (k_here; (with_reducible show wpAny _ _ (call (Value.builtin "len") [Value.bytes (List.toArray _) _]) _ _ _); (refine len_L (by omega) ?_); intro _ _))
local macro_rules | `(tactic| walk_at "compareOp Eq bytes bytes") => `(tactic| (k_here; (with_reducible show wpAny _ _ (compareOp _ (Value.bytes (List.toArray _) _) (Value.bytes (List.toArray _) _)) _ _ _); refine eq_L ?_))
local macro_rules | `(tactic| walk_at "compareOp NotEq bytes bytes") => `(tactic| (k_here; (with_reducible show wpAny _ _ (compareOp _ (Value.bytes (List.toArray _) _) (Value.bytes (List.toArray _) _)) _ _ _); refine ne_L ?_))
local macro_rules | `(tactic| walk_at "getMethod bytes") => `(tactic| (k_here; (with_reducible refine method_rstrip ?_)))
local macro_rules | `(tactic| walk_at "call builtin:bytes.rstrip") => `(tactic| (k_here; (refine rstrip_K (by omega) ?_); intro _ _))
local macro_rules | `(tactic| walk_at "binaryOp Add ref ref") => `(tactic| (refine Hold.of ?_))
local macro_rules | `(tactic| walk_at "newList") => `(tactic| (refine Hold.of ?_))
local macro_rules | `(tactic| walk_at "pyIter ref") => `(tactic| (refine Hold.of ?_))
set_option maxHeartbeats 4000000 in
theorem due_fn (w : World) (mk : List UInt8) (R : List Row) (lo hi : Nat) (ra : Addr) (rvs : List Value) (rk : Nat) (t t' t'' : Tok) (news : List (Addr × Obj)) (hra : (ra, listOf rvs.toArray rk) ∈ news) (hrd : DatAll news rvs (R.map rowD))
    (hmk : mk.length ≤ 16) (hR : ∀ x ∈ R, x.1.length ≤ 100) (hRl : R.length ≤ 100) :
    Fn w 58 1 [.ref ra, .bytes mk.toArray t, .int lo t', .int hi t''] news (fun r news' => ∃ f vs k tl, r = .ref f ∧ news' = (f, listOf vs.toArray k) :: (tl ++ news) ∧ DatAll tl vs ((dueGo mk hi R [] none lo lo).map duo)) := by
  unfold Fn
  w_top off
  k_fill
  intro mean mg mb dp un gd cn cs a ccd cl outer A₀ base h₀ L m s Q E B F X N T hcs hd' hu hret
  refine wpAny_call ?_
  k_dflt ktr_enter
  k_steps
  refine Hold.out ?_
  k_dflt (refine' newList_K ?k1 ?k2 ?_; (case k1 => k_asm); (case k2 => k_asm))
  intro fa h1 F₀ N₀ hfa
  k_steps
  refine Hold.out ?_
  rename Fr _ _ _ _ => F₁
  rename News _ _ _ _ => N₁
  have hbase : ∀ p ∈ news, @Ne Nat p.1 fa := fun p hp => Nat.ne_of_lt (hfa p hp)
  have hlen : rvs.length = (R.map rowD).length := hrd.length
  refine iter_J (l := ra) (vs := rvs) (nn := rk) (fun i m nx => ∃ (us : List Value) (k' : Nat) (rest tl2 : List (Addr × Obj)) (P : List (Nat × Nat)) (g : Option Nat) (bf at_ : Nat),
    nx = (fa, listOf us.toArray k') :: rest ∧ (∀ p ∈ (ra, listOf rvs.toArray rk) :: ([] ++ news), p ∈ rest) ∧ (∀ p ∈ tl2, p ∈ rest) ∧ (∀ p ∈ rest, @Ne Nat p.1 fa) ∧ DatAll tl2 us (P.map duo) ∧
    dueGo mk hi R [] none lo lo = dueGo mk hi (R.drop i) P g bf at_ ∧ us.length ≤ i ∧ (∃ t1, m (Str.ofString "begun") = some (.int (gv g) t1)) ∧ (∃ t2, m (Str.ofString "before") = some (.int bf t2)) ∧ (∃ t2, m (Str.ofString "at") = some (.int at_ t2)) ∧
    m (Str.ofString "found") = some (.ref fa) ∧ m (Str.ofString "mark") = some (.bytes mk.toArray t) ∧ m (Str.ofString "end") = some (.int hi t'')) rfl (.tail _ hra) F₁ N₁ ?_ ?_ ?_ ?_
  · exact ⟨[], 0, news, [], [], none, lo, lo, rfl, fun p hp => by
      rcases List.mem_cons.mp hp with rfl | hp
      · exact hra
      · exact hp, fun _ h => absurd h List.not_mem_nil, hbase, .nil, rfl, Nat.le_refl _, ⟨_, rfl⟩, ⟨_, rfl⟩, ⟨_, rfl⟩, rfl, rfl, rfl⟩
  · rintro i m nx ⟨us, k', rest, tl2, P, g, bf, at_, rfl, hb1, _⟩
    exact .tail _ (hb1 _ (.head _))
  · clear F₁ N₁
    rintro I oI i v m₁ news₁ h₁ tk₁ hv ⟨us, k', rest, tl2, P, g, bf, at_, rfl, hb1, hb2, hb3, hd2, hps, hul, ⟨t1, hm1⟩, ⟨t2, hm2⟩, ⟨t3, hm3⟩, hm4, hm5, hm6⟩ hI F₁ N₁
    have hi' : i < R.length := by
      have := (List.getElem?_eq_some_iff.mp hv).1
      rw [hlen, List.length_map] at this; exact this
    obtain ⟨⟨x, y⟩, hx⟩ : ∃ x, R[i]? = some x := ⟨_, List.getElem?_eq_getElem hi'⟩
    have hxl : x.length ≤ 100 := hR _ (List.mem_of_getElem? hx)
    obtain ⟨v', hv', hdv⟩ := DatAll.get hrd (k := i) (by rw [List.length_map]; exact hi')
    rw [hv] at hv'
    obtain rfl := Option.some.inj hv'
    have hdv' : DatIn news v (rowD (x, y)) := by
      have e : (R.map rowD)[i]'(by rw [List.length_map]; exact hi') = rowD (x, y) := by
        rw [List.getElem_map]
        congr 1
        exact Option.some.inj ((List.getElem?_eq_getElem hi').symm.trans hx)
      rw [e] at hdv; exact hdv
    obtain ⟨T', n', u1, u2, rfl, hT'⟩ := row_cases hdv'
    have hTr : (T', ({ cls := .type "tuple", data := .seq #[Value.bytes x.toArray u1, Value.int y u2] n' } : Obj)) ∈ rest := hb1 _ (.tail _ hT')
    have hTf : @Ne Nat T' fa := hb3 _ hTr
    have hTI : @Ne Nat T' I := hI _ (.tail _ hTr)
    have hfI : @Ne Nat fa I := hI _ (.head _)
    have N₂ := news_sub (news' := (fa, listOf us.toArray k') :: (T', { cls := .type "tuple", data := .seq #[Value.bytes x.toArray u1, Value.int y u2] n' }) :: (I, oI) :: rest) N₁ (by
      intro p hp
      rcases List.mem_cons.mp hp with rfl | hp
      · exact .tail _ (.head _)
      rcases List.mem_cons.mp hp with rfl | hp
      · exact .tail _ (.tail _ hTr)
      rcases List.mem_cons.mp hp with rfl | hp
      · exact .head _
      · exact .tail _ (.tail _ hp))
    clear N₁
    have hdrop : R.drop i = (x, y) :: R.drop (i + 1) := by
      rw [List.drop_eq_getElem_cons hi']
      congr 1
      exact Option.some.inj ((List.getElem?_eq_getElem hi').symm.trans hx)
    rw [hdrop] at hps
    replace F₁ := fr_ps (ps := [(Str.ofString "begun", .int (gv g) t1), (Str.ofString "before", .int bf t2), (Str.ofString "at", .int at_ t3), (Str.ofString "found", .ref fa), (Str.ofString "mark", .bytes mk.toArray t), (Str.ofString "end", .int hi t'')]) F₁ (by simp only [List.forall_mem_cons, List.not_mem_nil, false_implies, implies_true, and_true]; exact ⟨hm1, hm2, hm3, hm4, hm5, hm6⟩)
    dsimp only [kstB] at F₁
    clear hm1 hm2 hm3 hm4 hm5 hm6
    have hul' : us.length ≤ 200000 := by omega
    try k_fold
    cases g with
    | none =>
      dsimp only [gv] at F₁
      k_steps
      · exact absurd (by simpa using ‹(rstrip [32, 9] x == mk) = true› : rstrip [32, 9] x = mk) (by simpa using ‹(rstrip [32, 9] x != mk) = true›)
      · have h1 : rstrip [32, 9] x = mk := by simpa using ‹(rstrip [32, 9] x == mk) = true›
        rename Fr _ _ _ _ => kF
        rename News _ _ _ _ => kN
        rw [due_mk h1] at hps
        exact ⟨_, _, _, (fa, listOf us.toArray k') :: rest, rfl, kF, news_sub kN sub1, hI, us, k', rest, tl2, P, some _, _, _, rfl, hb1, hb2, hb3, hd2, hps, by omega, ⟨_, rfl⟩, ⟨_, rfl⟩, ⟨_, rfl⟩, rfl, rfl, rfl⟩
      · have h1 : ¬ rstrip [32, 9] x = mk := by simpa using ‹(rstrip [32, 9] x == mk) = false›
        have h2 : rstrip [32, 9] x = mk ++ [45, 45] := by simpa using ‹(rstrip [32, 9] x == mk ++ [45, 45]) = true›
        (try dsimp only [TurnP])
        k_steps
        rename Fr h₀ L _ m => kF
        rename News h₀ L _ _ => kN
        refine hret _ _ _ _ ⟨fa, us, k', tl2, rfl, rfl, ?_⟩ kF (news_sub kN (sub2 hb1 hb2))
        rw [hps, due_last h1 h2]
        exact hd2
      · exact absurd (by simpa using ‹(rstrip [32, 9] x != mk) = false› : rstrip [32, 9] x = mk) (by simpa using ‹(rstrip [32, 9] x == mk) = false›)
      · have h1 : ¬ rstrip [32, 9] x = mk := by simpa using ‹(rstrip [32, 9] x == mk) = false›
        have h2 : ¬ rstrip [32, 9] x = mk ++ [45, 45] := by simpa using ‹(rstrip [32, 9] x == mk ++ [45, 45]) = false›
        rename Fr _ _ _ _ => kF
        rename News _ _ _ _ => kN
        rw [due_no h1 h2] at hps
        exact ⟨_, _, _, (fa, listOf us.toArray k') :: rest, rfl, kF, news_sub kN sub1, hI, us, k', rest, tl2, P, none, _, _, rfl, hb1, hb2, hb3, hd2, hps, by omega, ⟨_, rfl⟩, ⟨_, rfl⟩, ⟨_, rfl⟩, rfl, rfl, rfl⟩
    | some b =>
      dsimp only [gv] at F₁
      k_steps
      · exact absurd (by simpa using ‹(rstrip [32, 9] x == mk) = true› : rstrip [32, 9] x = mk) (by simpa using ‹(rstrip [32, 9] x != mk) = true›)
      · have h1 : rstrip [32, 9] x = mk := by simpa using ‹(rstrip [32, 9] x == mk) = true›
        rename Fr _ _ _ _ => kF
        rename News _ _ _ _ => kN
        rw [due_mk h1] at hps
        obtain ⟨us', rest', tl2', N9, hb1', hb2', hb3', hd2', hul9, hI'⟩ := more (b := b) (M := max b bf) kN (by assumption) hb1 hb2 hb3 hI hd2 rfl (by split <;> omega)
        exact ⟨_, _, _, (fa, listOf us'.toArray (k' + 1)) :: rest', rfl, kF, N9, hI', us', k' + 1, rest', tl2', P ++ [(b, max b bf)], some _, _, _, rfl, hb1', hb2', hb3', hd2', hps, by omega, ⟨_, rfl⟩, ⟨_, rfl⟩, ⟨_, rfl⟩, rfl, rfl, rfl⟩
      · have h1 : ¬ rstrip [32, 9] x = mk := by simpa using ‹(rstrip [32, 9] x == mk) = false›
        have h2 : rstrip [32, 9] x = mk ++ [45, 45] := by simpa using ‹(rstrip [32, 9] x == mk ++ [45, 45]) = true›
        (try dsimp only [TurnP])
        k_steps
        rename Fr h₀ L _ m => kF
        rename News h₀ L _ _ => kN
        obtain ⟨us', rest', tl2', N9, hb1', hb2', hb3', hd2', hul9, hI'⟩ := more (b := b) (M := max b bf) kN (by assumption) hb1 hb2 hb3 hI hd2 rfl (by split <;> omega)
        refine hret _ _ _ _ ⟨fa, us', k' + 1, tl2', rfl, rfl, ?_⟩ kF (news_sub N9 (sub3 hb1' hb2'))
        rw [hps, due_last h1 h2]
        exact hd2'
      · exact absurd (by simpa using ‹(rstrip [32, 9] x != mk) = false› : rstrip [32, 9] x = mk) (by simpa using ‹(rstrip [32, 9] x == mk) = false›)
      · have h1 : ¬ rstrip [32, 9] x = mk := by simpa using ‹(rstrip [32, 9] x == mk) = false›
        have h2 : ¬ rstrip [32, 9] x = mk ++ [45, 45] := by simpa using ‹(rstrip [32, 9] x == mk ++ [45, 45]) = false›
        rename Fr _ _ _ _ => kF
        rename News _ _ _ _ => kN
        rw [due_no h1 h2] at hps
        exact ⟨_, _, _, (fa, listOf us.toArray k') :: rest, rfl, kF, news_sub kN sub1, hI, us, k', rest, tl2, P, some b, _, _, rfl, hb1, hb2, hb3, hd2, hps, by omega, ⟨_, rfl⟩, ⟨_, rfl⟩, ⟨_, rfl⟩, rfl, rfl, rfl⟩
  · rintro m₁ nx h₁ tk₁ ⟨us, k', rest, tl2, P, g, bf, at_, rfl, hb1, hb2, hb3, hd2, hps, hul, ⟨t1, hm1⟩, ⟨t2, hm2⟩, ⟨t3, hm3⟩, hm4, hm5, hm6⟩ F₁ N₁
    have hd9 : R.drop rvs.length = [] := List.drop_eq_nil_of_le (by rw [hlen, List.length_map]; exact Nat.le_refl _)
    rw [hd9] at hps
    replace F₁ := fr_ps (ps := [(Str.ofString "begun", .int (gv g) t1), (Str.ofString "before", .int bf t2), (Str.ofString "at", .int at_ t3), (Str.ofString "found", .ref fa), (Str.ofString "mark", .bytes mk.toArray t), (Str.ofString "end", .int hi t'')]) F₁ (by simp only [List.forall_mem_cons, List.not_mem_nil, false_implies, implies_true, and_true]; exact ⟨hm1, hm2, hm3, hm4, hm5, hm6⟩)
    dsimp only [kstB] at F₁
    clear hm1 hm2 hm3 hm4 hm5 hm6
    have hul' : us.length ≤ 200000 := by
      rw [List.length_map] at hlen
      omega
    cases g with
    | none =>
      dsimp only [gv] at F₁
      k_steps
      rename Fr h₀ L _ m => kF
      rename News h₀ L _ _ => kN
      refine hret _ _ _ _ ⟨fa, us, k', tl2, rfl, rfl, ?_⟩ kF (news_sub kN (sub4 hb1 hb2))
      rw [hps, dueGo]
      exact hd2
    | some b =>
      dsimp only [gv] at F₁
      k_steps
      refine Hold.out ?_
      k_dflt (refine' newList_K ?k1 ?k2 ?_; (case k1 => k_asm); (case k2 => k_asm))
      intro fb h9 F9 N9 hfb
      k_steps
      refine Hold.out ?_
      rename Fr _ _ _ _ => kF0
      rename News _ _ _ _ => kN0
      refine add_lists (vs := us) kF0 kN0 (News.isList kN0 (by k_mem)) (News.isList kN0 (.head _)) (fun h' F' N' => ?_) (by rw [sizeLine_eq]; simp only [List.length_singleton]; omega)
      k_steps
      rename Fr h₀ L _ m => kF
      rename News h₀ L _ _ => kN
      obtain ⟨us', tl2', N9, hd2'⟩ := last2 (b := b) (M := hi) kN hb1 hb2 hd2 rfl rfl
      refine hret _ _ _ _ ⟨_, us', 0, tl2', rfl, rfl, ?_⟩ kF N9
      rw [hps, dueGo]
      exact hd2'
end
end Mine

/- NP -/
namespace Mine

def eol : Nat → List UInt8
  | 0 => []
  | 1 => [10]
  | _ => [13, 10]
def flat : List Row → List UInt8
  | [] => []
  | (ln, sz) :: r => ln ++ eol sz ++ flat r
def LineOk (ln : List UInt8) : Prop := (10 : UInt8) ∉ ln ∧ (13 : UInt8) ∉ ln
def Good : List Row → Prop
  | [] => True
  | (ln, sz) :: r => LineOk ln ∧ (sz = 1 ∨ sz = 2 ∨ (sz = 0 ∧ r = [])) ∧ Good r

theorem flat_append : ∀ (a b : List Row), flat (a ++ b) = flat a ++ flat b
  | [], _ => rfl
  | (ln, sz) :: r, b => by simp [flat, flat_append r b]

/- what a strip from the right leaves -/
theorem rstrip_prefix (cs l : List UInt8) : ∃ t, l = rstrip cs l ++ t := by
  unfold rstrip
  refine ⟨(l.reverse.takeWhile cs.contains).reverse, ?_⟩
  rw [← List.reverse_append, List.takeWhile_append_dropWhile, List.reverse_reverse]
theorem rstrip_snoc (cs l : List UInt8) (c : UInt8) : rstrip cs (l ++ [c]) = if c ∈ cs then rstrip cs l else l ++ [c] := by
  unfold rstrip
  rw [List.reverse_append]
  simp only [List.reverse_cons, List.reverse_nil, List.nil_append, List.cons_append]
  rw [List.dropWhile_cons]
  by_cases h : c ∈ cs
  · rw [if_pos (by simpa using h), if_pos h]
  · rw [if_neg (by simpa using h), if_neg h]; simp
theorem rstrip_nil (cs : List UInt8) : rstrip cs [] = [] := rfl
theorem rstrip_append (cs a : List UInt8) (ha : rstrip cs a = a) : ∀ n (x : List UInt8), x.length = n → rstrip cs (a ++ x) = a ++ rstrip cs x := by
  intro n
  induction n with
  | zero => intro x hx; rw [List.length_eq_zero_iff.mp hx, List.append_nil, rstrip_nil, List.append_nil, ha]
  | succ n ih =>
    intro x hx
    obtain ⟨y, c, rfl⟩ : ∃ y c, x = y ++ [c] := by
      refine ⟨x.dropLast, x.getLast (by intro e; rw [e] at hx; simp at hx), ?_⟩
      rw [List.dropLast_concat_getLast]
    rw [← List.append_assoc, rstrip_snoc, rstrip_snoc]
    by_cases h : c ∈ cs
    · rw [if_pos h, if_pos h]; exact ih y (by simpa using hx)
    · rw [if_neg h, if_neg h, List.append_assoc]
theorem rstrip_13 {l : List UInt8} (h : (13 : UInt8) ∉ l) : rstrip [32, 9, 13] l = rstrip [32, 9] l := by
  have aux : ∀ n (x : List UInt8), x.length = n → (13 : UInt8) ∉ x → rstrip [32, 9, 13] x = rstrip [32, 9] x := by
    intro n
    induction n with
    | zero => intro x hx _; rw [List.length_eq_zero_iff.mp hx]; rfl
    | succ n ih =>
      intro x hx hn
      obtain ⟨y, c, rfl⟩ : ∃ y c, x = y ++ [c] := by
        refine ⟨x.dropLast, x.getLast (by intro e; rw [e] at hx; simp at hx), ?_⟩
        rw [List.dropLast_concat_getLast]
      rw [rstrip_snoc, rstrip_snoc]
      have hc : c ≠ 13 := by intro e; apply hn; simp [e]
      have hy : (13 : UInt8) ∉ y := fun e => hn (by simp [e])
      by_cases h : c ∈ ([32, 9] : List UInt8)
      · rw [if_pos h, if_pos (by simp at h ⊢; rcases h with h | h <;> simp [h]), ih y (by simpa using hx) hy]
      · rw [if_neg h, if_neg (by simp at h ⊢; exact ⟨h.1, h.2, hc⟩)]
  exact aux _ l rfl h
theorem rstrip_13r {l : List UInt8} (h : (13 : UInt8) ∉ l) : rstrip [32, 9, 13] (l ++ [13]) = rstrip [32, 9] l := by
  rw [rstrip_snoc, if_pos (by decide), rstrip_13 h]

section
variable {mk bnd : List UInt8}
/- the three answers of boundary_way -/
theorem way_next (hm : mk = [45, 45] ++ bnd) (hs : rstrip [32, 9] mk = mk) {ln : List UInt8} (h : rstrip [32, 9] ln = mk) : bWay ln bnd = "next" := by
  obtain ⟨t, ht⟩ := rstrip_prefix [32, 9] ln
  rw [h] at ht
  unfold bWay
  rw [← hm]
  have h1 : ln.take mk.length = mk := by rw [ht]; simp
  have h2 : ln.drop mk.length = t := by rw [ht]; simp
  have h3 : rstrip [32, 9] t = [] := by
    have := rstrip_append [32, 9] mk hs _ t rfl
    rw [← ht, h] at this
    simpa using this.symm
  rw [h1, h2, h3]
  simp
theorem way_last (hm : mk = [45, 45] ++ bnd) (hs : rstrip [32, 9] mk = mk) {ln : List UInt8} (h : rstrip [32, 9] ln = mk ++ [45, 45]) : bWay ln bnd = "last" := by
  obtain ⟨t, ht⟩ := rstrip_prefix [32, 9] ln
  rw [h] at ht
  unfold bWay
  rw [← hm]
  have h1 : ln.take mk.length = mk := by rw [ht]; simp
  have h2 : ln.drop mk.length = [45, 45] ++ t := by rw [ht]; simp
  have h3 : rstrip [32, 9] ([45, 45] ++ t) = [45, 45] := by
    have := rstrip_append [32, 9] mk hs _ ([45, 45] ++ t) rfl
    rw [← List.append_assoc, ← ht, h] at this
    simpa using this.symm
  rw [h1, h2, h3]
  simp
theorem way_no (hm : mk = [45, 45] ++ bnd) (hs : rstrip [32, 9] mk = mk) {ln : List UInt8} (h1 : rstrip [32, 9] ln ≠ mk) (h2 : rstrip [32, 9] ln ≠ mk ++ [45, 45]) : bWay ln bnd = "" := by
  unfold bWay
  rw [← hm]
  by_cases h : ln.take mk.length = mk
  · have hl : ln = mk ++ ln.drop mk.length := by
      have := List.take_append_drop mk.length ln
      rw [h] at this
      exact this.symm
    have h3 := rstrip_append [32, 9] mk hs _ (ln.drop mk.length) rfl
    rw [← hl] at h3
    rw [h3] at h1 h2
    rw [if_neg (by simp [h])]
    rw [if_neg (by
      intro e
      apply h1
      rw [eq_of_beq e, List.append_nil])]
    rw [if_neg (by
      intro e
      apply h2
      rw [eq_of_beq e])]
  · rw [if_pos (by simpa using h)]
end

/- the first end of a line -/
theorem get_mid {pre a rest : List UInt8} {c : UInt8} : (pre ++ a ++ c :: rest)[pre.length + a.length]? = some c := by
  rw [List.getElem?_append_right (by simp)]
  simp
theorem get_in {pre a rest : List UInt8} {j : Nat} (h1 : pre.length ≤ j) (h2 : j < pre.length + a.length) : (pre ++ a ++ rest)[j]? = a[j - pre.length]? := by
  rw [List.append_assoc, List.getElem?_append_right h1, List.getElem?_append_left (by omega)]
theorem find_mid {pre a rest : List UInt8} {hi : Nat} (ha : (10 : UInt8) ∉ a) (hh : pre.length + a.length < hi) : findIn (pre ++ a ++ 10 :: rest) 10 pre.length hi = some (pre.length + a.length) := by
  refine findIn_eq (by omega) hh get_mid fun j h1 h2 h => ?_
  rw [get_in h1 h2] at h
  exact ha (List.mem_of_getElem? h)
theorem find_end {pre a rest : List UInt8} {hi : Nat} (ha : (10 : UInt8) ∉ a) (hh : hi = pre.length + a.length) : findIn (pre ++ a ++ rest) 10 pre.length hi = none := by
  cases hf : findIn (pre ++ a ++ rest) 10 pre.length hi with
  | none => rfl
  | some i =>
    obtain ⟨h1, h2, h3, _⟩ := findIn_some hf
    rw [get_in h1 (by omega)] at h3
    exact absurd (List.mem_of_getElem? h3) ha

theorem cut_line {pre a rest : List UInt8} : ((pre ++ a ++ rest).drop pre.length).take (pre.length + a.length - pre.length) = a := by
  rw [List.append_assoc, List.drop_left]
  have : pre.length + a.length - pre.length = a.length := by omega
  rw [this, List.take_left']
  rfl

/- the lines that line_spans finds are the rows -/
theorem ls_row2 {pre ln rest : List UInt8} {hi n : Nat} (hl : LineOk ln) (hh : pre.length + ln.length + 2 ≤ hi) :
    lsGo (pre ++ ln ++ 13 :: 10 :: rest) hi (n + 1) pre.length = (pre.length, pre.length + ln.length, pre.length + ln.length + 2) :: lsGo (pre ++ ln ++ 13 :: 10 :: rest) hi n (pre.length + ln.length + 2) := by
  have e : pre ++ ln ++ 13 :: 10 :: rest = pre ++ (ln ++ [13]) ++ 10 :: rest := by simp
  have hf : findIn (pre ++ ln ++ 13 :: 10 :: rest) 10 pre.length hi = some (pre.length + ln.length + 1) := by
    rw [e, find_mid (by simp [hl.1]) (by simp; omega)]
    simp; omega
  have h13 : (pre ++ ln ++ 13 :: 10 :: rest).getD (pre.length + ln.length + 1 - 1) 0 = 13 := by
    rw [List.getD_eq_getElem?_getD]
    have : pre.length + ln.length + 1 - 1 = pre.length + ln.length := by omega
    rw [this, get_mid]; rfl
  have hla : lastOf (pre ++ ln ++ 13 :: 10 :: rest) pre.length (pre.length + ln.length + 1) = pre.length + ln.length := by
    unfold lastOf
    rw [if_pos ⟨by omega, by rw [h13]; rfl⟩]
    omega
  rw [lsGo, if_pos (by omega), hf]
  dsimp only
  rw [hla]
theorem ls_row1 {pre ln rest : List UInt8} {hi n : Nat} (hl : LineOk ln) (hh : pre.length + ln.length + 1 ≤ hi) :
    lsGo (pre ++ ln ++ 10 :: rest) hi (n + 1) pre.length = (pre.length, pre.length + ln.length, pre.length + ln.length + 1) :: lsGo (pre ++ ln ++ 10 :: rest) hi n (pre.length + ln.length + 1) := by
  have hf : findIn (pre ++ ln ++ 10 :: rest) 10 pre.length hi = some (pre.length + ln.length) := find_mid hl.1 (by omega)
  have hla : lastOf (pre ++ ln ++ 10 :: rest) pre.length (pre.length + ln.length) = pre.length + ln.length := by
    unfold lastOf
    rw [if_neg]
    rintro ⟨h1, h2⟩
    have h3 : (pre ++ ln ++ 10 :: rest)[pre.length + ln.length - 1]? = ln[pre.length + ln.length - 1 - pre.length]? := get_in (by omega) (by omega)
    rw [List.getD_eq_getElem?_getD, h3] at h2
    have h4 : pre.length + ln.length - 1 - pre.length < ln.length := by omega
    rw [List.getElem?_eq_getElem h4, Option.getD_some] at h2
    apply hl.2
    have h5 : ln[pre.length + ln.length - 1 - pre.length] = 13 := by
      apply UInt8.toNat_inj.mp
      have : (13 : UInt8).toNat = 13 := rfl
      omega
    rw [← h5]
    exact List.getElem_mem h4
  rw [lsGo, if_pos (by omega), hf]
  dsimp only
  rw [hla]
theorem ls_row0 {pre ln rest : List UInt8} {hi n : Nat} (hl : LineOk ln) (hh : hi = pre.length + ln.length) (hn : ln ≠ []) :
    lsGo (pre ++ ln ++ rest) hi (n + 1) pre.length = [(pre.length, hi, hi)] := by
  have : 0 < ln.length := List.length_pos_iff.mpr hn
  rw [lsGo, if_pos (by omega), find_end hl.1 hh]
theorem ls_none {d : List UInt8} {hi n b : Nat} (h : ¬ b < hi) : lsGo d hi n b = [] := by
  cases n with
  | zero => rfl
  | succ n => rw [lsGo, if_neg h]

section
variable {mk bnd : List UInt8}
theorem ps_due (hm : mk = [45, 45] ++ bnd) (hs : rstrip [32, 9] mk = mk) (tail : List UInt8) : ∀ (R : List Row) (pre : List UInt8) (P : List (Nat × Nat)) (g : Option Nat) (bf n hi : Nat) (d : List UInt8), Good R → d = pre ++ flat R ++ tail → hi = pre.length + (flat R).length → hi - pre.length ≤ n →
    psGo d bnd hi (lsGo d hi n pre.length) P g bf = dueGo mk hi R P g bf pre.length := by
  intro R
  induction R with
  | nil =>
    intro pre P g bf n hi d _ _ hh _
    simp only [flat, List.length_nil, Nat.add_zero] at hh
    rw [ls_none (by omega), psGo, dueGo]
  | cons x r ih =>
    obtain ⟨ln, sz⟩ := x
    intro pre P g bf n hi d hg hd hh hn
    obtain ⟨hl, hsz, hg'⟩ := hg
    -- one row: the line and where the next begins
    have step : ∀ (c : Nat) (L' : List (Nat × Nat × Nat)), c = pre.length + ln.length + sz → ((d.drop pre.length).take (pre.length + ln.length - pre.length) = ln) →
        (∀ P g bf, psGo d bnd hi L' P g bf = dueGo mk hi r P g bf c) → psGo d bnd hi ((pre.length, pre.length + ln.length, c) :: L') P g bf = dueGo mk hi ((ln, sz) :: r) P g bf pre.length := by
      intro c L' hc hcut hr
      by_cases h1 : rstrip [32, 9] ln = mk
      · rw [ps_next (by rw [hcut]; exact way_next hm hs h1), due_mk h1, hr, hc]
      · by_cases h2 : rstrip [32, 9] ln = mk ++ [45, 45]
        · rw [ps_last (by rw [hcut]; exact way_last hm hs h2), due_last h1 h2]
        · rw [ps_no (by rw [hcut]; exact way_no hm hs h1 h2), due_no h1 h2, hr, hc]
    rcases hsz with rfl | rfl | ⟨rfl, rfl⟩
    · have hd' : d = pre ++ ln ++ 10 :: (flat r ++ tail) := by rw [hd]; simp [flat, eol]
      have hh' : hi = pre.length + ln.length + 1 + (flat r).length := by rw [hh]; simp [flat, eol]; omega
      obtain ⟨n', rfl⟩ : ∃ n', n = n' + 1 := ⟨n - 1, by omega⟩
      rw [hd', ls_row1 hl (by omega), ← hd']
      refine step _ _ rfl (by rw [hd']; exact cut_line) fun P g bf => ?_
      have := ih (pre ++ ln ++ [10]) P g bf n' hi d hg' (by rw [hd']; simp) (by simp; omega) (by simp; omega)
      have e : (pre ++ ln ++ [10]).length = pre.length + ln.length + 1 := by simp; omega
      rw [e] at this
      exact this
    · have hd' : d = pre ++ ln ++ 13 :: 10 :: (flat r ++ tail) := by rw [hd]; simp [flat, eol]
      have hh' : hi = pre.length + ln.length + 2 + (flat r).length := by rw [hh]; simp [flat, eol]; omega
      obtain ⟨n', rfl⟩ : ∃ n', n = n' + 1 := ⟨n - 1, by omega⟩
      rw [hd', ls_row2 hl (by omega), ← hd']
      refine step _ _ rfl (by rw [hd']; exact cut_line) fun P g bf => ?_
      have := ih (pre ++ ln ++ [13, 10]) P g bf n' hi d hg' (by rw [hd']; simp) (by simp; omega) (by simp; omega)
      have e : (pre ++ ln ++ [13, 10]).length = pre.length + ln.length + 2 := by simp; omega
      rw [e] at this
      exact this
    · have hd' : d = pre ++ ln ++ tail := by rw [hd]; simp [flat, eol]
      have hh' : hi = pre.length + ln.length := by rw [hh]; simp [flat, eol]
      by_cases he : ln = []
      · subst he
        have hne : mk ≠ [] := by rw [hm]; simp
        rw [ls_none (by simp at hh'; omega), psGo, due_no (by rw [rstrip_nil]; exact fun e => hne e.symm) (by rw [rstrip_nil]; simp), dueGo]
      · have : 0 < ln.length := List.length_pos_iff.mpr he
        obtain ⟨n', rfl⟩ : ∃ n', n = n' + 1 := ⟨n - 1, by omega⟩
        rw [hd', ls_row0 hl hh' he, ← hd']
        have := step hi [] hh' (by rw [hd']; exact cut_line) fun P g bf => by rw [psGo, dueGo]
        rw [← hh'] at this
        exact this
end
end Mine

/- NQ -/
namespace Mine

theorem splitGo_sep {c : UInt8} : ∀ (a cur b : List UInt8), splitGo c cur (a ++ c :: b) = splitGo c cur a ++ splitGo c [] b
  | [], cur, b => by simp [splitGo]
  | x :: a, cur, b => by
    by_cases h : x = c
    · simp only [List.cons_append, splitGo, if_pos h]
      rw [splitGo_sep a [] b]
    · simp only [List.cons_append, splitGo, if_neg h]
      exact splitGo_sep a (cur ++ [x]) b
theorem splitGo_none {c : UInt8} : ∀ (a cur : List UInt8), c ∉ a → splitGo c cur a = [cur ++ a]
  | [], cur, _ => by simp [splitGo]
  | x :: a, cur, h => by
    have hx : x ≠ c := fun e => h (by simp [e])
    simp only [splitGo, if_neg hx]
    rw [splitGo_none a (cur ++ [x]) (fun e => h (.tail _ e))]
    simp
theorem splitNl_sep {c : UInt8} (a b : List UInt8) : splitNl c (a ++ c :: b) = splitNl c a ++ splitNl c b := splitGo_sep a [] b
theorem splitNl_none {c : UInt8} {a : List UInt8} (h : c ∉ a) : splitNl c a = [a] := by
  unfold splitNl; rw [splitGo_none a [] h]; rfl

section
variable (mk : List UInt8)
/- a line that parts nothing, as the law asks it behind a strip of carriage returns too -/
def Free (p : List UInt8) : Prop := rstrip [32, 9, 13] p ≠ mk ∧ rstrip [32, 9, 13] p ≠ mk ++ [45, 45]
def Clean (t : List UInt8) : Prop := ∀ p ∈ splitNl 10 t, Free mk p
/- a text to which one more free line may be laid -/
def Open (t : List UInt8) : Prop := ∀ q, (10 : UInt8) ∉ q → Free mk q → Clean mk (t ++ q)
end
section
variable {mk : List UInt8}
theorem free_nil (h : mk ≠ []) : Free mk [] := ⟨by rw [rstrip_nil]; exact fun e => h e.symm, by rw [rstrip_nil]; simp⟩
theorem clean_one {q : List UInt8} (h : (10 : UInt8) ∉ q) (hf : Free mk q) : Clean mk q := by
  intro p hp
  rw [splitNl_none h, List.mem_singleton] at hp
  rw [hp]; exact hf
theorem clean_sep {a b : List UInt8} (ha : Clean mk a) (hb : Clean mk b) : Clean mk (a ++ 10 :: b) := by
  intro p hp
  rw [splitNl_sep, List.mem_append] at hp
  exact hp.elim (ha p) (hb p)
theorem open_nil : Open mk [] := fun q h hf => by rw [List.nil_append]; exact clean_one h hf
theorem open_clean (h : mk ≠ []) {t : List UInt8} (ho : Open mk t) : Clean mk t := by
  have := ho [] (by simp) (free_nil h)
  rwa [List.append_nil] at this
theorem open_row {t q : List UInt8} (ho : Open mk t) (hq : (10 : UInt8) ∉ q) (hf : Free mk q) : Open mk (t ++ q ++ [10]) := by
  intro z hz hfz
  rw [List.append_assoc]
  exact clean_sep (ho q hq hf) (clean_one hz hfz)
theorem free_line {ln : List UInt8} (hl : LineOk ln) (h1 : ¬ rstrip [32, 9] ln = mk) (h2 : ¬ rstrip [32, 9] ln = mk ++ [45, 45]) : Free mk ln :=
  ⟨by rw [rstrip_13 hl.2]; exact h1, by rw [rstrip_13 hl.2]; exact h2⟩
theorem free_cr {ln : List UInt8} (hl : LineOk ln) (h1 : ¬ rstrip [32, 9] ln = mk) (h2 : ¬ rstrip [32, 9] ln = mk ++ [45, 45]) : Free mk (ln ++ [13]) :=
  ⟨by rw [rstrip_13r hl.2]; exact h1, by rw [rstrip_13r hl.2]; exact h2⟩

/- the spans rise, lie within, and hold no line that parts -/
def Chain (mk d : List UInt8) (hi : Nat) : Nat → List (Nat × Nat) → Prop
  | _, [] => True
  | la, (x, y) :: r => la ≤ x ∧ x ≤ y ∧ y ≤ hi ∧ Clean mk ((d.drop x).take (y - x)) ∧ Chain mk d hi y r

theorem due_acc (mk : List UInt8) (hi : Nat) : ∀ (R : List Row) (P : List (Nat × Nat)) (g : Option Nat) (bf at_ : Nat), dueGo mk hi R P g bf at_ = P ++ dueGo mk hi R [] g bf at_
  | [], P, g, _, _ => by
    simp only [dueGo]
    cases g <;> simp [shut]
  | (ln, sz) :: r, P, g, bf, at_ => by
    have hsh : ∀ f, shut P g f = P ++ shut [] g f := by intro f; cases g <;> simp [shut]
    by_cases h1 : rstrip [32, 9] ln = mk
    · rw [due_mk h1, due_mk h1, due_acc mk hi r (shut P g _), due_acc mk hi r (shut [] g _), hsh, List.append_assoc]
    · by_cases h2 : rstrip [32, 9] ln = mk ++ [45, 45]
      · rw [due_last h1 h2, due_last h1 h2, hsh]
      · rw [due_no h1 h2, due_no h1 h2]
        exact due_acc mk hi r P g _ _

theorem cut_pre {pre rest : List UInt8} {x y : Nat} (hxy : x ≤ y) (hy : y ≤ pre.length) : ((pre ++ rest).drop x).take (y - x) = (pre.drop x).take (y - x) := by
  rw [List.drop_append_of_le_length (by omega), List.take_append_of_le_length (by rw [List.length_drop]; omega)]

def Inv (mk pre : List UInt8) (g : Option Nat) (bf la : Nat) : Prop := match g with
  | none => la ≤ pre.length
  | some x => la ≤ x ∧ x ≤ pre.length ∧ bf ≤ pre.length ∧ Open mk (pre.drop x) ∧ (bf ≤ x ∨ Clean mk ((pre.drop x).take (bf - x)))

/- a span that is shut ahead of a line that parts -/
theorem shut_chain {pre rest : List UInt8} {g : Option Nat} {bf la hi : Nat} {T : List (Nat × Nat)} (hne : mk ≠ []) (hi' : pre.length ≤ hi) (hv : Inv mk pre g bf la)
    (hT : ∀ la', la' ≤ pre.length → Chain mk (pre ++ rest) hi la' T) : Chain mk (pre ++ rest) hi la (shut [] g (fun x => max x bf) ++ T) := by
  cases g with
  | none => exact hT la hv
  | some x =>
    obtain ⟨h1, h2, h3, h4, h5⟩ := hv
    refine ⟨h1, Nat.le_max_left .., (by dsimp only; omega), ?_, hT _ (by dsimp only; omega)⟩
    dsimp only
    by_cases hb : bf ≤ x
    · have e : max x bf - x = 0 := by omega
      rw [e, List.take_zero]
      exact clean_one (by simp) (free_nil hne)
    · have e : max x bf = bf := by omega
      rw [e, cut_pre (by omega) h3]
      exact h5.resolve_left hb

theorem drop_row {pre q : List UInt8} {x : Nat} (h : x ≤ pre.length) : (pre ++ q).drop x = pre.drop x ++ q := List.drop_append_of_le_length h

theorem due_chain (hne : mk ≠ []) (tail : List UInt8) : ∀ (R : List Row) (pre : List UInt8) (g : Option Nat) (bf la hi : Nat) (d : List UInt8), Good R → d = pre ++ flat R ++ tail → hi = pre.length + (flat R).length → Inv mk pre g bf la →
    Chain mk d hi la (dueGo mk hi R [] g bf pre.length) := by
  intro R
  induction R with
  | nil =>
    intro pre g bf la hi d _ hd hh hv
    simp only [flat, List.length_nil, Nat.add_zero, List.append_nil] at hh hd
    rw [dueGo]
    cases g with
    | none => exact trivial
    | some x =>
      obtain ⟨h1, h2, h3, h4, h5⟩ := hv
      refine ⟨h1, (by dsimp only; omega), Nat.le_refl _, ?_, trivial⟩
      dsimp only
      rw [hd, cut_pre (by omega) (by omega), hh, List.take_of_length_le (by rw [List.length_drop]; exact Nat.le_refl _)]
      exact open_clean hne h4
  | cons x r ih =>
    obtain ⟨ln, sz⟩ := x
    intro pre g bf la hi d hg hd hh hv
    obtain ⟨hl, hsz, hg'⟩ := hg
    have hrest : d = pre ++ (ln ++ eol sz ++ flat r ++ tail) := by rw [hd]; simp [flat]
    have hlen : hi = pre.length + ln.length + (eol sz).length + (flat r).length := by rw [hh]; simp [flat]; omega
    have he : (eol sz).length = sz := by rcases hsz with rfl | rfl | ⟨rfl, _⟩ <;> rfl
    have hpl : (pre ++ ln ++ eol sz).length = pre.length + ln.length + sz := by simp [he]; omega
    have hd2 : d = pre ++ ln ++ eol sz ++ flat r ++ tail := by rw [hd]; simp [flat]
    by_cases h1 : rstrip [32, 9] ln = mk
    · rw [due_mk h1, due_acc, hrest]
      refine shut_chain hne (by omega) hv fun la' hla' => ?_
      rw [← hrest, ← hpl]
      refine ih (pre ++ ln ++ eol sz) (some (pre ++ ln ++ eol sz).length) (pre.length + ln.length) la' hi d hg' hd2 (by rw [hpl]; omega) ⟨by rw [hpl]; omega, Nat.le_refl _, by rw [hpl]; omega, ?_, .inl (by rw [hpl]; omega)⟩
      rw [List.drop_length]; exact open_nil
    · by_cases h2 : rstrip [32, 9] ln = mk ++ [45, 45]
      · rw [due_last h1 h2, hrest]
        have := shut_chain (hi := hi) (T := []) (rest := ln ++ eol sz ++ flat r ++ tail) hne (by omega) hv fun la' _ => trivial
        rw [List.append_nil] at this
        exact this
      · rw [due_no h1 h2]
        cases g with
        | none =>
          rw [← hpl]
          exact ih (pre ++ ln ++ eol sz) none _ la hi d hg' hd2 (by rw [hpl]; omega) (by show la ≤ _; have : la ≤ pre.length := hv; rw [hpl]; omega)
        | some x =>
          obtain ⟨k1, k2, k3, k4, k5⟩ := hv
          rcases hsz with rfl | rfl | ⟨rfl, rfl⟩
          · rw [← hpl]
            refine ih (pre ++ ln ++ eol 1) (some x) _ la hi d hg' hd2 (by rw [hpl]; omega) ⟨k1, by rw [hpl]; omega, by rw [hpl]; omega, ?_, .inr ?_⟩
            · rw [List.append_assoc, drop_row k2, ← List.append_assoc]
              exact open_row k4 hl.1 (free_line hl h1 h2)
            · rw [List.append_assoc, drop_row k2, ← List.append_assoc, List.take_append_of_le_length (by simp; omega), List.take_of_length_le (by simp; omega)]
              exact k4 ln hl.1 (free_line hl h1 h2)
          · rw [← hpl]
            refine ih (pre ++ ln ++ eol 2) (some x) _ la hi d hg' hd2 (by rw [hpl]; omega) ⟨k1, by rw [hpl]; omega, by rw [hpl]; omega, ?_, .inr ?_⟩
            · have e : pre ++ ln ++ eol 2 = pre ++ ((ln ++ [13]) ++ [10]) := by simp [eol]
              rw [e, drop_row k2, ← List.append_assoc]
              exact open_row k4 (by simp [hl.1]) (free_cr hl h1 h2)
            · rw [List.append_assoc, drop_row k2, ← List.append_assoc, List.take_append_of_le_length (by simp; omega), List.take_of_length_le (by simp; omega)]
              exact k4 ln hl.1 (free_line hl h1 h2)
          · rw [dueGo]
            refine ⟨k1, (by dsimp only; omega), Nat.le_refl _, ?_, trivial⟩
            dsimp only
            have e : hi = (pre ++ ln).length := by rw [hlen]; simp [eol, flat]
            have hd3 : d = (pre ++ ln) ++ tail := by rw [hd]; simp [flat, eol]
            rw [hd3, cut_pre (by omega) (by omega), e, List.take_of_length_le (by rw [List.length_drop]; exact Nat.le_refl _), drop_row k2]
            exact k4 ln hl.1 (free_line hl h1 h2)
end
end Mine

/- NK -/
namespace Mine

section
variable {prog : Program} {w : World} {A : Around} {E : Value → Shared → Prop} {s : Shared} {env : Env} {h₀ : Heap} {x : Str} {px : Pos} {body : List Stmt} {Q : Flow → Shared → Prop}
theorem iter_R {r : Addr} {a₀ b₀ : Int} {t₀ u₀ v₀ : Tok} {n : Nat} {m₀ : Str → Option Value} {news : List (Addr × Obj)} (J : Nat → (Str → Option Value) → List (Addr × Obj) → Prop)
    (hh : A.handled = none) (hr : IsRange s.heap r a₀ b₀ 1 t₀ u₀ v₀) (hsmall : Builtin.Range.small a₀ b₀ 1 = true) (hsz : Builtin.Range.rangeSize a₀ b₀ 1 = (n : Int)) (F : Fr h₀ env.locals s.heap m₀) (N : News h₀ env.locals s.heap news) (hj : J 0 m₀ news)
    (turn : ∀ I oI i v m₁ news₁ h tk, i < n → J i m₁ news₁ → (∀ p ∈ news₁, p.1 ≠ I) → Fr h₀ env.locals h m₁ → News h₀ env.locals h ((I, oI) :: news₁) →
      wpAny (model prog w) A (assign (.Name x px) env v) (fun _ s₃ => wpAny (model prog w) A (execs body env) (TurnP h₀ env.locals I oI (J (i + 1)) { s with heap := h, toks := tk } Q) E s₃) E { s with heap := h, toks := tk })
    (done : ∀ m₁ news₁ h tk, J n m₁ news₁ → Fr h₀ env.locals h m₁ → News h₀ env.locals h news₁ → Q .next { s with heap := h, toks := tk }) :
    wpAny (model prog w) A (pyIter (.ref r)) (fun it s₂ => TurnsAt prog w A h₀ env (.Name x px) body Q E it s₂) E s := by
  refine wpAny_pyIter_range hr hsmall ?_
  have W := KTurns.ofWalks (target := .Name x px) (Walks.range (prog := prog) (w := w) hh s.heap.objs.size a₀ 1 n) fun i v s Q E st q => by
    rw [show letOwnedTupleGo (.Name x px) (.ref _) v = pure () from rfl]; exact wpAny_pure q
  refine ⟨_, _, _, n, _, _, _, m₀, news, J, rfl, W, ?_, ?_, ?_, (by show IsRangeIter _ _ _ _ _; rw [hsz]; simpa using Heap.get?_push_size _ rfl), F.push _, (fun p hp => ⟨Heap.get?_push_of_some _ (N p hp).1, (N p hp).2⟩), hj, ?_, ?_⟩
  · intro hm
    exact absurd F.ns.lt ((List.mem_singleton.mp hm) ▸ Nat.lt_irrefl _)
  · intro b hb
    rw [List.mem_singleton.mp hb]
    exact next_is_new F
  · intro p hp hI
    exact absurd (Heap.lt_size (N p hp).1) ((List.mem_singleton.mp hI) ▸ Nat.lt_irrefl _)
  · intro i v m₁ news₁ h₁ tk₁ own hin hP hJ hoff hown hget hall hst F₁ N₁
    have hI0 : h₀.get? s.heap.objs.size = none := next_is_new F
    obtain ⟨oI, hoI⟩ : ∃ oI, h₁.get? s.heap.objs.size = some oI := ⟨_, hst⟩
    have hIown : (s.heap.objs.size, oI) ∈ own := hall _ (List.mem_singleton.mpr rfl) hI0 _ hoI
    have hoff' : ∀ p ∈ news₁, p.1 ≠ s.heap.objs.size := fun p hp e => hoff p hp (by rw [e]; exact List.mem_singleton.mpr rfl)
    have N₂ : News h₀ env.locals h₁ ((s.heap.objs.size, oI) :: news₁) := fun p hp => by
      rcases List.mem_cons.mp hp with rfl | hp
      · exact N₁ _ (List.mem_append_left _ hIown)
      · exact N₁ _ (List.mem_append_right _ hp)
    have fin : ∀ s₃, (∃ h' tk m' nx, s₃ = { ({ s with heap := h₁, toks := tk₁ } : Shared) with heap := h', toks := tk } ∧ Fr h₀ env.locals h' m' ∧ News h₀ env.locals h' ((s.heap.objs.size, oI) :: nx) ∧ (∀ p ∈ nx, p.1 ≠ s.heap.objs.size) ∧ J (i + 1) m' nx) →
        LoopStepU h₀ env.locals [s.heap.objs.size] own (J (i + 1)) { s with heap := h₁, toks := tk₁ } .next s₃ := by
      rintro s₃ ⟨h', tk, m', nx, e, F', N', ho, hj'⟩
      refine ⟨rfl, h', tk, m', nx, e, F', ?_, ?_, hj'⟩
      · rintro ⟨pa, po⟩ hp
        rcases List.mem_append.mp hp with hp | hp
        · have h2 : h₁.get? pa = some po := hget _ hp
          have h3' : pa = s.heap.objs.size := List.mem_singleton.mp (hown _ hp)
          subst h3'
          have h6 : oI = po := Option.some.inj (hoI.symm.trans h2)
          subst h6
          exact N' _ (.head _)
        · exact N' _ (.tail _ hp)
      · intro p hp hI
        exact ho p hp (List.mem_singleton.mp hI)
    refine wpAny_mono (turn _ oI i v m₁ news₁ h₁ tk₁ hin hJ hoff' F₁ N₂) (fun _ s₂ h₂ => wpAny_mono h₂ (fun f s₃ p => ?_) fun _ _ e => e) fun _ _ e => e
    cases f with
    | ret v => exact .ret p
    | brk => exact .brk p
    | next => exact .next (fin _ p)
    | cont => exact .cont (fin _ p)
  · intro h' tk m' news' F' N' _ hJ
    exact done m' news' h' tk hJ F' N'
end

section
variable {prog : Program} {w : World} {A : Around} {E : Value → Shared → Prop} {s : Shared} {h₀ : Heap} {L : Addr} {m : PySem.Str → Option Value} {value slice : PySem.Expr} {K : Frag}
theorem menu_K {tp : Addr} {o : Obj} {vs : List Value} {i : Int} {ui : Tok} {n : Nat} {P : List UInt8 → Prop} {Q : Value → Shared → Prop} (F : Fr h₀ L s.heap m) (X : K.In h₀) (hk : K.lookup tp = some o) (hc : o.cls = .type "tuple") (hd : o.data = .seq vs.toArray n)
    (h0 : 0 ≤ i) (h1 : i < (vs.length : Int)) (hv : vs.length < 1000) (hall : ∀ x ∈ vs, ∃ ln t, x = Value.bytes (List.toArray ln) t ∧ P ln) (h : ∀ ln t, P ln → Q (.bytes (List.toArray ln) t) s)
    (hs : subscripted slice false (.ref tp) (.int i ui) = operate [.ref tp, .int i ui] (getItem (.ref tp) (.int i ui)) := by with_unfolding_all rfl) :
    wpAny (model prog w) A (subscriptTail value slice (.ref tp) (.int i ui)) Q E s := by
  have hlt : i.toNat < vs.length := by omega
  have hx : vs[i.toNat]? = some vs[i.toNat] := by simp [hlt]
  obtain ⟨ln, t, e, hp⟩ := hall _ (List.mem_of_getElem? hx)
  rw [e] at hx
  refine item_tupleT (j := i.toNat) ⟨o, F.keep _ _ (X _ _ hk), hc, n, hd⟩ (by omega) (by omega) ?_ hx (h ln t hp) hs
  have hn : ¬ i < 0 := by omega
  unfold seqIndex?
  simp only [if_neg hn]
  rw [if_pos (by simp; omega)]
end
end Mine

/- NM -/
namespace Mine

section
variable {prog : Program} {w : World} {A : Around} {E : Value → Shared → Prop} {s : Shared} {h₀ : Heap} {L : Addr} {news : List (Addr × Obj)}
theorem ne_nil_K {l b : Addr} {vs : List Value} {n n2 : Nat} {Q : Value → Shared → Prop} (N : News h₀ L s.heap news) (hl : (l, listOf vs.toArray n) ∈ news) (hb : (b, listOf ([] : List Value).toArray n2) ∈ news) (hu : A.units < cLine)
    (h1 : vs = [] → Q (.bool false) s) (h2 : vs ≠ [] → Q (.bool true) s) : wpAny (model prog w) A (compareOp .NotEq (.ref l) (.ref b)) Q E s := by
  refine cmp_ofNotEq ?_
  by_cases hv : vs = []
  · have := SeqAt.RcNeAt.lists (e := fun _ => true) (News.isList N hl) (News.isList N hb) (by rw [hv]) hu (fun j hj _ => by rw [hv] at hj; exact absurd hj (Nat.not_lt_zero _))
    refine this prog w E Q ?_
    have e : (!(List.range vs.toArray.size).all fun _ => true) = false := by rw [hv]; rfl
    rw [e]; exact h1 hv
  · have hs : (vs.toArray.size != ([] : List Value).toArray.size) = true := by
      cases vs with
      | nil => exact absurd rfl hv
      | cons a r => simp
    exact SeqAt.RcNeAt.lists_lengths (News.isList N hl) (News.isList N hb) hs hu prog w E Q (h2 hv)
theorem item_last {l : Addr} {xs : List Value} {x : Value} {n : Nat} {u : Tok} {value slice : PySem.Expr} {Q : Value → Shared → Prop} (N : News h₀ L s.heap news) (hl : (l, listOf (xs ++ [x]).toArray n) ∈ news) (h : Q x s)
    (hs : subscripted slice false (.ref l) (.int (-1) u) = operate [.ref l, .int (-1) u] (getItem (.ref l) (.int (-1) u)) := by with_unfolding_all rfl) :
    wpAny (model prog w) A (subscriptTail value slice (.ref l) (.int (-1) u)) Q E s := by
  refine kde_neg (j := xs.length) (News.isList N hl) (by decide) (by decide) ?_ (by simp) h hs
  unfold seqIndex?
  simp
  omega
theorem set_last {m : Str → Option Value} {l : Addr} {xs : List Value} {x v : Value} {n : Nat} {t : Tok} {news' : List (Addr × Obj)} {Q : Unit → Shared → Prop} (F : Fr h₀ L s.heap m) (N : News h₀ L s.heap news)
    (U : Upd l (listOf (xs ++ [x]).toArray n) (listOf (xs ++ [v]).toArray n) news news') (h : ∀ h', Fr h₀ L h' m → News h₀ L h' news' → Q () { s with heap := h' }) :
    wpAny (model prog w) A (setItem (.ref l) (.int (-1) t) v) Q E s := by
  refine ki_setNeg (j := xs.length) F N (by decide) (by decide) ?_ ?_ U h
  · unfold seqIndex?
    simp
    omega
  · clear U h N F
    induction xs with
    | nil => rfl
    | cons a r ih =>
      simp only [List.cons_append, List.length_cons] at ih ⊢
      rw [ki_setL, ih]
end

theorem last_row {tl : List (Addr × Obj)} {rvs : List Value} {R : List Row} (hd : DatAll tl rvs (R.map rowD)) (hne : rvs ≠ []) :
    ∃ R0 ln sz rvs0 T n t1 t2, R = R0 ++ [(ln, sz)] ∧ rvs = rvs0 ++ [Value.ref T] ∧ (T, ({ cls := .type "tuple", data := .seq #[Value.bytes (List.toArray ln) t1, Value.int (sz : Nat) t2] n } : Obj)) ∈ tl ∧ DatAll tl rvs0 (R0.map rowD) := by
  have hl : rvs.length = (R.map rowD).length := hd.length
  have hR : R ≠ [] := by
    intro e
    rw [e] at hl
    exact hne (List.length_eq_zero_iff.mp hl)
  obtain ⟨R0, ⟨ln, sz⟩, rfl⟩ : ∃ R0 x, R = R0 ++ [x] := ⟨R.dropLast, R.getLast hR, (List.dropLast_concat_getLast hR).symm⟩
  obtain ⟨rvs0, v, rfl⟩ : ∃ r0 x, rvs = r0 ++ [x] := ⟨rvs.dropLast, rvs.getLast hne, (List.dropLast_concat_getLast hne).symm⟩
  obtain ⟨es, d, he, h1, h2⟩ := hd.snoc
  rw [List.map_append, List.map_singleton] at he
  obtain ⟨e1, e2⟩ := List.append_inj' he rfl
  subst e1
  obtain rfl := (List.cons.inj e2).1
  obtain ⟨T, n, t1, t2, rfl, hm⟩ := row_cases h2
  exact ⟨R0, ln, sz, rvs0, T, n, t1, t2, rfl, rfl, hm, h1⟩

theorem good_all : ∀ {R : List Row}, (∀ x ∈ R, LineOk x.1 ∧ (x.2 = 1 ∨ x.2 = 2)) → Good R
  | [], _ => trivial
  | (ln, sz) :: r, h => by
    obtain ⟨h1, h2⟩ := h _ (.head _)
    exact ⟨h1, h2.elim .inl fun e => .inr (.inl e), good_all fun x hx => h x (.tail _ hx)⟩
theorem good_last {ln : List UInt8} (hl : LineOk ln) : ∀ {R : List Row}, (∀ x ∈ R, LineOk x.1 ∧ (x.2 = 1 ∨ x.2 = 2)) → Good (R ++ [(ln, 0)])
  | [], _ => ⟨hl, .inr (.inr ⟨rfl, rfl⟩), trivial⟩
  | (l', sz) :: r, h => by
    obtain ⟨h1, h2⟩ := h _ (.head _)
    exact ⟨h1, h2.elim .inl fun e => .inr (.inl e), good_last hl fun x hx => h x (.tail _ hx)⟩
theorem cut_last {R : List Row} {ln : List UInt8} {sz : Nat} (hs : sz = 1 ∨ sz = 2) : (flat (R ++ [(ln, sz)])).take ((flat (R ++ [(ln, sz)])).length - sz) = flat (R ++ [(ln, 0)]) := by
  have he : (eol sz).length = sz := by rcases hs with rfl | rfl <;> rfl
  have e : flat (R ++ [(ln, sz)]) = (flat R ++ ln) ++ eol sz := by rw [flat_append]; simp [flat]
  have e0 : flat (R ++ [(ln, 0)]) = flat R ++ ln := by rw [flat_append]; simp [flat, eol]
  rw [e, e0]
  have : (flat R ++ ln ++ eol sz).length - sz = (flat R ++ ln).length := by simp [he]; omega
  rw [this, List.take_left']
  rfl

section
variable {prog : Program} {w : World} {A : Around} {E : Value → Shared → Prop} {s : Shared} {h₀ : Heap} {L : Addr} {news : List (Addr × Obj)}
theorem in_two_no {tp : Addr} {a b x : List UInt8} {t u t' : Tok} {n : Nat} {Q : Value → Shared → Prop} (N : News h₀ L s.heap news) (hm : (tp, { cls := .type "tuple", data := .seq #[Value.bytes a.toArray t, Value.bytes b.toArray u] n }) ∈ news)
    (h1 : x ≠ a) (h2 : x ≠ b) (h : Q (.bool false) s) : wpAny (model prog w) A (compareOp .In (.bytes x.toArray t') (.ref tp)) Q E s := by
  have hT : s.heap.IsTuple tp #[Value.bytes a.toArray t, Value.bytes b.toArray u] := ⟨_, (N _ hm).1, rfl, n, rfl⟩
  refine SeqAt.in_tupleAt (fun _ => false) hT (fun y hy => ?_) (by simpa using h)
  have hy' : y = Value.bytes a.toArray t ∨ y = Value.bytes b.toArray u := by simpa using hy
  intro prog w E Q hq
  rcases hy' with rfl | rfl
  · refine eqBool_bytes ?_
    rw [show decide (a.toArray.toList = x.toArray.toList) = false from decide_eq_false (by simpa using fun e : a = x => h1 e.symm)]
    exact hq
  · refine eqBool_bytes ?_
    rw [show decide (b.toArray.toList = x.toArray.toList) = false from decide_eq_false (by simpa using fun e : b = x => h2 e.symm)]
    exact hq
end
theorem bytes_get {vs : List Value} {ps : List (List UInt8)} (h : BytesAre vs ps) : ∀ {i : Nat} {v : Value}, vs[i]? = some v → ∃ p t, v = Value.bytes (List.toArray p) t ∧ p ∈ ps := by
  induction h with
  | nil => intro i v hv; simp at hv
  | cons t _ ih =>
    intro i v hv
    cases i with
    | zero => simp only [List.getElem?_cons_zero, Option.some.injEq] at hv; exact ⟨_, t, hv.symm, .head _⟩
    | succ i =>
      simp only [List.getElem?_cons_succ] at hv
      obtain ⟨p, t, e, hm⟩ := ih hv
      exact ⟨p, t, e, .tail _ hm⟩
theorem kok_duo : ∀ (P : List (Nat × Nat)), ∀ d ∈ P.map duo, kqdOk 8 d = true := by
  intro P d hd
  obtain ⟨x, _, rfl⟩ := List.mem_map.mp hd
  rfl

theorem duo_cases {tl : List (Addr × Obj)} {v : Value} {x : Nat × Nat} (h : DatIn tl v (duo x)) :
    ∃ T n t1 t2, v = .ref T ∧ (T, ({ cls := .type "tuple", data := .seq #[Value.int x.1 t1, Value.int x.2 t2] n } : Obj)) ∈ tl := by
  unfold duo at h
  cases h with
  | tuple hm hd =>
    cases hd with
    | cons h1 hd => cases hd with
      | cons h2 hd =>
        cases hd; cases h1; cases h2
        exact ⟨_, _, _, _, rfl, hm⟩

section
variable {M : Model} {A : Around} {E : Value → Shared → Prop} {s : Shared}
theorem test_link' {pos : Pos} {a : Value} {op op' : CmpOp} {ops : List CmpOp} {r : Sem Value} {e : PySem.Expr} {es : List PySem.Expr} {env : Env} {Q : Bool → Shared → Prop}
    (h : wpAny M A r (fun b s₁ => wpAny M A (compareOp op a b) (fun c s₂ => wpAny M A (truthy c)
      (fun t s₃ => if t then wpAny M A (testChain pos b (op' :: ops) (eval e env :: evalEach es env)) Q E s₃ else Q false s₃) E s₂) E s₁) E s) :
    wpAny M A (testChain pos a (op :: op' :: ops) (r :: evalEach (e :: es) env)) Q E s := by
  have e1 : evalEach (e :: es) env = eval e env :: evalEach es env := by rw [evalEach]
  rw [e1]
  exact test_link h
theorem test_last' {pos : Pos} {a : Value} {op : CmpOp} {r : Sem Value} {env : Env} {Q : Bool → Shared → Prop}
    (h : wpAny M A r (fun b s₁ => wpAny M A (compareOp op a b) (fun c s₂ => wpAny M A (truthy c) Q E s₂) E s₁) E s) : wpAny M A (testChain pos a [op] (r :: evalEach [] env)) Q E s := by
  have e1 : evalEach [] env = [] := by rw [evalEach]
  rw [e1]
  exact test_last h
end
end Mine

/- NL -/
namespace Mine

def bnds : List (List UInt8) := [[97], [97, 45], [45, 45], [97, 32, 98], [61, 95, 120], [97, 45, 45], [120]]


theorem bnds_ok : ∀ b ∈ bnds, (∀ ln ∈ lineOpts ([45, 45] ++ b), (10 : UInt8) ∉ ln ∧ (13 : UInt8) ∉ ln ∧ ln.length ≤ 16) ∧ rstrip [32, 9] ([45, 45] ++ b) = [45, 45] ++ b ∧ b.length ≤ 4 := by decide
theorem flat_len : ∀ {R : List Row}, (∀ x ∈ R, x.1.length ≤ 16 ∧ (x.2 = 1 ∨ x.2 = 2)) → (flat R).length ≤ 18 * R.length
  | [], _ => Nat.le_refl _
  | (ln, sz) :: r, h => by
    have h1 := h _ (.head _)
    have h2 := flat_len fun x hx => h x (.tail _ hx)
    have h3 : (eol sz).length ≤ 2 := by rcases h1.2 with e | e <;> (dsimp only at e; rw [e]; decide)
    simp only [flat, List.length_append, List.length_cons] at h1 ⊢
    omega
theorem flat_snoc {R : List Row} {ln : List UInt8} {sz : Nat} : flat (R ++ [(ln, sz)]) = flat R ++ ln ++ eol sz := by
  rw [flat_append]; simp [flat]

def PIf (s₁ : Shared) (ra tape cells : Addr) (vs : List Value) (n₁ n₂ : Nat) (mk bnd : List UInt8) (tm tb : Tok) (f : Flow) (s' : Shared) : Prop := f = Flow.next ∧
  ∃ (h' : Heap) (tk : Nat) (m : Str → Option Value) (R : List Row) (rvs : List Value) (rk : Nat) (k : Int) (t0 td : Tok) (rest tl : List (Addr × Obj)),
  s' = { s₁ with heap := h', toks := tk } ∧ Fr s₁.heap s₁.heap.objs.size h' m ∧ News s₁.heap s₁.heap.objs.size h' ((ra, listOf rvs.toArray rk) :: (tape, listOf #[.ref cells, .int k t0] n₁) :: (cells, listOf vs.toArray n₂) :: rest) ∧
  (∀ p ∈ tl, p ∈ rest) ∧ (∀ p ∈ rest, @Ne Nat p.1 tape) ∧ DatAll tl rvs (R.map rowD) ∧ Good R ∧ (∀ x ∈ R, x.1.length ≤ 16) ∧ R.length ≤ 10 ∧ (flat R).length ≤ 1000 ∧ 0 ≤ k ∧ k ≤ 30 ∧
  m (Str.ofString "tape") = some (.ref tape) ∧ m (Str.ofString "mark") = some (.bytes mk.toArray tm) ∧ m (Str.ofString "rows") = some (.ref ra) ∧ (∃ dt, dt = flat R ∧ m (Str.ofString "data") = some (.bytes (List.toArray dt) td)) ∧ m (Str.ofString "boundary") = some (.bytes bnd.toArray tb)
def PTape (s₁ : Shared) (f : Flow) (s' : Shared) : Prop := f = Flow.next ∧ ∃ (h' : Heap) (tk : Nat) (m : Str → Option Value) (tape cells : Addr) (vs : List Value) (n₁ n₂ : Nat) (ns : List Int) (t0 : Tok),
  s' = { s₁ with heap := h', toks := tk } ∧ Fr s₁.heap s₁.heap.objs.size h' m ∧ m (Str.ofString "tape") = some (.ref tape) ∧
  IntsAre vs ns ∧ 0 < ns.length ∧ ns.length ≤ 63 ∧ @Ne Nat cells tape ∧ News s₁.heap s₁.heap.objs.size h' [(tape, listOf #[.ref cells, .int 0 t0] n₁), (cells, listOf vs.toArray n₂)]
theorem pre2 {a b : Addr × Obj} {r : List (Addr × Obj)} : ∀ p ∈ [a, b], p ∈ a :: b :: r := by
  intro p hp
  rcases List.mem_cons.mp hp with rfl | hp
  · exact .head _
  · rw [List.mem_singleton.mp hp]; exact .tail _ (.head _)

theorem perm1 {r t c : Addr × Obj} {X : List (Addr × Obj)} : ∀ p ∈ t :: c :: r :: X, p ∈ r :: t :: c :: X := by
  intro p hp
  rcases List.mem_cons.mp hp with rfl | hp
  · exact .tail _ (.head _)
  rcases List.mem_cons.mp hp with rfl | hp
  · exact .tail _ (.tail _ (.head _))
  rcases List.mem_cons.mp hp with rfl | hp
  · exact .head _
  · exact .tail _ (.tail _ (.tail _ hp))
theorem perm2 {r t c : Addr × Obj} {X : List (Addr × Obj)} : ∀ p ∈ r :: t :: c :: X, p ∈ t :: c :: r :: X := by
  intro p hp
  rcases List.mem_cons.mp hp with rfl | hp
  · exact .tail _ (.tail _ (.head _))
  rcases List.mem_cons.mp hp with rfl | hp
  · exact .head _
  rcases List.mem_cons.mp hp with rfl | hp
  · exact .tail _ (.head _)
  · exact .tail _ (.tail _ (.tail _ hp))

theorem row_shut {h₀ h : Heap} {L ra tape cells D : Addr} {oT oC : Obj} {x9 : Addr × Obj} {tl rest : List (Addr × Obj)} {rvs : List Value} {R : List Row} {ln : List UInt8} {k n : Nat} {t u : Tok}
    (kN : News h₀ L h ((D, { cls := .type "tuple", data := .seq #[Value.bytes ln.toArray t, Value.int 0 u] n }) :: (ra, listOf (rvs ++ [Value.ref D]).toArray k) :: (tape, oT) :: (cells, oC) :: x9 :: rest))
    (l1 : ra < D ∧ tape < D ∧ cells < D ∧ x9.1 < D ∧ AllLt D rest) (hb2 : ∀ p ∈ tl, p ∈ rest) (hb4 : ∀ p ∈ rest, @Ne Nat p.1 tape) (hd2 : DatAll tl rvs (R.map rowD)) :
    ∃ rvs' rest' tl', News h₀ L h ((ra, listOf rvs'.toArray k) :: (tape, oT) :: (cells, oC) :: rest') ∧ (∀ p ∈ tl', p ∈ rest') ∧ (∀ p ∈ rest', @Ne Nat p.1 tape) ∧ DatAll tl' rvs' ((R ++ [(ln, 0)]).map rowD) := by
  refine ⟨rvs ++ [Value.ref D], (D, { cls := .type "tuple", data := .seq #[Value.bytes ln.toArray t, Value.int 0 u] n }) :: rest, (D, { cls := .type "tuple", data := .seq #[Value.bytes ln.toArray t, Value.int 0 u] n }) :: tl, ?_, ?_, ?_, ?_⟩
  · refine news_sub kN fun p hp => ?_
    rcases List.mem_cons.mp hp with rfl | hp
    · exact .tail _ (.head _)
    rcases List.mem_cons.mp hp with rfl | hp
    · exact .tail _ (.tail _ (.head _))
    rcases List.mem_cons.mp hp with rfl | hp
    · exact .tail _ (.tail _ (.tail _ (.head _)))
    rcases List.mem_cons.mp hp with rfl | hp
    · exact .head _
    · exact .tail _ (.tail _ (.tail _ (.tail _ (.tail _ hp))))
  · intro p hp
    rcases List.mem_cons.mp hp with rfl | hp
    · exact .head _
    · exact .tail _ (hb2 p hp)
  · intro p hp
    rcases List.mem_cons.mp hp with rfl | hp
    · exact Nat.ne_of_gt l1.2.1
    · exact hb4 p hp
  · rw [List.map_append]
    exact grow_dat (items := [Value.bytes ln.toArray t, Value.int 0 u]) hd2 (.cons (.bytes _ _) (.cons (.int _ _) .nil))
theorem row_more {h₀ h : Heap} {L ra tape cells D D2 I : Addr} {oT oC o2 oI : Obj} {tl rest : List (Addr × Obj)} {rvs : List Value} {R : List Row} {ln : List UInt8} {sz k n : Nat} {x : Int} {t u : Tok}
    (kN : News h₀ L h ((D2, o2) :: (D, { cls := .type "tuple", data := .seq #[Value.bytes ln.toArray t, Value.int x u] n }) :: (ra, listOf (rvs ++ [Value.ref D]).toArray k) :: (tape, oT) :: (cells, oC) :: (I, oI) :: rest))
    (l1 : ra < D ∧ tape < D ∧ cells < D ∧ I < D ∧ AllLt D rest) (hb2 : ∀ p ∈ tl, p ∈ rest) (hb3 : ∀ p ∈ rest, @Ne Nat p.1 ra) (hb4 : ∀ p ∈ rest, @Ne Nat p.1 tape) (hd2 : DatAll tl rvs (R.map rowD)) (hx : x = sz)
    (hrI : @Ne Nat ra I) (htI : @Ne Nat tape I) (hcI : @Ne Nat cells I) (hI : ∀ p ∈ rest, p.1 ≠ I) :
    ∃ rvs' rest' tl', News h₀ L h ((I, oI) :: (ra, listOf rvs'.toArray k) :: (tape, oT) :: (cells, oC) :: rest') ∧ (∀ p ∈ tl', p ∈ rest') ∧ (∀ p ∈ rest', @Ne Nat p.1 ra) ∧ (∀ p ∈ rest', @Ne Nat p.1 tape) ∧ DatAll tl' rvs' ((R ++ [(ln, sz)]).map rowD) ∧
      ∀ p ∈ (ra, listOf rvs'.toArray k) :: (tape, oT) :: (cells, oC) :: rest', p.1 ≠ I := by
  subst hx
  refine ⟨rvs ++ [Value.ref D], (D, { cls := .type "tuple", data := .seq #[Value.bytes ln.toArray t, Value.int sz u] n }) :: rest, (D, { cls := .type "tuple", data := .seq #[Value.bytes ln.toArray t, Value.int sz u] n }) :: tl, ?_, ?_, ?_, ?_, ?_, ?_⟩
  · refine news_sub kN fun p hp => ?_
    rcases List.mem_cons.mp hp with rfl | hp
    · exact .tail _ (.tail _ (.tail _ (.tail _ (.tail _ (.head _)))))
    rcases List.mem_cons.mp hp with rfl | hp
    · exact .tail _ (.tail _ (.head _))
    rcases List.mem_cons.mp hp with rfl | hp
    · exact .tail _ (.tail _ (.tail _ (.head _)))
    rcases List.mem_cons.mp hp with rfl | hp
    · exact .tail _ (.tail _ (.tail _ (.tail _ (.head _))))
    rcases List.mem_cons.mp hp with rfl | hp
    · exact .tail _ (.head _)
    · exact .tail _ (.tail _ (.tail _ (.tail _ (.tail _ (.tail _ hp)))))
  · intro p hp
    rcases List.mem_cons.mp hp with rfl | hp
    · exact .head _
    · exact .tail _ (hb2 p hp)
  · intro p hp
    rcases List.mem_cons.mp hp with rfl | hp
    · exact Nat.ne_of_gt l1.1
    · exact hb3 p hp
  · intro p hp
    rcases List.mem_cons.mp hp with rfl | hp
    · exact Nat.ne_of_gt l1.2.1
    · exact hb4 p hp
  · rw [List.map_append]
    exact grow_dat (items := [Value.bytes ln.toArray t, Value.int sz u]) hd2 (.cons (.bytes _ _) (.cons (.int _ _) .nil))
  · intro p hp
    rcases List.mem_cons.mp hp with rfl | hp
    · exact hrI
    rcases List.mem_cons.mp hp with rfl | hp
    · exact htI
    rcases List.mem_cons.mp hp with rfl | hp
    · exact hcI
    rcases List.mem_cons.mp hp with rfl | hp
    · exact Nat.ne_of_gt l1.2.2.2.1
    · exact hI p hp

section
local macro_rules | `(tactic| k_all) => `(tactic| with_reducible assumption)
local macro_rules | `(tactic| walk_at "call ref") => `(tactic| (refine Hold.of ?_))
local macro_rules | `(tactic| walk_at "call builtin:list.append") => `(tactic| (k_here; (with_reducible show wpAny _ _ (call (Value.builtin _) [Value.ref _, _]) _ _ _); k_dflt (refine' append_K ?k1 ?k2 ?k3 ?_ ?z; (case k1 => k_asm); (case k2 => k_asm); (case k3 => k_upd); (case z => (rw [List.size_toArray, sizeLine_eq]; omega)); k_whole); intro h' F' N'; (try simp only [List.push_toArray] at N')))
local macro_rules | `(tactic| walk_at "subscriptTail Tuple cons Call ref int") => `(tactic| (refine Hold.of ?_))
local macro_rules | `(tactic| walk_at "exec For Tuple Name cons nil") => `(tactic| (k_here; (rename Fr _ _ _ _ => lF'); (with_unfolding_all refine' For_turns lF' ?_)))
local macro_rules | `(tactic| walk_at "getMethod bytes") => `(tactic| (k_here; (with_reducible refine method_split ?_)))
local macro_rules | `(tactic| walk_at "getMethod bytes") => `(tactic| (k_here; (with_reducible refine method_rstrip ?_)))
local macro_rules | `(tactic| walk_at "call builtin:bytes.rstrip") => `(tactic| (k_here; (refine rstrip_K (by omega) ?_); intro _ _))
local macro_rules | `(tactic| walk_at "call builtin:bytes.split") => `(tactic| (refine Hold.of ?_))
local macro_rules | `(tactic| walk_at "compareOp In bytes ref") => `(tactic| (refine Hold.of ?_))
local macro_rules | `(tactic| walk_at "compareOp NotEq ref ref") => `(tactic| (refine Hold.of ?_))
local macro_rules | `(tactic| walk_at "subscriptTail Name UnaryOp") => `(tactic| (refine Hold.of ?_))
local macro_rules | `(tactic| walk_at "setItem ref int") => `(tactic| (refine Hold.of ?_))
local macro_rules | `(tactic| walk_at "subscriptTail") => `(tactic| ((with_reducible show wpAny _ _ (subscriptTail _ (Expr.Slice _ _ none _) (Value.bytes (List.toArray _) _) (Value.ref _)) _ _ _); (refine Hold.of ?_)))
local macro_rules | `(tactic| walk_at "call builtin:len") => `(tactic| (k_here; (with_reducible show wpAny _ _ (call (Value.builtin "len") [Value.bytes (List.toArray _) _]) _ _ _); (refine len_L (by omega) ?_); intro _ _))
local macro_rules | `(tactic| walk_at "testChain") => `(tactic| first | with_reducible refine test_link' ?_ | with_reducible refine test_last' ?_)
local macro_rules | `(tactic| walk_at "newList") => `(tactic| (refine Hold.of ?_))
local macro_rules | `(tactic| walk_at "pyIter ref") => `(tactic| (refine Hold.of ?_))
local macro_rules | `(tactic| walk_at "exec For Name Call cons nil") => `(tactic| (k_here; (rename Fr _ _ _ _ => lF'); (with_unfolding_all refine' For_turns lF' ?_)))
local macro_rules | `(tactic| walk_at "binaryOp Add bytes bytes") => `(tactic| (k_here; (with_reducible show wpAny _ _ (binaryOp Operator.Add (Value.bytes (List.toArray _) _) (Value.bytes (List.toArray _) _)) _ _ _); (refine add_L (by (try simp only [List.length_append, List.length_cons, List.length_nil]); omega) ?_); intro _ _))
local macro_rules | `(tactic| walk_at "subscriptTail Name Call") => `(tactic| (refine Hold.of ?_))
set_option maxHeartbeats 8000000 in
theorem law_holds : PySem.Challenge.rw_nz0265_01.Holds := hd (by
  w_strict (
    k_fill
    intro w s₀ s₁ mg mb G Y fa o pm cd doc dV kV ho hd hcd hD hmg hg args vals as hpre hlay hrd hwl hlo
    have KX := kIn_of Y
    k_behind G ho hd hcd hD hmg hpre hlay hrd hwl hlo cd
    -- the tape
    refine wpAny_execs_cons ?_
    refine wpAny_mono (Q := PTape s₁) ?_ ?_ (fun _ _ e => e)
    · (try k_fold)
      k_steps
      · refine Hold.out ?_
        k_dflt (refine' newList_K ?k1 ?k2 ?_; (case k1 => k_asm); (case k2 => k_asm))
        intro tape h9 F9 N9 hlt
        k_steps
        rename Fr s₁.heap s₁.heap.objs.size _ _ => kF
        rename News s₁.heap s₁.heap.objs.size _ _ => kN
        rename IntsAre _ (List.take 40 _) => hI
        exact ⟨rfl, _, _, _, _, _, _, _, _, _, _, rfl, kF, rfl, hI, by assumption, by omega, Nat.ne_of_lt (hlt _ (.head _)), news_sub kN pre2⟩
      · refine Hold.out ?_
        k_dflt (refine' newList_K ?k1 ?k2 ?_; (case k1 => k_asm); (case k2 => k_asm))
        intro cells h8 F8 N8 hlt8
        k_steps
        refine Hold.out ?_
        k_dflt (refine' newList_K ?k1 ?k2 ?_; (case k1 => k_asm); (case k2 => k_asm))
        intro tape h9 F9 N9 hlt
        k_steps
        rename Fr s₁.heap s₁.heap.objs.size _ _ => kF
        rename News s₁.heap s₁.heap.objs.size _ _ => kN
        exact ⟨rfl, _, _, _, _, _, [.int 0 _], _, _, [0], _, rfl, kF, rfl, .cons 0 _ .nil, by decide, by decide, Nat.ne_of_lt (hlt _ (.head _)), news_sub kN pre2⟩
    · rintro f s' ⟨rfl, h', tk, m, tape, cells, vs, n₁, n₂, ns, t0, rfl, F₁, hm1, hi, hn0, hn63, hne, N₁⟩
      replace F₁ := fr_ps (ps := [(Str.ofString "tape", .ref tape)]) F₁ (by simp only [List.forall_mem_cons, List.not_mem_nil, false_implies, implies_true, and_true]; exact hm1)
      dsimp only [kstB] at F₁
      dsimp only
      (try k_fold)
      k_steps
      refine Hold.out ?_
      k_dflt (refine' draw_use ?k1 ?k2 ?k3 N₁ ?k5 ?k6 ?kU ?kc hi hn0 hn63 ?k9 ?ka ?kb ?kd hne ?kg ?kh ?_; (case k1 => k_asm); (case k2 => k_asm); (case k3 => k_asm); (case k5 => k_asm); (case k6 => exact rfl); (case kU => intro _; k_upd); (case kc => k_mem); (case k9 => omega); (case ka => omega); (case kb => omega); (case kd => omega); (case kg => k_room); (case kh => ke_room))
      intro v t₁ t₂ h' tk' hv0 hv1 F' N'
      k_steps
      refine Hold.out ?_
      k_dflt (refine' menu_K (P := fun ln => ln ∈ bnds) F' KX ?k1 ?k2 ?k3 hv0 ?k4 ?k5 ?k6 ?_ ?k7; (case k1 => k_is); (case k2 => exact rfl); (case k3 => exact rfl); (case k4 => exact hv1); (case k5 => decide); (case k6 => (simp only [List.forall_mem_cons, List.not_mem_nil, false_implies, implies_true, and_true]; (repeat' apply And.intro) <;> exact ⟨_, _, rfl, by decide⟩)); (case k7 => with_unfolding_all rfl))
      intro bnd tb hbnd
      have hbl : bnd.length ≤ 4 := by
        have : ∀ b ∈ bnds, b.length ≤ 4 := by decide
        exact this _ hbnd
      k_steps
      refine Hold.out ?_
      k_dflt (refine' newList_K ?k1 ?k2 ?_; (case k1 => k_asm); (case k2 => k_asm))
      intro ra h9 F9 N9 hra
      have hrt : @LT.lt Nat _ tape ra := hra _ (.head _)
      have hrc : @LT.lt Nat _ cells ra := hra _ (.tail _ (.head _))
      k_steps
      refine Hold.out ?_
      rename Fr s₁.heap s₁.heap.objs.size _ _ => kF
      rename News s₁.heap s₁.heap.objs.size _ _ => kN
      k_dflt (refine' draw_use ?k1 kF ?k3 kN ?k5 ?k6 ?kU ?kc hi hn0 hn63 ?k9 ?ka ?kb ?kd hne ?kg ?kh ?_; (case k1 => k_asm); (case k3 => k_asm); (case k5 => k_asm); (case k6 => exact rfl); (case kU => intro _; k_upd); (case kc => k_mem); (case k9 => omega); (case ka => omega); (case kb => omega); (case kd => omega); (case kg => k_room); (case kh => ke_room))
      clear kF kN
      intro v9 t₁ t₂ h' tk' hv90 hv91 F' N'
      k_steps
      refine Hold.out ?_
      rename IsRange _ _ _ _ _ _ _ _ => hrg
      rename Fr s₁.heap s₁.heap.objs.size _ _ => kF
      rename News s₁.heap s₁.heap.objs.size _ _ => kN
      obtain ⟨mk, hmk⟩ : ∃ mk : List UInt8, mk = [45, 45] ++ bnd := ⟨_, rfl⟩
      obtain ⟨hln, hmks, _⟩ := bnds_ok _ hbnd
      rw [← hmk] at hln hmks
      have hmkl : mk.length ≤ 6 := by rw [hmk]; simp only [List.length_append, List.length_cons, List.length_nil]; omega
      refine iter_R (n := v9.toNat) (fun i m nx => ∃ (R : List Row) (rvs : List Value) (rk : Nat) (k : Int) (t0 tm td : Tok) (rest tl : List (Addr × Obj)),
        nx = (ra, listOf rvs.toArray rk) :: (tape, listOf #[.ref cells, .int k t0] n₁) :: (cells, listOf vs.toArray n₂) :: rest ∧ (∀ p ∈ tl, p ∈ rest) ∧ (∀ p ∈ rest, @Ne Nat p.1 ra) ∧ (∀ p ∈ rest, @Ne Nat p.1 tape) ∧
        DatAll tl rvs (R.map rowD) ∧ R.length ≤ i ∧ (∀ x ∈ R, x.1 ∈ lineOpts mk ∧ (x.2 = 1 ∨ x.2 = 2)) ∧ 0 ≤ k ∧ k ≤ 2 + 2 * (i : Int) ∧
        m (Str.ofString "tape") = some (.ref tape) ∧ m (Str.ofString "mark") = some (.bytes mk.toArray tm) ∧ m (Str.ofString "rows") = some (.ref ra) ∧ m (Str.ofString "data") = some (.bytes (flat R).toArray td) ∧ m (Str.ofString "boundary") = some (.bytes bnd.toArray tb)) rfl hrg (small_one (by omega) (by omega) (by omega) (by omega)) (by rw [rangeSize_nat]; congr 1; omega) kF kN ?_ ?_ ?_
      · exact ⟨[], [], 0, _, _, _, _, [], [], rfl, fun _ h => absurd h List.not_mem_nil, fun _ h => absurd h List.not_mem_nil, fun _ h => absurd h List.not_mem_nil, .nil, Nat.le_refl _, fun _ h => absurd h List.not_mem_nil, by omega, by omega, rfl, by rw [hmk]; rfl, rfl, rfl, rfl⟩
      · clear kF kN
        rintro I oI i v m₁ news₁ h₁ tk₁ hin ⟨R, rvs, rk, k, t0, tm, td, rest, tl, rfl, hb2, hb3, hb4, hd2, hRl, hRo, hk0, hk1, hm1, hm2, hm3, hm4, hm5⟩ hI F₁ N₁
        have hrI : @Ne Nat ra I := hI _ (.head _)
        have htI : @Ne Nat tape I := hI _ (.tail _ (.head _))
        have hcI : @Ne Nat cells I := hI _ (.tail _ (.tail _ (.head _)))
        have hi10 : i < 10 := by omega
        have hRf : ∀ x ∈ R, x.1.length ≤ 16 ∧ (x.2 = 1 ∨ x.2 = 2) := fun x hx => ⟨(hln _ (hRo x hx).1).2.2, (hRo x hx).2⟩
        have hfl := flat_len hRf
        have N₂ := news_sub (news' := (ra, listOf rvs.toArray rk) :: (tape, listOf #[.ref cells, .int k t0] n₁) :: (cells, listOf vs.toArray n₂) :: (I, oI) :: rest) N₁ (by
          intro p hp
          rcases List.mem_cons.mp hp with rfl | hp
          · exact .tail _ (.head _)
          rcases List.mem_cons.mp hp with rfl | hp
          · exact .tail _ (.tail _ (.head _))
          rcases List.mem_cons.mp hp with rfl | hp
          · exact .tail _ (.tail _ (.tail _ (.head _)))
          rcases List.mem_cons.mp hp with rfl | hp
          · exact .head _
          · exact .tail _ (.tail _ (.tail _ (.tail _ hp))))
        clear N₁
        replace F₁ := fr_ps (ps := [(Str.ofString "tape", .ref tape), (Str.ofString "mark", .bytes mk.toArray tm), (Str.ofString "rows", .ref ra), (Str.ofString "data", .bytes (flat R).toArray td), (Str.ofString "boundary", .bytes bnd.toArray tb)]) F₁ (by simp only [List.forall_mem_cons, List.not_mem_nil, false_implies, implies_true, and_true]; exact ⟨hm1, hm2, hm3, hm4, hm5⟩)
        dsimp only [kstB] at F₁
        clear hm1 hm2 hm3 hm4 hm5
        (try k_fold)
        k_steps
        refine Hold.out ?_
        rename Fr s₁.heap s₁.heap.objs.size _ _ => kF
        rename News s₁.heap s₁.heap.objs.size _ _ => kN
        k_dflt (refine' draw_use ?k1 kF ?k3 kN ?k5 ?k6 ?kU ?kc hi hn0 hn63 hk0 ?ka ?kb ?kd hne ?kg ?kh ?_; (case k1 => k_asm); (case k3 => k_asm); (case k5 => k_asm); (case k6 => exact rfl); (case kU => intro _; k_upd); (case kc => k_mem); (case ka => omega); (case kb => omega); (case kd => omega); (case kg => k_room); (case kh => ke_room))
        clear kF kN
        intro ve t₁ t₂ h' tk' hve0 hve1 F' N'
        k_steps
        refine Hold.out ?_
        rename Fr s₁.heap s₁.heap.objs.size _ _ => kF
        rename News s₁.heap s₁.heap.objs.size _ _ => kN
        have hnn : ∀ p ∈ (ra, listOf rvs.toArray rk) :: (I, oI) :: rest, p.1 ≠ tape := by
          intro p hp
          rcases List.mem_cons.mp hp with rfl | hp
          · exact Nat.ne_of_gt hrt
          rcases List.mem_cons.mp hp with rfl | hp
          · exact fun e => htI e.symm
          · exact hb4 p hp
        have hrl : rvs.length = (R.map rowD).length := hd2.length
        rw [List.length_map] at hrl
        k_dflt (refine' Fn.use (line_fn w tape cells vs ns n₁ n₂ (k + 1) _ _ mk ((ra, listOf rvs.toArray rk) :: (I, oI) :: rest) hi hn0 hn63 ?ka ?kb ?kd hne hnn) ?k1 kF ?k3 (news_sub kN perm1) ?k5 ?k6 ?k7 ?k8 ?_; (case ka => omega); (case kb => omega); (case kd => omega); (case k1 => k_asm); (case k3 => k_asm); (case k5 => k_asm); (case k6 => exact rfl); (case k7 => k_room); (case k8 => ke_room))
        clear kF kN
        rintro r9 news9 h9 tk9 ⟨ln, t8, t9, rfl, hlo, rfl⟩ F9 N9
        obtain ⟨hl10, hl13, hl16⟩ := hln _ hlo
        replace N9 := news_sub N9 perm2
        obtain rfl | rfl : ve = 0 ∨ ve = 1 := by omega
        · k_steps
          rename Fr s₁.heap s₁.heap.objs.size _ _ => kF
          rename News s₁.heap s₁.heap.objs.size _ _ => kN
          obtain ⟨rvs', rest', tl', N8, g2, g3, g4, g5, g6⟩ := row_more (sz := 2) kN (by assumption) hb2 hb3 hb4 hd2 (by decide) hrI htI hcI (fun p hp => hI p (.tail _ (.tail _ (.tail _ hp))))
          have hRl' : (R ++ [(ln, 2)]).length ≤ i + 1 := by rw [List.length_append, List.length_singleton]; omega
          have hRo' : ∀ x ∈ R ++ [(ln, 2)], x.1 ∈ lineOpts mk ∧ (x.2 = 1 ∨ x.2 = 2) := by
            intro x hx
            rcases List.mem_append.mp hx with hx | hx
            · exact hRo x hx
            · rw [List.mem_singleton.mp hx]; exact ⟨hlo, .inr rfl⟩
          exact ⟨_, _, _, _, rfl, kF, N8, g6, R ++ [(ln, 2)], rvs', _, k + 1 + 1, _, tm, _, rest', tl', rfl, g2, g3, g4, g5, hRl', hRo', by omega, by omega, rfl, rfl, rfl, congrArg (fun l => some (Value.bytes (List.toArray l) _)) (flat_snoc (R := R) (ln := ln) (sz := 2)).symm, rfl⟩
        · k_steps
          rename Fr s₁.heap s₁.heap.objs.size _ _ => kF
          rename News s₁.heap s₁.heap.objs.size _ _ => kN
          obtain ⟨rvs', rest', tl', N8, g2, g3, g4, g5, g6⟩ := row_more (sz := 1) kN (by assumption) hb2 hb3 hb4 hd2 (by decide) hrI htI hcI (fun p hp => hI p (.tail _ (.tail _ (.tail _ hp))))
          have hRl' : (R ++ [(ln, 1)]).length ≤ i + 1 := by rw [List.length_append, List.length_singleton]; omega
          have hRo' : ∀ x ∈ R ++ [(ln, 1)], x.1 ∈ lineOpts mk ∧ (x.2 = 1 ∨ x.2 = 2) := by
            intro x hx
            rcases List.mem_append.mp hx with hx | hx
            · exact hRo x hx
            · rw [List.mem_singleton.mp hx]; exact ⟨hlo, .inl rfl⟩
          exact ⟨_, _, _, _, rfl, kF, N8, g6, R ++ [(ln, 1)], rvs', _, k + 1 + 1, _, tm, _, rest', tl', rfl, g2, g3, g4, g5, hRl', hRo', by omega, by omega, rfl, rfl, rfl, congrArg (fun l => some (Value.bytes (List.toArray l) _)) (flat_snoc (R := R) (ln := ln) (sz := 1)).symm, rfl⟩
      · clear kF kN
        rintro m₁ news₁ h₁ tk₁ ⟨R, rvs, rk, k, t0, tm, td, rest, tl, rfl, hb2, hb3, hb4, hd2, hRl, hRo, hk0, hk1, hm1, hm2, hm3, hm4, hm5⟩ F₁ N₁
        have hRf : ∀ x ∈ R, x.1.length ≤ 16 ∧ (x.2 = 1 ∨ x.2 = 2) := fun x hx => ⟨(hln _ (hRo x hx).1).2.2, (hRo x hx).2⟩
        have hfl := flat_len hRf
        have hR10 : R.length ≤ 10 := by omega
        have hfl' : (flat R).length ≤ 1000 := by omega
        obtain ⟨dt, hdt⟩ : ∃ dt, dt = flat R := ⟨_, rfl⟩
        rw [← hdt] at hm4 hfl
        replace F₁ := fr_ps (ps := [(Str.ofString "tape", .ref tape), (Str.ofString "mark", .bytes mk.toArray tm), (Str.ofString "rows", .ref ra), (Str.ofString "data", .bytes dt.toArray td), (Str.ofString "boundary", .bytes bnd.toArray tb)]) F₁ (by simp only [List.forall_mem_cons, List.not_mem_nil, false_implies, implies_true, and_true]; exact ⟨hm1, hm2, hm3, hm4, hm5⟩)
        dsimp only [kstB] at F₁
        dsimp only
        refine wpAny_execs_cons ?_
        refine wpAny_mono (Q := PIf s₁ ra tape cells vs n₁ n₂ mk bnd tm tb) ?_ ?_ (fun _ _ e => e)
        · (try k_fold)
          k_steps
          refine Hold.out ?_
          k_dflt (refine' newList_K ?k1 ?k2 ?_; (case k1 => k_asm); (case k2 => k_asm))
          intro ea h9 F9 N9 hea
          k_steps
          refine Hold.out ?_
          have hRg : ∀ x ∈ R, LineOk x.1 ∧ (x.2 = 1 ∨ x.2 = 2) := fun x hx => ⟨⟨(hln _ (hRo x hx).1).1, (hln _ (hRo x hx).1).2.1⟩, (hRo x hx).2⟩
          refine ne_nil_K N9 (.tail _ (.head _)) (.head _) (by ke_room) ?_ ?_
          · intro hnil
            k_steps
            rename Fr s₁.heap s₁.heap.objs.size _ _ => kF
            rename News s₁.heap s₁.heap.objs.size _ _ => kN
            exact ⟨rfl, _, _, _, R, rvs, rk, k, t0, td, rest, tl, rfl, kF, news_sub kN (fun p hp => .tail _ hp), hb2, hb4, hd2, good_all hRg, fun x hx => (hRf x hx).1, by omega, hfl', by omega, by omega, rfl, rfl, rfl, ⟨dt, hdt, rfl⟩, rfl⟩
          · intro hnn
            obtain ⟨R0, ln, sz, rvs0, T0, n0, u1, u2, rfl, rfl, hT0, hd0⟩ := last_row hd2 hnn
            have hRt : @LT.lt Nat _ T0 ea := hea _ (.tail _ (.tail _ (.tail _ (hb2 _ hT0))))
            have hRa : @Ne Nat T0 ra := hb3 _ (hb2 _ hT0)
            have hTt : @Ne Nat T0 tape := hb4 _ (hb2 _ hT0)
            have hrea : @LT.lt Nat _ ra ea := hea _ (.head _)
            have htea : @LT.lt Nat _ tape ea := hea _ (.tail _ (.head _))
            replace N9 := news_sub (news' := (ra, listOf (rvs0 ++ [Value.ref T0]).toArray rk) :: (tape, listOf #[.ref cells, .int k t0] n₁) :: (cells, listOf vs.toArray n₂) :: (T0, { cls := .type "tuple", data := .seq #[Value.bytes (List.toArray ln) u1, Value.int (sz : Nat) u2] n0 }) :: rest) N9 (by
              intro p hp
              rcases List.mem_cons.mp hp with rfl | hp
              · exact .tail _ (.head _)
              rcases List.mem_cons.mp hp with rfl | hp
              · exact .tail _ (.tail _ (.head _))
              rcases List.mem_cons.mp hp with rfl | hp
              · exact .tail _ (.tail _ (.tail _ (.head _)))
              rcases List.mem_cons.mp hp with rfl | hp
              · exact .tail _ (.tail _ (.tail _ (.tail _ (hb2 _ hT0))))
              · exact .tail _ (.tail _ (.tail _ (.tail _ hp))))
            k_steps
            refine Hold.out ?_
            rename Fr s₁.heap s₁.heap.objs.size _ _ => kF
            rename News s₁.heap s₁.heap.objs.size _ _ => kN
            k_dflt (refine' draw_use ?k1 kF ?k3 kN ?k5 ?k6 ?kU ?kc hi hn0 hn63 hk0 ?ka ?kb ?kd hne ?kg ?kh ?_; (case k1 => k_asm); (case k3 => k_asm); (case k5 => k_asm); (case k6 => exact rfl); (case kU => intro _; k_upd); (case kc => k_mem); (case ka => omega); (case kb => omega); (case kd => omega); (case kg => k_room); (case kh => ke_room))
            clear kF kN
            intro vd t₁ t₂ h' tk' hvd0 hvd1 F' N'
            have hsz : sz = 1 ∨ sz = 2 := (hRo (ln, sz) (List.mem_append.mpr (.inr (.head _)))).2
            have hll : ln.length ≤ 16 := (hRf (ln, sz) (List.mem_append.mpr (.inr (.head _)))).1
            have hszl : sz ≤ dt.length := by rw [hdt, flat_snoc]; rcases hsz with rfl | rfl <;> simp [eol] <;> omega
            have hRg0 : ∀ x ∈ R0, LineOk x.1 ∧ (x.2 = 1 ∨ x.2 = 2) := fun x hx => hRg x (List.mem_append.mpr (.inl hx))
            have hRl0 : ∀ x ∈ R0 ++ [(ln, 0)], x.1.length ≤ 16 := by
              intro x hx
              rcases List.mem_append.mp hx with hx | hx
              · exact (hRf x (List.mem_append.mpr (.inl hx))).1
              · rw [List.mem_singleton.mp hx]; exact hll
            k_steps
            · refine Hold.out ?_
              refine item_last N' (.head _) ?_
              k_steps
              refine Hold.out ?_
              rename Fr s₁.heap s₁.heap.objs.size _ _ => kF
              rename News s₁.heap s₁.heap.objs.size _ _ => kN
              obtain ⟨dt', hdt'⟩ : ∃ dt', dt' = flat (R0 ++ [(ln, 0)]) := ⟨_, rfl⟩
              refine slice_L (s := ⟨_, _, _, _, _⟩) kF kN (by constructor) (by constructor) (by omega) (c := dt') ?_ ?_
              · rw [show (dt.length : Int) - (sz : Int) = ((dt.length - sz : Nat) : Int) by omega, cutL_to, hdt, cut_last hsz, hdt']
              · clear kF kN
                intro h8 t8 k8 F8 N8
                k_steps
                refine Hold.out ?_
                rename News s₁.heap s₁.heap.objs.size _ _ => kN
                refine item_last kN (.head _) ?_
                k_steps
                refine Hold.out ?_
                rename Fr s₁.heap s₁.heap.objs.size _ _ => kF
                rename News s₁.heap s₁.heap.objs.size _ _ => kN
                k_dflt (refine' set_last kF kN ?U ?_; (case U => k_upd))
                clear kF kN
                intro h7 F7 N7
                k_steps
                obtain ⟨rvs', rest', tl', N6, g2, g4, g5⟩ := row_shut N7 (by assumption) hb2 hb4 hd0
                have hRl' : (R0 ++ [(ln, 0)]).length ≤ 10 := by
                  rw [List.length_append, List.length_singleton] at hR10 ⊢; exact hR10
                have hfl0 : (flat (R0 ++ [(ln, 0)])).length ≤ 1000 := by
                  rw [← cut_last hsz, List.length_take]; omega
                exact ⟨rfl, _, _, _, R0 ++ [(ln, 0)], rvs', rk, k + 1, _, t8, rest', tl', rfl, F7, N6, g2, g4, g5, good_last ⟨(hln _ (hRo (ln, sz) (List.mem_append.mpr (.inr (.head _)))).1).1, (hln _ (hRo (ln, sz) (List.mem_append.mpr (.inr (.head _)))).1).2.1⟩ hRg0, hRl0, hRl', hfl0, by omega, by omega, rfl, rfl, rfl, ⟨dt', hdt', rfl⟩, rfl⟩
            · rename Fr s₁.heap s₁.heap.objs.size _ _ => kF
              rename News s₁.heap s₁.heap.objs.size _ _ => kN
              exact ⟨rfl, _, _, _, R0 ++ [(ln, sz)], rvs0 ++ [Value.ref T0], rk, k + 1, _, td, _, tl, rfl, kF, kN, fun p hp => .tail _ (hb2 p hp), fun p hp => (List.mem_cons.mp hp).elim (fun e => by rw [e]; exact hTt) (hb4 p), hd2, good_all hRg, fun x hx => (hRf x hx).1, by omega, hfl', by omega, by omega, rfl, rfl, rfl, ⟨dt, hdt, rfl⟩, rfl⟩
        · clear hd2 hRl hRo hk0 hk1 hfl hfl' hRf hR10 hdt hb2 hb3 hb4 F₁ N₁ hm1 hm2 hm3 hm4 hm5
          clear dt R rvs rk k t0 td rest tl
          rintro f s' ⟨rfl, h', tk, m, R, rvs, rk, k, t0, td, rest, tl, rfl, F₁, N₁, hb2, hb4, hd2, hRg, hRl, hR10, hfl, hk0, hk1, hm1, hm2, hm3, ⟨dt, hdt, hm4⟩, hm5⟩
          rw [← hdt] at hfl
          replace F₁ := fr_ps (ps := [(Str.ofString "tape", .ref tape), (Str.ofString "mark", .bytes mk.toArray tm), (Str.ofString "rows", .ref ra), (Str.ofString "data", .bytes dt.toArray td), (Str.ofString "boundary", .bytes bnd.toArray tb)]) F₁ (by simp only [List.forall_mem_cons, List.not_mem_nil, false_implies, implies_true, and_true]; exact ⟨hm1, hm2, hm3, hm4, hm5⟩)
          dsimp only [kstB] at F₁
          clear hm1 hm2 hm3 hm4 hm5
          dsimp only
          (try k_fold)
          k_steps
          refine Hold.out ?_
          rename Fr s₁.heap s₁.heap.objs.size _ _ => kF
          rename News s₁.heap s₁.heap.objs.size _ _ => kN
          k_dflt (refine' draw_use ?k1 kF ?k3 kN ?k5 ?k6 ?kU ?kc hi hn0 hn63 hk0 ?ka ?kb ?kd hne ?kg ?kh ?_; (case k1 => k_asm); (case k3 => k_asm); (case k5 => k_asm); (case k6 => exact rfl); (case kU => intro _; k_upd); (case kc => k_mem); (case ka => omega); (case kb => omega); (case kd => omega); (case kg => k_room); (case kh => ke_room))
          clear kF kN
          intro va t₁ t₂ h' tk' hva0 hva1 F' N'
          k_steps
          refine Hold.out ?_
          k_dflt (refine' menu_L (P := fun ln => ln.length ≤ 20) N' ?k2 hva0 ?k4 ?k5 ?k6 ?_ ?k7; (case k2 => k_mem); (case k4 => (simp only [List.length_cons, List.length_nil]; omega)); (case k5 => (simp only [List.length_cons, List.length_nil]; omega)); (case k6 => (simp only [List.forall_mem_cons, List.not_mem_nil, false_implies, implies_true, and_true]; (repeat' apply And.intro) <;> exact ⟨_, _, rfl, by (try simp only [List.length_append, List.length_cons, List.length_nil]); omega⟩)); (case k7 => with_unfolding_all rfl))
          intro lead tlead hlead
          k_steps
          refine Hold.out ?_
          rename Fr s₁.heap s₁.heap.objs.size _ _ => kF
          rename News s₁.heap s₁.heap.objs.size _ _ => kN
          k_dflt (refine' draw_use ?k1 kF ?k3 kN ?k5 ?k6 ?kU ?kc hi hn0 hn63 ?k9 ?ka ?kb ?kd hne ?kg ?kh ?_; (case k1 => k_asm); (case k3 => k_asm); (case k5 => k_asm); (case k6 => exact rfl); (case kU => intro _; k_upd); (case kc => k_mem); (case k9 => omega); (case ka => omega); (case kb => omega); (case kd => omega); (case kg => k_room); (case kh => ke_room))
          clear kF kN
          intro vb t₃ t₄ h2 tk2 hvb0 hvb1 F2 N2
          k_steps
          refine Hold.out ?_
          k_dflt (refine' menu_L (P := fun ln => ln.length ≤ 20) N2 ?k2 hvb0 ?k4 ?k5 ?k6 ?_ ?k7; (case k2 => k_mem); (case k4 => (simp only [List.length_cons, List.length_nil]; omega)); (case k5 => (simp only [List.length_cons, List.length_nil]; omega)); (case k6 => (simp only [List.forall_mem_cons, List.not_mem_nil, false_implies, implies_true, and_true]; (repeat' apply And.intro) <;> exact ⟨_, _, rfl, by (try simp only [List.length_append, List.length_cons, List.length_nil]); omega⟩)); (case k7 => with_unfolding_all rfl))
          intro tail ttail htail
          k_steps
          refine Hold.out ?_
          rename Fr s₁.heap s₁.heap.objs.size _ _ => kF
          rename News s₁.heap s₁.heap.objs.size _ _ => kN
          have N3 := news_sub (news' := (ra, listOf rvs.toArray rk) :: rest) kN (by
            intro p hp
            rcases List.mem_cons.mp hp with rfl | hp
            · exact .tail _ (.tail _ (.head _))
            · exact .tail _ (.tail _ (.tail _ (.tail _ (.tail _ hp)))))
          have hne0 : mk ≠ [] := by rw [hmk]; simp
          have hdl : (lead ++ dt ++ tail).length ≤ 100000 := by simp only [List.length_append]; omega
          have hps := ps_due hmk hmks tail R lead [] none lead.length (lead.length + dt.length) (lead.length + dt.length) (lead ++ dt ++ tail) hRg (by rw [hdt]) (by rw [hdt]) (by omega)
          have hch := due_chain hne0 tail R lead none lead.length lead.length (lead.length + dt.length) (lead ++ dt ++ tail) hRg (by rw [hdt]) (by rw [hdt]) (Nat.le_refl _)
          k_dflt (refine' Fn.use (parts_fn w (lead ++ dt ++ tail) bnd lead.length (lead.length + dt.length) _ _ _ _ ((ra, listOf rvs.toArray rk) :: rest) hdl ?h2 ?h3 ?h4) ?k1 kF ?k3 N3 ?k5 ?k6 ?k7 ?k8 ?_; (case h2 => (simp only [List.length_append]; omega)); (case h3 => omega); (case h4 => omega); (case k1 => k_asm); (case k3 => k_asm); (case k5 => k_asm); (case k6 => exact rfl); (case k7 => k_room); (case k8 => ke_room))
          clear kF kN N3
          rintro r1 news1 h3 tk3 ⟨f1, vs1, k1, tl1, rfl, rfl, hda1⟩ F3 N3
          rw [hps] at hda1
          clear hps
          k_steps
          refine Hold.out ?_
          rename Fr s₁.heap s₁.heap.objs.size _ _ => kF
          rename News s₁.heap s₁.heap.objs.size _ _ => kN
          k_dflt (refine' Fn.use (due_fn w mk R lead.length (lead.length + dt.length) ra rvs rk _ _ _ ((f1, listOf vs1.toArray k1) :: (tl1 ++ (ra, listOf rvs.toArray rk) :: rest)) ?h1 ?h2 ?h3 ?h4 (by omega)) ?k1 kF ?k3 kN ?k5 ?k6 ?k7 ?k8 ?_; (case h1 => exact .tail _ (List.mem_append.mpr (.inr (.head _)))); (case h2 => exact DatAll.mono (fun p hp => .tail _ (List.mem_append.mpr (.inr (.tail _ (hb2 p hp))))) hd2); (case h3 => omega); (case h4 => exact fun x hx => Nat.le_trans (hRl x hx) (by decide)); (case k1 => k_asm); (case k3 => k_asm); (case k5 => k_asm); (case k6 => exact rfl); (case k7 => k_room); (case k8 => ke_room))
          clear kF kN
          rintro r2 news2 h4 tk4 ⟨f2, vs2, k2, tl2, rfl, rfl, hda2⟩ F4 N4
          obtain ⟨Pf, hPf⟩ : ∃ Pf, Pf = dueGo mk (lead.length + dt.length) R [] none lead.length lead.length := ⟨_, rfl⟩
          rw [← hPf] at hda1 hda2 hch
          k_steps
          refine Hold.out ?_
          rename Fr s₁.heap s₁.heap.objs.size _ _ => kF
          rename News s₁.heap s₁.heap.objs.size _ _ => kN
          refine kqd_ne (n₁ := tl1) (n₂ := tl2) kN (.tail _ (List.mem_append.mpr (.inr (.head _)))) rfl rfl hda1 (fun p hp => .tail _ (List.mem_append.mpr (.inr (.tail _ (List.mem_append.mpr (.inl hp)))))) (.head _) rfl rfl hda2 (fun p hp => .tail _ (List.mem_append.mpr (.inl hp))) (kok_duo Pf) (kok_duo Pf) (by ke_room) ?_
          simp only [decide_true, Bool.not_true]
          k_steps
          refine Hold.out ?_
          rename Fr s₁.heap s₁.heap.objs.size _ _ => kF
          rename News s₁.heap s₁.heap.objs.size _ _ => kN
          have N5 := news_sub (news' := (f1, listOf vs1.toArray k1) :: tl1) kN (by
            intro p hp
            rcases List.mem_cons.mp hp with rfl | hp
            · exact .tail _ (List.mem_append.mpr (.inr (.head _)))
            · exact .tail _ (List.mem_append.mpr (.inr (.tail _ (List.mem_append.mpr (.inl hp))))))
          clear kN
          have hlen1 : vs1.length = (Pf.map duo).length := hda1.length
          refine iter_J (l := f1) (vs := vs1) (nn := k1) (fun i m nx => nx = (f1, listOf vs1.toArray k1) :: tl1 ∧ ∃ (la : Nat) (t9 te : Tok), m (Str.ofString "last") = some (.int la t9) ∧ Chain mk (lead ++ dt ++ tail) (lead.length + dt.length) la (Pf.drop i) ∧
            m (Str.ofString "end") = some (.int ((lead.length + dt.length : Nat) : Int) te) ∧ m (Str.ofString "lead") = some (.bytes lead.toArray tlead) ∧ m (Str.ofString "data") = some (.bytes dt.toArray td) ∧ m (Str.ofString "tail") = some (.bytes tail.toArray ttail) ∧ m (Str.ofString "mark") = some (.bytes mk.toArray tm)) rfl (.head _) kF N5 ?_ ?_ ?_ ?_
          · exact ⟨rfl, lead.length, _, _, rfl, hch, rfl, rfl, rfl, rfl, rfl⟩
          · rintro i m nx ⟨rfl, _⟩
            exact .head _
          · clear kF N5 hch
            rintro I oI i v m₁ news₁ h₁ tk₁ hv ⟨rfl, la, t9, te, hm1, hch, hm2, hm3, hm4, hm5, hm6⟩ hI F₁ N₁
            have hi' : i < Pf.length := by
              have := (List.getElem?_eq_some_iff.mp hv).1
              rw [hlen1, List.length_map] at this; exact this
            obtain ⟨⟨x, y⟩, hx⟩ : ∃ x, Pf[i]? = some x := ⟨_, List.getElem?_eq_getElem hi'⟩
            obtain ⟨v', hv', hdv⟩ := DatAll.get hda1 (k := i) (by rw [List.length_map]; exact hi')
            rw [hv] at hv'
            obtain rfl := Option.some.inj hv'
            have hdv' : DatIn tl1 v (duo (x, y)) := by
              have e : (Pf.map duo)[i]'(by rw [List.length_map]; exact hi') = duo (x, y) := by
                rw [List.getElem_map]
                congr 1
                exact Option.some.inj ((List.getElem?_eq_getElem hi').symm.trans hx)
              rw [e] at hdv; exact hdv
            obtain ⟨T', n', u1, u2, rfl, hT'⟩ := duo_cases hdv'
            have hdrop : Pf.drop i = (x, y) :: Pf.drop (i + 1) := by
              rw [List.drop_eq_getElem_cons hi']
              congr 1
              exact Option.some.inj ((List.getElem?_eq_getElem hi').symm.trans hx)
            rw [hdrop] at hch
            obtain ⟨c1, c2, c3, c4, c5⟩ := hch
            have N₂ := news_sub (news' := (T', { cls := .type "tuple", data := .seq #[Value.int x u1, Value.int y u2] n' }) :: (I, oI) :: (f1, listOf vs1.toArray k1) :: tl1) N₁ (by
              intro p hp
              rcases List.mem_cons.mp hp with rfl | hp
              · exact .tail _ (.tail _ hT')
              · exact hp)
            clear N₁
            replace F₁ := fr_ps (ps := [(Str.ofString "last", .int la t9), (Str.ofString "end", .int ((lead.length + dt.length : Nat) : Int) te), (Str.ofString "lead", .bytes lead.toArray tlead), (Str.ofString "data", .bytes dt.toArray td), (Str.ofString "tail", .bytes tail.toArray ttail), (Str.ofString "mark", .bytes mk.toArray tm)]) F₁ (by simp only [List.forall_mem_cons, List.not_mem_nil, false_implies, implies_true, and_true]; exact ⟨hm1, hm2, hm3, hm4, hm5, hm6⟩)
            dsimp only [kstB] at F₁
            clear hm1 hm2 hm3 hm4 hm5 hm6
            (try k_fold)
            k_steps
            refine Hold.out ?_
            rename Fr s₁.heap s₁.heap.objs.size _ _ => kF
            rename News s₁.heap s₁.heap.objs.size _ _ => kN
            obtain ⟨c, hc⟩ : ∃ c, c = ((lead ++ dt ++ tail).drop x).take (y - x) := ⟨_, rfl⟩
            rw [← hc] at c4
            have hcl : c.length ≤ 100000 := by rw [hc, List.length_take, List.length_drop]; omega
            refine slice_L (s := ⟨_, _, _, _, _⟩) kF kN (by constructor) (by constructor) (by omega) (c := c) (by rw [hc]; exact cutL_both) ?_
            clear kF kN
            intro h5 t5 k5 F5 N5
            k_steps
            refine Hold.out ?_
            refine split_K (c := 10) F5 N5 (by omega) ?_
            clear F5 N5
            intro D5 ws h5 k5 hws F5 N5 hlt5
            have hlw : ∀ p ∈ (T', ({ cls := .type "tuple", data := .seq #[Value.int x u1, Value.int y u2] n' } : Obj)) :: (I, oI) :: (f1, listOf vs1.toArray k1) :: tl1, p.1 < D5 := hlt5
            k_steps
            refine Hold.out ?_
            rename Fr s₁.heap s₁.heap.objs.size _ _ => kF
            rename News s₁.heap s₁.heap.objs.size _ _ => kN
            refine iter_J (l := D5) (vs := ws) (nn := 0) (fun j m nx => nx = (D5, listOf ws.toArray 0) :: (T', { cls := .type "tuple", data := .seq #[Value.int x u1, Value.int y u2] n' }) :: (I, oI) :: (f1, listOf vs1.toArray k1) :: tl1 ∧ m (Str.ofString "last") = some (.int y u2) ∧
              m (Str.ofString "end") = some (.int ((lead.length + dt.length : Nat) : Int) te) ∧ m (Str.ofString "lead") = some (.bytes lead.toArray tlead) ∧ m (Str.ofString "data") = some (.bytes dt.toArray td) ∧ m (Str.ofString "tail") = some (.bytes tail.toArray ttail) ∧ m (Str.ofString "mark") = some (.bytes mk.toArray tm)) rfl (.head _) kF kN ?_ ?_ ?_ ?_
            · exact ⟨rfl, rfl, rfl, rfl, rfl, rfl, rfl⟩
            · rintro j m nx ⟨rfl, _⟩
              exact .head _
            · clear kF kN
              rintro I2 oI2 j v2 m₂ news₂ h₂ tk₂ hv2 ⟨rfl, hm1, hm2, hm3, hm4, hm5, hm6⟩ hI2 F₂ N₂
              obtain ⟨p, tp, rfl, hp⟩ := bytes_get hws hv2
              have hfree : Free mk p := c4 p hp
              have hpl : p.length ≤ 100000 := by
                have := splitGo_part hp
                simp only [List.length_nil] at this; omega
              replace F₂ := fr_ps (ps := [(Str.ofString "last", .int y u2), (Str.ofString "end", .int ((lead.length + dt.length : Nat) : Int) te), (Str.ofString "lead", .bytes lead.toArray tlead), (Str.ofString "data", .bytes dt.toArray td), (Str.ofString "tail", .bytes tail.toArray ttail), (Str.ofString "mark", .bytes mk.toArray tm)]) F₂ (by simp only [List.forall_mem_cons, List.not_mem_nil, false_implies, implies_true, and_true]; exact ⟨hm1, hm2, hm3, hm4, hm5, hm6⟩)
              dsimp only [kstB] at F₂
              clear hm1 hm2 hm3 hm4 hm5 hm6
              (try k_fold)
              k_steps
              refine Hold.out ?_
              rename News s₁.heap s₁.heap.objs.size _ _ => kN
              refine in_two_no kN (.head _) hfree.1 hfree.2 ?_
              k_steps
              rename Fr s₁.heap s₁.heap.objs.size _ _ => kF
              exact ⟨_, _, _, _, rfl, kF, news_sub kN (fun p hp => .tail _ hp), hI2, rfl, rfl, rfl, rfl, rfl, rfl, rfl⟩
            · clear kF kN
              rintro m₂ news₂ h₂ tk₂ ⟨rfl, hm1, hm2, hm3, hm4, hm5, hm6⟩ F₂ N₂
              dsimp only
              k_steps
              exact ⟨_, _, m₂, (f1, listOf vs1.toArray k1) :: tl1, rfl, F₂, news_sub N₂ (fun p hp => .tail _ (.tail _ hp)), hI, rfl, y, u2, te, hm1, c5, hm2, hm3, hm4, hm5, hm6⟩
          · clear kF N5 hch
            rintro m₂ news₂ h₂ tk₂ ⟨rfl, la, t9, te, _⟩ F₂ N₂
            dsimp only
            k_steps))
end
end Mine

theorem PySem.Challenge.cw_nz0265_01_holds : PySem.Challenge.rw_nz0265_01.Holds := by
  exact Mine.law_holds
