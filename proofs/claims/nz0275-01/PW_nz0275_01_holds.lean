import PyProof.Rows.All
import Wide.All
import OpenK.AllK
import Wide.FinOn
import Lean
import PySem.Challenge.RW_nz0275_01
set_option Elab.async false

namespace Nz
open PySem PySem.W PyProof.Rows
set_option maxRecDepth 100000
set_option maxHeartbeats 8000000
open_top hd for PySem.Challenge.rw_nz0275_01
end Nz

namespace Nz
open PySem PySem.W PySem.Calls PyProof.Rows
set_option maxRecDepth 100000
set_option maxHeartbeats 8000000

noncomputable abbrev VP : Program := hd.view_39
abbrev LO : List Str := [Str.ofString "PostError"]
abbrev Ar (dp un : Nat) (gd : Option (List Code)) (outer : List Env) : Around := { handled := none, depth := dp, frames := some outer, guards := gd, units := un }

/-- a call of a def that does not raise -/
noncomputable def Fn (prog : Program) (w : World) (f : Addr) (vs : List Value) (n : Nat) (Pre : Heap → Prop) (Post : Value → Heap → Prop) : Prop :=
  ∀ (dp un : Nat) (gd : Option (List Code)) (outer : List Env) (base : Heap) (mean : ExcName → Option Value) (mg mb : Str → Option Value) (s : Shared) (R : Result → Shared → Prop),
    Below (Ar dp un gd outer) base outer s.heap → (hd.heap_39 w.params).In s.heap → Top VP LO mean mg mb s.heap → dp + n < recursionLimit → un + 8 * n + 8 < cLine → Pre s.heap →
    (∀ v h' tk', s.heap.StaysIn h' → Post v h' → R (.ok (.ret v)) { s with heap := h', toks := tk' }) →
    codeAny (model prog w) (Ar dp un gd outer) (.call (.ref f) ⟨vs, []⟩) R s

section
variable {prog : Program} {w : World} {dp un : Nat} {gd : Option (List Code)} {outer : List Env} {base : Heap} {mean : ExcName → Option Value} {mg mb : Str → Option Value} {s : Shared} {R : Result → Shared → Prop}

/-- the entry of a def -/
theorem enter {name qual : Str} {params : Arguments} {body : List Stmt} {scope : Scope} {dV kV doc pm cdv ct oc : Value} {an od : Option Addr} {osl : Array (Option Value)} {f : Addr} {args : Args} {binds : List (Str × Value)}
    (X : (hd.heap_39 w.params).In s.heap) (T : Top VP LO mean mg mb s.heap)
    (ho : (hd.heap_39 w.params).lookup f = some ⟨oc, od, .func (fnOf name qual params body scope dV kV doc pm an cdv ct), osl⟩) (hcd : codeIn (hd.heap_39 w.params) cdv qual = true) (hroom : dp < recursionLimit)
    (hbind : BindsTo s (fnOf name qual params body scope dV kV doc pm an cdv ct) args binds) (hloc : ∀ y ∈ binds, scope.names.lookup y.1 = some .local)
    (h : ∀ L h₁, Fr s.heap L h₁ (fun y => binds.reverse.lookup y) → News s.heap L h₁ [] →
      wpAny (model prog w) ((Ar dp un gd outer).deeper (envOf qual scope L f cdv)) (execs body (envOf qual scope L f cdv))
        (fun fl s' => R (.ok (.ret (match fl with | .ret v => v | _ => .none))) s')
        (fun e s' => wpAny (model prog w) ((Ar dp un gd outer).deeper (envOf qual scope L f cdv)) (leaving (envOf qual scope L f cdv) e) (fun _ s'' => R (.error e) s'') (fun e' s'' => R (.error e') s'') s')
        { s with heap := h₁, toks := s.toks + binds.length })
    (hco : scope.isCoroutine = false := by rfl) (hgen : scope.isGenerator = false := by rfl) (hk : scope.kind = .function := by rfl)
    (hcell : ∀ x ∈ scope.names, x.2 ≠ .cell := by decide) : codeAny (model prog w) (Ar dp un gd outer) (.call (.ref f) args) R s := by
  refine codeAny_call_def (fd := fnOf name qual params body scope dV kV doc pm an cdv ct) (body := body) (binds := binds) hroom (X _ _ ho) rfl T.nolimit (codeRec_of X hcd) rfl hbind hcell hloc (fun h₁ hns hk₁ => ?_) hco hgen hk
  exact h s.heap.objs.size h₁ ⟨hns, hk₁, Nat.le_refl _⟩ News.nil

/-- the entry of a def that does not raise -/
theorem enter0 {name qual : Str} {params : Arguments} {body : List Stmt} {scope : Scope} {dV kV doc pm cdv ct oc : Value} {an od : Option Addr} {osl : Array (Option Value)} {f : Addr} {args : Args} {binds : List (Str × Value)}
    (X : (hd.heap_39 w.params).In s.heap) (T : Top VP LO mean mg mb s.heap)
    (ho : (hd.heap_39 w.params).lookup f = some ⟨oc, od, .func (fnOf name qual params body scope dV kV doc pm an cdv ct), osl⟩) (hcd : codeIn (hd.heap_39 w.params) cdv qual = true) (hroom : dp < recursionLimit)
    (hbind : BindsTo s (fnOf name qual params body scope dV kV doc pm an cdv ct) args binds) (hloc : ∀ y ∈ binds, scope.names.lookup y.1 = some .local)
    (h : ∀ L h₁, Fr s.heap L h₁ (fun y => binds.reverse.lookup y) → News s.heap L h₁ [] →
      wpAny (model prog w) ((Ar dp un gd outer).deeper (envOf qual scope L f cdv)) (execs body (envOf qual scope L f cdv))
        (fun fl s' => R (.ok (.ret (match fl with | .ret v => v | _ => .none))) s') (fun _ _ => False)
        { s with heap := h₁, toks := s.toks + binds.length })
    (hco : scope.isCoroutine = false := by rfl) (hgen : scope.isGenerator = false := by rfl) (hk : scope.kind = .function := by rfl)
    (hcell : ∀ x ∈ scope.names, x.2 ≠ .cell := by decide) : codeAny (model prog w) (Ar dp un gd outer) (.call (.ref f) args) R s :=
  enter X T ho hcd hroom hbind hloc (fun L h₁ F N => wpAny_mono (h L h₁ F N) (fun _ _ x => x) fun _ _ x => x.elim) hco hgen hk hcell

/-- the entry of a def over an elder heap -/
theorem enterH {name qual : Str} {params : Arguments} {body : List Stmt} {scope : Scope} {dV kV doc pm cdv ct oc : Value} {an od : Option Addr} {osl : Array (Option Value)} {f : Addr} {args : Args} {binds : List (Str × Value)} {h₀ : Heap}
    (X : (hd.heap_39 w.params).In h₀) (T : Top VP LO mean mg mb h₀) (st : h₀.StaysIn s.heap) (hz : h₀.objs.size ≤ s.heap.objs.size)
    (ho : (hd.heap_39 w.params).lookup f = some ⟨oc, od, .func (fnOf name qual params body scope dV kV doc pm an cdv ct), osl⟩) (hcd : codeIn (hd.heap_39 w.params) cdv qual = true) (hroom : dp < recursionLimit)
    (hbind : BindsTo s (fnOf name qual params body scope dV kV doc pm an cdv ct) args binds) (hloc : ∀ y ∈ binds, scope.names.lookup y.1 = some .local)
    (h : ∀ L h₁, Fr h₀ L h₁ (fun y => binds.reverse.lookup y) → (∀ b o, s.heap.get? b = some o → h₁.get? b = some o ∧ b ≠ L) →
      wpAny (model prog w) ((Ar dp un gd outer).deeper (envOf qual scope L f cdv)) (execs body (envOf qual scope L f cdv))
        (fun fl s' => R (.ok (.ret (match fl with | .ret v => v | _ => .none))) s') (fun _ _ => False)
        { s with heap := h₁, toks := s.toks + binds.length })
    (hco : scope.isCoroutine = false := by rfl) (hgen : scope.isGenerator = false := by rfl) (hk : scope.kind = .function := by rfl)
    (hcell : ∀ x ∈ scope.names, x.2 ≠ .cell := by decide) : codeAny (model prog w) (Ar dp un gd outer) (.call (.ref f) args) R s := by
  have X₁ := X.keeps st
  refine codeAny_call_def (fd := fnOf name qual params body scope dV kV doc pm an cdv ct) (body := body) (binds := binds) hroom (X₁ _ _ ho) rfl (T.nolimit.keeps st) (codeRec_of X₁ hcd) rfl hbind hcell hloc (fun h₁ hns hk₁ => ?_) hco hgen hk
  exact wpAny_mono (h s.heap.objs.size h₁ ⟨hns, fun b o q => hk₁ b o (st b o q), hz⟩ fun b o q => ⟨hk₁ b o q, Nat.ne_of_lt (Heap.lt_size q)⟩) (fun _ _ x => x) fun _ _ x => x.elim

/-- a call from within a def's frame -/
theorem Fn.use {f : Addr} {vs : List Value} {n : Nat} {Pre : Heap → Prop} {Post : Value → Heap → Prop} (hf : Fn prog w f vs n Pre Post)
    {h₀ : Heap} {L a : Addr} {m : Str → Option Value} {news : List (Addr × Obj)} {name : Str} {scope : Scope} {cd : Value} {Q E : Value → Shared → Prop}
    (B : Below (Ar dp un gd outer) base outer h₀) (F : Fr h₀ L s.heap m) (N : News h₀ L s.heap news) (X : (hd.heap_39 w.params).In h₀) (T : Top VP LO mean mg mb h₀)
    (hd : dp + 1 + n < recursionLimit) (hu : un + 3 + 8 * n + 8 < cLine) (pre : Pre s.heap)
    (k : ∀ v h' tk', s.heap.StaysIn h' → Fr h₀ L h' m → News h₀ L h' news → Post v h' → Q v { s with heap := h', toks := tk' }) (hk : scope.kind = .function := by rfl) :
    wpAny (model prog w) ((Ar dp un gd outer).deeper (envOf name scope L a cd)) (call (.ref f) vs) Q E s := by
  refine wpAny_call ?_
  refine hf (dp + 1) (un + 3) gd (envOf name scope L a cd :: outer) base mean mg mb s _ (B.push F hk) (X.keeps F.keep) (T.keeps F.keep) hd hu pre fun v h' tk' st hp => ?_
  exact k v h' tk' st (F.keeps st) (N.grown st) hp
end

theorem fill (w : World) : hd.heap_39 w.params = hd.heap_39 w.params ∧ PySem.Challenge.rw_nz0275_01 = PySem.Challenge.rw_nz0275_01 := by
  k_fill
  w_top off
  exact ⟨rfl, rfl⟩

theorem hcL : cLine = 9900 := rfl
end Nz

namespace Nz
section
open PySem PySem.W PySem.Calls PyProof.Rows
section
variable {M : Model} {A : Around} {E : Value → Shared → Prop} {s : Shared} {env : Env}
theorem atWhile {a : Expr} {b c : List Stmt} {d : Pos} {Q : Flow → Shared → Prop} (h : wpAny M A (exec (.While a b c d) env) Q E s) : wpAny M A (exec (.While a b c d) env) Q E s := h
theorem atRaise {a b : Option Expr} {d : Pos} {Q : Flow → Shared → Prop} (h : wpAny M A (exec (.Raise a b d) env) Q E s) : wpAny M A (exec (.Raise a b d) env) Q E s := h
theorem atFor {a b : Expr} {c e : List Stmt} {d : Pos} {Q : Flow → Shared → Prop} (h : wpAny M A (exec (.For a b c e d) env) Q E s) : wpAny M A (exec (.For a b c e d) env) Q E s := h
theorem atAssignComp {a : List Expr} {b : Expr} {c : List Comprehension} {e : Scope} {d f : Pos} {Q : Flow → Shared → Prop} (h : wpAny M A (exec (.Assign a (.ListComp b c e d) f) env) Q E s) : wpAny M A (exec (.Assign a (.ListComp b c e d) f) env) Q E s := h
theorem atComp {b : Expr} {c : List Comprehension} {e : Scope} {d : Pos} {Q : Value → Shared → Prop} (h : wpAny M A (eval (.ListComp b c e d) env) Q E s) : wpAny M A (eval (.ListComp b c e d) env) Q E s := h
theorem atTry {a : List Stmt} {b : List ExceptHandler} {c e : List Stmt} {d : Pos} {Q : Flow → Shared → Prop} (h : wpAny M A (exec (.Try a b c e d) env) Q E s) : wpAny M A (exec (.Try a b c e d) env) Q E s := h
theorem atAppend {a : List Value} {Q : Value → Shared → Prop} (h : wpAny M A (call (.builtin "list.append") a) Q E s) : wpAny M A (call (.builtin "list.append") a) Q E s := h
theorem atList {a : List Value} {Q : Value → Shared → Prop} (h : wpAny M A (call (.type "list") a) Q E s) : wpAny M A (call (.type "list") a) Q E s := h
theorem atTwo {c : CmpOp} {a b : Addr} {Q : Value → Shared → Prop} (h : wpAny M A (compareOp c (.ref a) (.ref b)) Q E s) : wpAny M A (compareOp c (.ref a) (.ref b)) Q E s := h
theorem atCall {a : Addr} {b : List Value} {Q : Value → Shared → Prop} (h : wpAny M A (call (.ref a) b) Q E s) : wpAny M A (call (.ref a) b) Q E s := h
theorem atLen {a : Addr} {Q : Value → Shared → Prop} (h : wpAny M A (call (.builtin "len") [.ref a]) Q E s) : wpAny M A (call (.builtin "len") [.ref a]) Q E s := h
theorem atItem {a b : Expr} {c : Addr} {d : Value} {Q : Value → Shared → Prop} (h : wpAny M A (subscriptTail a b (.ref c) d) Q E s) : wpAny M A (subscriptTail a b (.ref c) d) Q E s := h
theorem atSum {a : List Value} {Q : Value → Shared → Prop} (h : wpAny M A (call (.builtin "sum") a) Q E s) : wpAny M A (call (.builtin "sum") a) Q E s := h
end

section
open PySem PySem.W PySem.Calls PyProof.Rows
set_option maxRecDepth 100000
set_option maxHeartbeats 8000000

noncomputable def S (l : List Nat) : Str := ⟨l.toArray⟩
noncomputable def dig (n : Int) : List Nat := (Str.ofString (toString n)).cps.toList
noncomputable def showEnd (n : Int) : List Nat := if n = 0 then [42] else dig n
noncomputable def showPair (p : Int × Int) : List Nat := if p.1 = p.2 then showEnd p.1 else showEnd p.1 ++ ([58] ++ showEnd p.2)

theorem S_of (x : Str) : S x.cps.toList = x := rfl
theorem S_dig (n : Int) : Str.ofString (toString n) = S (dig n) := rfl
theorem S_app (a b : List Nat) : S a ++ S b = S (a ++ b) := by
  show (⟨a.toArray ++ b.toArray⟩ : Str) = ⟨(a ++ b).toArray⟩
  simp
theorem S_len (l : List Nat) : (S l).length = l.length := by
  show l.toArray.size = _
  simp
theorem S_star : Str.ofString "*" = S [42] := by decide +kernel
theorem S_colon : Str.ofString ":" = S [58] := by decide +kernel
theorem S_comma : Str.ofString "," = S [44] := by decide +kernel
theorem S_inj {a b : List Nat} : S a = S b ↔ a = b := by
  constructor
  · intro h
    have h1 : (S a).cps = (S b).cps := by rw [h]
    have h2 : a.toArray = b.toArray := h1
    simpa using h2
  · intro h; rw [h]
theorem dig_len {n : Int} (h0 : 0 ≤ n) (h1 : n < 4294967296) : (dig n).length ≤ 10 := by
  obtain ⟨m, rfl⟩ := Int.eq_ofNat_of_zero_le h0
  have e : dig ((m : Nat) : Int) = (Nat.toDigits 10 m).map Char.toNat := PySem.W.KIN.signs_num m
  rw [e, List.length_map]
  exact (Nat.length_toDigits_le_iff (by decide) (by decide)).mpr (by omega)
theorem showEnd_len {n : Int} (h0 : 0 ≤ n) (h1 : n < 4294967296) : (S (showEnd n)).length ≤ 10 := by
  rw [S_len]
  unfold showEnd
  split
  · simp
  · exact dig_len h0 h1
theorem showPair_len {p : Int × Int} (h0 : 0 ≤ p.1) (h1 : p.1 < 4294967296) (h2 : 0 ≤ p.2) (h3 : p.2 < 4294967296) : (S (showPair p)).length ≤ 21 := by
  have a := showEnd_len h0 h1
  have b := showEnd_len h2 h3
  rw [S_len] at a b ⊢
  unfold showPair
  split
  · omega
  · simp only [List.length_append, List.length_cons, List.length_nil]; omega

noncomputable def isD (c : Nat) : Bool := decide (48 ≤ c) && decide (c ≤ 57)
open PySem.NumText in
/-- one end of a pair read at a place: its value, the place behind it -/
noncomputable def readEnd (l : List Nat) (at' : Nat) : Option (Int × Nat) :=
  if l[at']? = some 42 then some (0, at' + 1)
  else if (l.drop at').takeWhile isD = [] ∨ l[at']? = some 48 ∨ 4294967295 < digitsVal ((l.drop at').takeWhile isD) then none
  else some (((digitsVal ((l.drop at').takeWhile isD) : Nat) : Int), at' + ((l.drop at').takeWhile isD).length)

theorem S_cps (l : List Nat) : (S l).cps.toList = l := by simp [S]
theorem slice_ii {l : List Nat} {i j : Nat} (h : i ≤ j) (h2 : j ≤ l.length) : Txt.slice (S l) (some (i : Int)) (some (j : Int)) = S ((l.drop i).take (j - i)) := by
  have e := StrLaws.sliceText_nat (S l) h (by rw [S_len]; exact h2)
  rw [S_cps] at e
  exact e
theorem slice_from {l : List Nat} {i : Nat} (h : i ≤ l.length) : Txt.slice (S l) (some (i : Int)) none = S (l.drop i) := by
  have e := slice_from_eq (x := S l) (i := (i : Int)) (b := ((l.length : Nat) : Int)) (by omega) (by rw [S_len]; omega) (by rw [S_len])
  rw [e, S_cps]
  have e2 : (((l.length : Nat) : Int) - (i : Int)).toNat = l.length - i := by omega
  rw [e2, Int.toNat_natCast, List.take_of_length_le (by simp)]
  rfl
theorem slice_one {l : List Nat} {i : Nat} (h : i ≤ l.length) : Txt.slice (S l) (some (i : Int)) (some ((i : Int) + 1)) = S ((l.drop i).take 1) := by
  by_cases h2 : i < l.length
  · have e := slice_ii (l := l) (i := i) (j := i + 1) (by omega) (by omega)
    have e2 : i + 1 - i = 1 := by omega
    rw [e2] at e
    exact e
  · have hi : i = l.length := by omega
    subst hi
    rw [List.drop_length]
    unfold Txt.slice
    have e : Builtin.Str.strSliceIndices (some ((l.length : Nat) : Int)) (some (((l.length : Nat) : Int) + 1)) 1 (S l).length = [] := by
      rw [S_len]
      unfold Builtin.Str.strSliceIndices sliceRange
      have h1 : ¬ (((l.length : Nat) : Int) < 0) := by omega
      have h2 : ¬ (((l.length : Nat) : Int) + 1 < 0) := by omega
      have h3 : max (0 : Int) (min ((l.length : Nat) : Int) ((l.length : Nat) : Int)) = l.length := by omega
      have h4 : max (0 : Int) (min (((l.length : Nat) : Int) + 1) ((l.length : Nat) : Int)) = l.length := by omega
      simp [h1, h2, h4]
    rw [e]
    split
    · rename_i h
      have h9 : 0 = (S l).length := by simpa using h
      have h0 : (S l).length = 0 := h9.symm
      rw [S_len] at h0
      have h1 : l = [] := List.eq_nil_of_length_eq_zero h0
      subst h1
      rfl
    · rfl
theorem slice_to {l : List Nat} {n : Nat} (h : n ≤ l.length) : Txt.slice (S l) none (some (n : Int)) = S (l.take n) := by
  have e := slice_ii (l := l) (i := 0) (j := n) (by omega) h
  have e2 : Txt.slice (S l) none (some (n : Int)) = Txt.slice (S l) (some ((0 : Nat) : Int)) (some (n : Int)) := by
    unfold Txt.slice
    rw [StrLaws.sliceIdx_none_lo]
    rfl
  rw [e2, e]
  simp
theorem digits_low : ∀ c, c < 58 → (#[48, 49, 50, 51, 52, 53, 54, 55, 56, 57] : Array Nat).contains c = isD c := by decide +kernel
theorem digits_max : ∀ c ∈ (#[48, 49, 50, 51, 52, 53, 54, 55, 56, 57] : Array Nat).toList, c < 58 := by decide
theorem digits_goes (c : Nat) : (Str.ofString "0123456789").cps.contains c = isD c := by
  have e : Str.ofString "0123456789" = ⟨#[48, 49, 50, 51, 52, 53, 54, 55, 56, 57]⟩ := by decide +kernel
  rw [e]
  by_cases h : c < 58
  · exact digits_low c h
  · have h1 : isD c = false := by
      unfold isD
      rw [decide_eq_false (show ¬ c ≤ 57 by omega), Bool.and_false]
    rw [h1]
    refine Bool.eq_false_iff.mpr fun h2 => h (digits_max c ?_)
    exact Array.mem_toList_iff.mpr (Array.contains_iff_mem.mp h2)
theorem lstrip_len (l : List Nat) : (Txt.lstripChars (S l) (Str.ofString "0123456789")).length = l.length - (l.takeWhile isD).length := by
  unfold Txt.lstripChars
  rw [PyProof.Rows.stripBy_eq]
  have e : (Str.ofString "0123456789").cps.contains = isD := by funext c; exact digits_goes c
  rw [e]
  unfold stripLo stripHi
  simp only [if_true, Bool.false_eq_true, if_false, S_cps]
  rw [size_strSub _ _ _ (Nat.le_refl _), S_len]
theorem item_zero {l : List Nat} (h : l ≠ []) : Txt.item (S l) 0 = S (l.take 1) := by
  cases l with
  | nil => exact absurd rfl h
  | cons c r =>
    unfold Txt.item Txt.charAt seqIndex?
    simp [S_len]
    rfl
theorem S_zero : Str.ofString "0" = S [48] := by decide +kernel
theorem S_beq (a b : List Nat) : (S a == S b) = decide (a = b) := by
  by_cases h : a = b
  · subst h; simp
  · rw [decide_eq_false h, beq_eq_false_iff_ne]
    exact fun e => h (S_inj.mp e)
theorem all_takeWhile {p : Nat → Bool} : ∀ {l : List Nat} (c : Nat), c ∈ l.takeWhile p → p c = true
  | [], _, h => by simp at h
  | a :: r, c, h => by
    rw [List.takeWhile_cons] at h
    split at h
    · rcases List.mem_cons.mp h with rfl | h
      · assumption
      · exact all_takeWhile c h
    · cases h
theorem run_digits (l : List Nat) : PySem.NumText.AllDigits (l.takeWhile isD) := by
  intro c hc
  have h := all_takeWhile c hc
  unfold isD at h
  rw [Bool.and_eq_true, decide_eq_true_eq, decide_eq_true_eq] at h
  exact h
theorem int_of {l : List Nat} (h0 : l.takeWhile isD ≠ []) (h1 : (l.takeWhile isD).length ≤ 640)  : PySem.intText? (S (l.takeWhile isD)) = some ((PySem.NumText.digitsVal (l.takeWhile isD) : Nat) : Int) := by
  have e := PySem.intText_digits (x := S (l.takeWhile isD)) (by rw [S_cps]; exact run_digits l) (by rw [S_cps]; exact h0) (by rw [S_len]; omega)
  rw [S_cps] at e
  exact e
theorem take_run (l : List Nat) : l.take (l.takeWhile isD).length = l.takeWhile isD := by
  have h : l.takeWhile isD <+: l := List.takeWhile_prefix _
  exact (List.prefix_iff_eq_take.mp h).symm
theorem take_one_eq {l : List Nat} {c : Nat} {i : Nat} : ((l.drop i).take 1 = [c]) ↔ l[i]? = some c := by
  rw [List.take_one]
  rw [List.head?_drop]
  cases h : l[i]? <;> simp
theorem fold_ge : ∀ (cs : List Nat) (a : Nat), a * 10 ^ cs.length ≤ cs.foldl (fun acc c => acc * 10 + (c - 48)) a
  | [], a => by simp
  | c :: cs, a => by
    rw [List.foldl_cons]
    refine Nat.le_trans ?_ (fold_ge cs (a * 10 + (c - 48)))
    rw [List.length_cons, Nat.pow_succ, Nat.mul_comm (10 ^ cs.length) 10, ← Nat.mul_assoc]
    exact Nat.mul_le_mul_right _ (by omega)
theorem long_big {l : List Nat} {i : Nat} (h : 10 < ((l.drop i).takeWhile isD).length) (h0 : l[i]? ≠ some 48) : 4294967295 < PySem.NumText.digitsVal ((l.drop i).takeWhile isD) := by
  cases e : (l.drop i).takeWhile isD with
  | nil => rw [e] at h; simp at h
  | cons c cs =>
    have hd := run_digits (l.drop i)
    rw [e] at hd h
    have hc := hd c (List.mem_cons_self ..)
    have e2 : l[i]? = some c := by
      cases e3 : l.drop i with
      | nil => rw [e3] at e; simp at e
      | cons d r =>
        rw [e3, List.takeWhile_cons] at e
        have e4 : d = c := by
          split at e
          · exact (List.cons.inj e).1
          · cases e
        rw [← List.head?_drop, e3, e4]; rfl
    have hne : c ≠ 48 := fun q => h0 (by rw [e2, q])
    have g := fold_ge cs (0 * 10 + (c - 48))
    have e5 : PySem.NumText.digitsVal (c :: cs) = cs.foldl (fun acc c => acc * 10 + (c - 48)) (0 * 10 + (c - 48)) := rfl
    rw [e5]
    have h2 : 10 ^ 10 ≤ 10 ^ cs.length := Nat.pow_le_pow_right (by decide) (by rw [List.length_cons] at h; omega)
    have h3 : 1 * 10 ^ cs.length ≤ (0 * 10 + (c - 48)) * 10 ^ cs.length := Nat.mul_le_mul_right _ (by omega)
    omega
theorem item_at {l : List Nat} {i c : Nat} (h : l[i]? = some c) : Txt.item (S l) (i : Int) = S [c] := by
  have hi : i < l.length := by
    cases Nat.lt_or_ge i l.length with
    | inl x => exact x
    | inr x => rw [List.getElem?_eq_none x] at h; cases h
  unfold Txt.item Txt.charAt seqIndex?
  have h1 : ¬ ((i : Int) < 0) := by omega
  have h2 : ((0 : Int) ≤ (i : Int)) := by omega
  have h3 : ((i : Int) < (l.length : Int)) := by omega
  have e : (S l).cps[i]? = some c := by rw [← Array.getElem?_toList, S_cps, h]
  simp only [S_len, h1, if_false, h2, h3, decide_true, Bool.and_self, if_true, Int.toNat_natCast, Option.bind_some, e]
  rfl
theorem at_of_lt {l : List Nat} {i : Nat} (h : i < l.length) : ∃ c, l[i]? = some c := ⟨l[i], by simp [h]⟩
theorem item_is {l : List Nat} {i d : Nat} (h : i < l.length) : (Txt.item (S l) (i : Int) == S [d]) = decide (l[i]? = some d) := by
  obtain ⟨c, hc⟩ := at_of_lt h
  rw [item_at hc, S_beq, hc]
  simp
theorem item_isnt {l : List Nat} {i d : Nat} (h : i < l.length) : (Txt.item (S l) (i : Int) != S [d]) = !decide (l[i]? = some d) := by
  rw [bne, item_is h]
theorem slice_is {l : List Nat} {i d : Nat} (h : i ≤ l.length) : (Txt.slice (S l) (some (i : Int)) (some ((i : Int) + 1)) == S [d]) = decide (l[i]? = some d) := by
  rw [slice_one h, S_beq]
  simp only [take_one_eq]
end

section
open PySem PySem.W PySem.Calls PyProof.Rows
set_option maxRecDepth 100000
set_option maxHeartbeats 8000000

/-- one pair read at a place -/
noncomputable def readPair (l : List Nat) (i : Nat) : Except Nat ((Int × Int) × Nat) := match readEnd l i with
  | none => .error i
  | some (lo, j) => if l[j]? = some 58 then (match readEnd l (j + 1) with
      | none => .error (j + 1)
      | some (hi, k) => .ok ((lo, hi), k)) else .ok ((lo, lo), j)
noncomputable def readFrom (l : List Nat) : Nat → Nat → List (Int × Int) → Except Nat (List (Int × Int))
  | 0, i, _ => .error i
  | n + 1, i, acc => match readPair l i with
    | .error p => .error p
    | .ok (p, j) => if j = l.length then .ok (acc ++ [p]) else if l[j]? = some 44 then readFrom l n (j + 1) (acc ++ [p]) else .error j
noncomputable def readSet (l : List Nat) : Except Nat (List (Int × Int)) := readFrom l (l.length + 1) 0 []

theorem readEnd_le {l : List Nat} {i j : Nat} {n : Int} (h : readEnd l i = some (n, j)) : i < j ∧ j ≤ l.length ∧ 0 ≤ n ∧ n < 4294967296 := by
  unfold readEnd at h
  split at h
  · rename_i h1
    have h2 : i < l.length := by
      cases Nat.lt_or_ge i l.length with
      | inl x => exact x
      | inr x => rw [List.getElem?_eq_none x] at h1; cases h1
    cases h
    omega
  · split at h
    · cases h
    · rename_i h2
      cases h
      have h3 : ((l.drop i).takeWhile isD).length ≤ (l.drop i).length := (List.takeWhile_prefix _).length_le
      have h4 : (l.drop i).takeWhile isD ≠ [] := fun e => h2 (.inl e)
      have h5 : 0 < ((l.drop i).takeWhile isD).length := List.length_pos_iff.mpr h4
      have h6 : ¬ 4294967295 < PySem.NumText.digitsVal ((l.drop i).takeWhile isD) := fun e => h2 (.inr (.inr e))
      rw [List.length_drop] at h3
      refine ⟨by omega, by omega, by omega, by omega⟩

noncomputable def GoodP (p : Int × Int) : Prop := (0 ≤ p.1 ∧ p.1 < 4294967296) ∧ (0 ≤ p.2 ∧ p.2 < 4294967296)
theorem readPair_le {l : List Nat} {i j : Nat} {p : Int × Int} (h : readPair l i = .ok (p, j)) : i < j ∧ j ≤ l.length ∧ GoodP p := by
  unfold readPair at h
  split at h
  · cases h
  · rename_i lo j1 h1
    have a := readEnd_le h1
    split at h
    · split at h
      · cases h
      · rename_i hi k h2
        have b := readEnd_le h2
        cases h
        exact ⟨by omega, by omega, ⟨by omega, by omega⟩, by omega, by omega⟩
    · cases h
      exact ⟨by omega, by omega, ⟨by omega, by omega⟩, by omega, by omega⟩
theorem readFrom_good {l : List Nat} : ∀ (n i : Nat) (acc ps : List (Int × Int)), (∀ p ∈ acc, GoodP p) → readFrom l n i acc = .ok ps → (∀ p ∈ ps, GoodP p) ∧ ps ≠ []
  | 0, _, _, _, _, h => by cases h
  | n + 1, i, acc, ps, ha, h => by
    rw [readFrom] at h
    split at h
    · cases h
    · rename_i p j hp
      have a := readPair_le hp
      have hb : ∀ q ∈ acc ++ [p], GoodP q := by
        intro q hq
        rcases List.mem_append.mp hq with hq | hq
        · exact ha q hq
        · rw [List.mem_singleton.mp hq]; exact a.2.2
      split at h
      · cases h; exact ⟨hb, by simp⟩
      · split at h
        · exact readFrom_good n (j + 1) (acc ++ [p]) ps hb h
        · cases h
theorem readFrom_len {l : List Nat} : ∀ (n i : Nat) (acc ps : List (Int × Int)), readFrom l n i acc = .ok ps → ps.length ≤ acc.length + n
  | 0, _, _, _, h => by cases h
  | n + 1, i, acc, ps, h => by
    rw [readFrom] at h
    split at h
    · cases h
    · split at h
      · cases h; simp
      · split at h
        · have := readFrom_len n _ _ _ h
          simp only [List.length_append, List.length_cons, List.length_nil] at this
          omega
        · cases h

theorem rf_none {l : List Nat} {n i : Nat} {ps : List (Int × Int)} (hn : 0 < n) (h : readEnd l i = none) : readFrom l n i ps = .error i := by
  obtain ⟨m, rfl⟩ : ∃ m, n = m + 1 := ⟨n - 1, by omega⟩
  have e : readPair l i = .error i := by unfold readPair; rw [h]
  rw [readFrom, e]
theorem rf_none2 {l : List Nat} {n i j : Nat} {a : Int} {ps : List (Int × Int)} (hn : 0 < n) (h : readEnd l i = some (a, j)) (hc : l[j]? = some 58) (h2 : readEnd l (j + 1) = none) : readFrom l n i ps = .error (j + 1) := by
  obtain ⟨m, rfl⟩ : ∃ m, n = m + 1 := ⟨n - 1, by omega⟩
  have e : readPair l i = .error (j + 1) := by
    unfold readPair
    rw [h]
    simp only [hc, if_true, h2]
  rw [readFrom, e]
theorem rp_one {l : List Nat} {i j : Nat} {a : Int} (h : readEnd l i = some (a, j)) (hc : ¬ l[j]? = some 58) : readPair l i = .ok ((a, a), j) := by
  unfold readPair
  rw [h]
  simp only [hc, if_false]
theorem rp_two {l : List Nat} {i j k : Nat} {a b : Int} (h : readEnd l i = some (a, j)) (hc : l[j]? = some 58) (h2 : readEnd l (j + 1) = some (b, k)) : readPair l i = .ok ((a, b), k) := by
  unfold readPair
  rw [h]
  simp only [hc, if_true, h2]
theorem rf_end {l : List Nat} {n i j : Nat} {p : Int × Int} {ps : List (Int × Int)} (hn : 0 < n) (h : readPair l i = .ok (p, j)) (hj : j = l.length) : readFrom l n i ps = .ok (ps ++ [p]) := by
  obtain ⟨m, rfl⟩ : ∃ m, n = m + 1 := ⟨n - 1, by omega⟩
  rw [readFrom, h]
  simp only [hj, if_true]
theorem rf_bad {l : List Nat} {n i j : Nat} {p : Int × Int} {ps : List (Int × Int)} (hn : 0 < n) (h : readPair l i = .ok (p, j)) (hj : j ≠ l.length) (hc : ¬ l[j]? = some 44) : readFrom l n i ps = .error j := by
  obtain ⟨m, rfl⟩ : ∃ m, n = m + 1 := ⟨n - 1, by omega⟩
  rw [readFrom, h]
  simp only [hj, if_false, hc]
theorem rf_next {l : List Nat} {n i j : Nat} {p : Int × Int} {ps : List (Int × Int)} (hn : 0 < n) (h : readPair l i = .ok (p, j)) (hj : j ≠ l.length) (hc : l[j]? = some 44) : readFrom l n i ps = readFrom l (n - 1) (j + 1) (ps ++ [p]) := by
  obtain ⟨m, rfl⟩ : ∃ m, n = m + 1 := ⟨n - 1, by omega⟩
  rw [readFrom, h]
  simp only [hj, if_false, hc, if_true]
  rfl

/-- the ledger bears the pairs -/
inductive PairsIn (led : List (Addr × Obj)) : List Value → List (Int × Int) → Prop where
  | nil : PairsIn led [] []
  | snoc {vs : List Value} {ps : List (Int × Int)} {a : Addr} {x y : Int} {t u : Tok} {k : Nat} : PairsIn led vs ps → (a, ({ cls := .type "tuple", data := .seq #[.int x t, .int y u] k } : Obj)) ∈ led → PairsIn led (vs ++ [Value.ref a]) (ps ++ [(x, y)])
theorem PairsIn.mono {led led' : List (Addr × Obj)} {vs : List Value} {ps : List (Int × Int)} (h : PairsIn led vs ps) (hs : ∀ p ∈ led, p ∈ led') : PairsIn led' vs ps := by
  induction h with
  | nil => exact .nil
  | snoc _ hm ih => exact .snoc ih (hs _ hm)
theorem PairsIn.length {led : List (Addr × Obj)} {vs : List Value} {ps : List (Int × Int)} (h : PairsIn led vs ps) : vs.length = ps.length := by
  induction h with
  | nil => rfl
  | snoc _ _ ih => simp [ih]

/-- a heap bears the pairs -/
inductive PairsAt (h : Heap) : List Value → List (Int × Int) → Prop where
  | nil : PairsAt h [] []
  | cons {vs : List Value} {ps : List (Int × Int)} {a : Addr} {x y : Int} {t u : Tok} : IsTup h a #[.int x t, .int y u] → PairsAt h vs ps → PairsAt h (.ref a :: vs) ((x, y) :: ps)
theorem PairsAt.keeps {h h' : Heap} {vs : List Value} {ps : List (Int × Int)} (x : PairsAt h vs ps) (k : h.StaysIn h') : PairsAt h' vs ps := by
  induction x with
  | nil => exact .nil
  | cons hm _ ih => exact .cons (hm.keeps k) ih
theorem PairsAt.snoc {h : Heap} {a : Addr} {x y : Int} {t u : Tok} {vs : List Value} {ps : List (Int × Int)} (w : PairsAt h vs ps) (hm : IsTup h a #[.int x t, .int y u]) : PairsAt h (vs ++ [Value.ref a]) (ps ++ [(x, y)]) := by
  induction w with
  | nil => exact .cons hm .nil
  | cons h1 _ ih => exact .cons h1 ih
theorem PairsAt.length {h : Heap} {vs : List Value} {ps : List (Int × Int)} (x : PairsAt h vs ps) : vs.length = ps.length := by
  induction x with
  | nil => rfl
  | cons _ _ ih => simp [ih]
theorem PairsIn.at {h₀ h : Heap} {L : Addr} {led : List (Addr × Obj)} {vs : List Value} {ps : List (Int × Int)} (N : News h₀ L h led) (x : PairsIn led vs ps) : PairsAt h vs ps := by
  induction x with
  | nil => exact .nil
  | snoc _ hm ih => exact ih.snoc ⟨_, (N _ hm).1, rfl, _, rfl⟩
theorem PairsAt.get {h : Heap} {vs : List Value} {ps : List (Int × Int)} (x : PairsAt h vs ps) : ∀ {i : Nat} {v : Value}, vs[i]? = some v → ∃ a p t u, v = .ref a ∧ ps[i]? = some p ∧ IsTup h a #[.int p.1 t, .int p.2 u] := by
  induction x with
  | nil => intro i v h; simp at h
  | @cons vs ps a x y t u hm _ ih =>
    intro i v h
    cases i with
    | zero => simp at h; subst h; exact ⟨a, (x, y), t, u, rfl, rfl, hm⟩
    | succ i => simp at h; simpa using ih h
theorem PairsAt.drop {h : Heap} : ∀ {vs : List Value} {ps : List (Int × Int)} (n : Nat), PairsAt h vs ps → PairsAt h (vs.drop n) (ps.drop n)
  | _, _, 0, x => x
  | _, _, _ + 1, .nil => .nil
  | _, _, n + 1, .cons _ x => by simpa using PairsAt.drop n x
theorem PairsAt.take {h : Heap} : ∀ {vs : List Value} {ps : List (Int × Int)} (n : Nat), PairsAt h vs ps → PairsAt h (vs.take n) (ps.take n)
  | _, _, 0, _ => .nil
  | _, _, _ + 1, .nil => .nil
  | _, _, n + 1, .cons hm x => by simpa using PairsAt.cons hm (PairsAt.take n x)
noncomputable def pairD (p : Int × Int) : PyData := .tuple [.int p.1, .int p.2]
theorem PairsAt.reads {h : Heap} {vs : List Value} {ps : List (Int × Int)} (x : PairsAt h vs ps) : ∃ as, ReadsAll h vs (ps.map pairD) as := by
  induction x with
  | nil => exact ⟨_, .nil⟩
  | cons hm _ ih =>
    obtain ⟨as, q⟩ := ih
    obtain ⟨o, ho, hc, n, hd⟩ := hm
    exact ⟨_, .cons (.tuple ho hc hd (.cons (.int _ _) (.cons (.int _ _) .nil))) q⟩
/-- a value of the heap is a tuple of pairs -/
noncomputable def SetAt (h : Heap) (v : Value) (ps : List (Int × Int)) : Prop := ∃ b vs, v = .ref b ∧ IsTup h b vs.toArray ∧ PairsAt h vs ps
theorem SetAt.keeps {h h' : Heap} {v : Value} {ps : List (Int × Int)} (x : SetAt h v ps) (k : h.StaysIn h') : SetAt h' v ps :=
  let ⟨b, vs, e, t, p⟩ := x; ⟨b, vs, e, t.keeps k, p.keeps k⟩
theorem SetAt.reads {h : Heap} {v : Value} {ps : List (Int × Int)} (x : SetAt h v ps) : ∃ as, Reads h v (.tuple (ps.map pairD)) as := by
  obtain ⟨b, vs, rfl, ⟨o, ho, hc, n, hd⟩, p⟩ := x
  obtain ⟨as, q⟩ := p.reads
  exact ⟨as, .tuple ho hc hd (by simpa using q)⟩

theorem fr3 {h₀ h : Heap} {L : Addr} {m : Str → Option Value} {a b c : Str} {x y z : Option Value} (F : Fr h₀ L h m) (ha : m a = x) (hb : m b = y) (hc : m c = z) : Fr h₀ L h (fun s => if s = a then x else if s = b then y else if s = c then z else m s) := by
  have e : (fun s => if s = a then x else if s = b then y else if s = c then z else m s) = m := by
    funext s
    split
    · rename_i h; rw [h, ha]
    · split
      · rename_i h; rw [h, hb]
      · split
        · rename_i h; rw [h, hc]
        · rfl
  rw [e]; exact F
theorem news_swap {h₀ h : Heap} {L : Addr} {x y : Addr × Obj} {r : List (Addr × Obj)} (N : News h₀ L h (x :: y :: r)) : News h₀ L h (y :: x :: r) := by
  intro p hp
  rcases List.mem_cons.mp hp with rfl | hp
  · exact N _ (.tail _ (.head _))
  · rcases List.mem_cons.mp hp with rfl | hp
    · exact N _ (.head _)
    · exact N _ (.tail _ (.tail _ hp))
theorem news_tup {h₀ h : Heap} {L a : Addr} {news : List (Addr × Obj)} {vs : Array Value} {n : Nat} (N : News h₀ L h news) (hm : (a, ({ cls := .type "tuple", data := .seq vs n } : Obj)) ∈ news) : IsTup h a vs := ⟨_, (N _ hm).1, rfl, _, rfl⟩

/-- what holds between the turns of a reading loop: nm holds the list of the pairs read so far -/
noncomputable def ReadJ (l : List Nat) (t1 : Tok) (nm : String) (n : Nat) (m : Str → Option Value) (nx : List (Addr × Obj)) : Prop :=
  ∃ (a : Addr) (rest : List (Addr × Obj)) (vs : List Value) (ps : List (Int × Int)) (kk i : Nat) (u : Tok), nx = (a, listOf vs.toArray kk) :: rest ∧ (∀ p ∈ rest, p.1 ≠ a) ∧ PairsIn rest vs ps ∧ m (Str.ofString "text") = some (.str (S l) t1) ∧ m (Str.ofString nm) = some (.ref a) ∧ m (Str.ofString "at") = some (.int ((i : Nat) : Int) u) ∧
    i ≤ l.length ∧ l.length < n + i ∧ readFrom l n i ps = readSet l ∧ vs.length ≤ i
theorem readJ_start {l : List Nat} {t1 : Tok} {nm : String} {m : Str → Option Value} {a : Addr} {u : Tok} (h1 : m (Str.ofString "text") = some (.str (S l) t1)) (h2 : m (Str.ofString nm) = some (.ref a)) (h3 : m (Str.ofString "at") = some (.int 0 u)) : ReadJ l t1 nm (l.length + 1) m [(a, listOf #[] 0)] :=
  ⟨a, [], [], [], 0, 0, u, rfl, (fun _ h => nomatch h), .nil, h1, h2, h3, by omega, by omega, rfl, by simp⟩
theorem readJ_next {l : List Nat} {t1 : Tok} {nm : String} {n : Nat} {m : Str → Option Value} {a T : Addr} {rest : List (Addr × Obj)} {vs : List Value} {ps : List (Int × Int)} {kk i j c : Nat} {z : Int} {u tx ty : Tok} {x y : Int}
    (h1 : m (Str.ofString "text") = some (.str (S l) t1)) (h2 : m (Str.ofString nm) = some (.ref a)) (h3 : m (Str.ofString "at") = some (.int z u)) (hz : z = ((j + 1 : Nat) : Int))
    (hoff : ∀ p ∈ rest, p.1 ≠ a) (hP : PairsIn rest vs ps) (hT : T ≠ a) (hp : readPair l i = .ok ((x, y), j)) (hj : j ≠ l.length) (hc : l[j]? = some 44)
    (hn : l.length < n + i) (hr : readFrom l n i ps = readSet l) (hv : vs.length ≤ i) : ReadJ l t1 nm (n - 1) m ((a, listOf (vs.toArray.push (Value.ref T)) c) :: (T, { cls := .type "tuple", data := .seq #[.int x tx, .int y ty] kk }) :: rest) := by
  have b := readPair_le hp
  have hn0 : 0 < n := by omega
  refine ⟨a, (T, { cls := .type "tuple", data := .seq #[.int x tx, .int y ty] kk }) :: rest, vs ++ [Value.ref T], ps ++ [(x, y)], c, j + 1, u, by simp, ?_, ?_, h1, h2, by rw [h3, hz], by omega, by omega, ?_, ?_⟩
  · intro p hp
    rcases List.mem_cons.mp hp with rfl | hp
    · exact hT
    · exact hoff p hp
  · exact .snoc (hP.mono fun p hp => .tail _ hp) (.head _)
  · rw [← hr, rf_next hn0 hp hj hc]
  · simp; omega
theorem set_end {h₀ h : Heap} {L a T D : Addr} {rest : List (Addr × Obj)} {vs : List Value} {ps : List (Int × Int)} {kk kd : Nat} {tx ty : Tok} {x y : Int} {zs : List Value} {o : Obj}
    (N : News h₀ L h ((D, { cls := .type "tuple", data := .seq zs.toArray kd }) :: (T, { cls := .type "tuple", data := .seq #[.int x tx, .int y ty] kk }) :: (a, o) :: rest)) (hz : zs = vs ++ [Value.ref T]) (hP : PairsIn rest vs ps) : SetAt h (.ref D) (ps ++ [(x, y)]) := by
  subst hz
  refine ⟨D, vs ++ [Value.ref T], rfl, news_tup N (.head _), ?_⟩
  have q : PairsIn ((D, { cls := .type "tuple", data := .seq (vs ++ [Value.ref T]).toArray kd }) :: (T, { cls := .type "tuple", data := .seq #[.int x tx, .int y ty] kk }) :: (a, o) :: rest) (vs ++ [Value.ref T]) (ps ++ [(x, y)]) :=
    .snoc (hP.mono fun p hp => List.Mem.tail _ (List.Mem.tail _ (List.Mem.tail _ hp))) (List.Mem.tail _ (List.Mem.head _))
  exact PairsIn.at N q
theorem news_tail {h₀ h : Heap} {L : Addr} {x : Addr × Obj} {r : List (Addr × Obj)} (N : News h₀ L h (x :: r)) : News h₀ L h r := fun p hp => N p (.tail _ hp)
theorem comma_of {l : List Nat} {j : Nat} (hj : j < l.length) (h : (Txt.item (S l) (j : Int) != Str.ofString ",") = true) : ¬ l[j]? = some 44 := by
  rw [S_comma, item_isnt hj] at h
  simpa using h
theorem comma_is {l : List Nat} {j : Nat} (hj : j < l.length) (h : (Txt.item (S l) (j : Int) != Str.ofString ",") = false) : l[j]? = some 44 := by
  rw [S_comma, item_isnt hj] at h
  simpa using h
end

section
open PySem PySem.W PySem.Calls PyProof.Rows
set_option maxRecDepth 100000
set_option maxHeartbeats 8000000
open LCg
section
variable {prog : Program} {w : World} {A : Around} {E : Value → Shared → Prop} {s : Shared} {h₀ : Heap} {L : Addr} {m : Str → Option Value} {env : Env}

/-- what one turn leaves -/
noncomputable def LcGot (h₀ : Heap) (L : Addr) (m : Str → Option Value) (s : Shared) (nw : List (Addr × Obj)) (G : Value → Prop) (y : Value) (s' : Shared) : Prop := ∃ h' tk', s' = { s with heap := h', toks := tk' } ∧ Fr h₀ L h' m ∧ News h₀ L h' nw ∧ G y
theorem LcGot.mk {h₀ : Heap} {L : Addr} {m : Str → Option Value} {s : Shared} {nw : List (Addr × Obj)} {G : Value → Prop} {y : Value} {h' : Heap} {tk' : Nat} (F : Fr h₀ L h' m) (N : News h₀ L h' nw) (hG : G y) : LcGot h₀ L m s nw G y { s with heap := h', toks := tk' } := ⟨h', tk', rfl, F, N, hG⟩
/-- one turn of a block, over a claim of the items made so far -/
noncomputable def LcTurn (prog : Program) (w : World) (A : Around) (h₀ : Heap) (L : Addr) (m : Str → Option Value) (env : Env) (elt : Expr) (x : Str) (scope : Scope) (cl : List (Str × Addr)) (s : Shared) (P : Nat → Value → Prop) (news : List (Addr × Obj)) (G : Nat → List Value → Prop) : Prop :=
  ∀ i ys v I oI C oC D m₂ h tk (E' : Value → Shared → Prop), P i v → G i ys → NsObj oC m₂ → m₂ x = some v → Fr h₀ L h m → News h₀ L h ((I, oI) :: (C, oC) :: (D, lst ys) :: news) → ((@Ne Nat I C) ∧ (@Ne Nat I D) ∧ (@Ne Nat C D)) →
      wpAny (model prog w) A (eval elt (compEnvC scope cl C env)) (LcGot h₀ L m s ((I, oI) :: (C, oC) :: (D, lst ys) :: news) (fun y => G (i + 1) (ys ++ [y]))) E' { s with heap := h, toks := tk }

theorem lc_rest {elt : Expr} {x : Str} {scope : Scope} {cl : List (Str × Addr)} {s₁ : Shared} {P : Nat → Value → Prop} {news : List (Addr × Obj)} {G : Nat → List Value → Prop} {n : Nat} {Fin : List Value → List (Addr × Obj) → Prop}
    (T : LcTurn prog w A h₀ L m env elt x scope cl s₁ (fun i v => i < n ∧ P i v) news G) (fin : ∀ ys, G n ys → Fin ys news) :
    ∀ k i ys, k + i = n → G i ys → CompRest prog w A h₀ L m env elt x scope cl s₁ (fun nw => nw = news) P Fin k i ys news
  | 0, i, ys, hk, hG => CompRest.zero (fin ys ((show i = n by omega) ▸ hG))
  | k + 1, i, ys, hk, hG => CompRest.succ fun v I oI C oC D m₂ h tk E' hP hC hx F N off ne => by
    refine wpAny_mono (T i ys v I oI C oC D m₂ h tk E' ⟨by omega, hP⟩ hG hC hx F N ne) (fun y s' q => ?_) fun _ _ e => e
    obtain ⟨h', tk', rfl, F', N', hG'⟩ := q
    exact ⟨h', tk', news, rfl, F', N', off, rfl, lc_rest T fin k (i + 1) (ys ++ [y]) (by omega) hG'⟩

theorem tuple_st {ax I : Addr} {its : Array Value} {news : List (Addr × Obj)} (hsrc : ∀ h, (∀ b o, h₀.get? b = some o → h.get? b = some o) → News h₀ L h news → IsTup h ax its) : ∀ i (h h' : Heap) (o : Obj) (nw : List (Addr × Obj)), (h.IsTupleIter I ax i ∧ h.IsTuple ax its) → h.get? I = some o → h'.get? I = some o → (∀ b o, h₀.get? b = some o → h'.get? b = some o) → News h₀ L h' nw → nw = news → (h'.IsTupleIter I ax i ∧ h'.IsTuple ax its) :=
  fun i h h' o nw st e e' k N S => ⟨by obtain ⟨o', q, r⟩ := st.1; rw [e] at q; cases q; exact ⟨o, e', r⟩, hsrc h' k (S ▸ N)⟩

/-- a block over a tuple -/
theorem comp_tup {elt iter : Expr} {x : Str} {px : Pos} {scope : Scope} {cl : List (Str × Addr)} {pos : Pos} {Q : Value → Shared → Prop} {ax : Addr} {its : Array Value} {news : List (Addr × Obj)} (G : Nat → List Value → Prop)
    (F : Fr h₀ L s.heap m) (N : News h₀ L s.heap news) (hsrc : ∀ h, (∀ b o, h₀.get? b = some o → h.get? b = some o) → News h₀ L h news → IsTup h ax its) (hsz : its.size ≤ sizeLine) (hh : A.handled = none) (hG : G 0 [])
    (hit : ∀ (Q' : Value → Shared → Prop), Q' (.ref ax) s → wpAny (model prog w) A (eval iter env) Q' E s)
    (T : LcTurn prog w A h₀ L m env elt x scope cl s (fun i v => i < its.size ∧ its[i]? = some v) news G)
    (fin : ∀ D h tk ys, G its.size ys → Fr h₀ L h m → News h₀ L h ((D, lst ys) :: news) → Off1 D news → Q (.ref D) { s with heap := h, toks := tk })
    (hclos : closureFor scope env = pure cl := by with_unfolding_all rfl) (hcell : ∀ y ∈ scope.names, y.2 ≠ .cell := by decide) (hkind : scope.kind = .function := by rfl)
    (hnames : ∀ y ∈ scope.names, y.2 = .local → scope.names.lookup y.1 = some .local := by decide) (hx : scope.names.lookup x = some .local := by rfl)
    (hs : ∀ x, foldedSetIterable iter env x = pure x := by intro _; rfl) :
    wpAny (model prog w) A (eval (.ListComp elt [⟨.Name x px, iter, [], 0⟩] scope pos) env) Q E s := by
  rw [eval_ListComp]
  refine wpAny_comprehension_free (use := none) rfl hs hclos hkind hnames (hit _ ?_)
  have hl : s.heap.IsTuple ax its := hsrc _ F.keep N
  have hlt : ax < s.heap.objs.size := by obtain ⟨_, e, _⟩ := hl; exact Heap.lt_size e
  refine wpAny_pyIter_tuple hl ?_
  have up : ∀ b o, s.heap.get? b = some o → (s.heap.push { cls := .type "tuple_iterator", data := .fields #[.ref ax, .int 0 0] }).get? b = some o := fun b o e => Heap.get?_push_of_some _ e
  have hl2 : (s.heap.push { cls := .type "tuple_iterator", data := .fields #[.ref ax, .int 0 0] }).IsTuple ax its := IsTup.keeps hl up
  refine block_U (S := fun nw => nw = news) (Fin := fun ys news' => ∀ D h tk, Fr h₀ L h m → News h₀ L h ((D, lst ys) :: news') → Off1 D news' → Q (.ref D) { s with heap := h, toks := tk }) (Walks.tuple hh s.heap.objs.size ax (Nat.ne_of_lt hlt) its) hsz (fun i h st => by obtain ⟨o, e, _⟩ := st.1; exact ⟨o, e⟩) (tuple_st hsrc) hcell hkind hx ⟨⟨_, Heap.get?_push_size _ rfl, rfl, rfl⟩, hl2⟩ (fun b hb => ?_)
    (F.keeps up) (N.grown up) (Nat.ne_of_lt F.ns.lt) (next_is_new F) (fun p hp => Nat.ne_of_lt (Heap.lt_size (N p hp).1)) rfl (lc_rest (n := its.size) (s₁ := { s with heap := s.heap.push { cls := .type "tuple_iterator", data := .fields #[.ref ax, .int 0 0] } }) (by exact T) (fun ys hG D h tk F' N' o1 => fin D h tk ys hG F' N' o1) _ _ _ (by omega) hG) ?_
  · show b < (s.heap.push _).objs.size
    rw [Heap.size_push]
    rcases List.mem_cons.mp hb with rfl | hb
    · exact Nat.lt_succ_self _
    · rw [List.mem_singleton.mp hb]; exact Nat.lt_succ_of_lt hlt
  · intro D C h tk m' ys news' F' N' o1 hn hC₀ hD₀ hCL hDL hCD offC fin
    refine ⟨m', hn, fun h'' hs'' => fin D h'' tk (F'.change hs'' hCL hC₀) (fun p hp => ?_) o1⟩
    refine ⟨hs''.extBut _ _ ?_ (N' p hp).1, (N' p hp).2⟩
    rcases List.mem_cons.mp hp with rfl | hp
    · exact Ne.symm hCD
    · exact offC p hp

theorem comp_tup_assign {elt iter : Expr} {x y : Str} {px py : Pos} {scope : Scope} {cl : List (Str × Addr)} {pos spos : Pos} {Q : Flow → Shared → Prop} {ax : Addr} {its : Array Value} {news : List (Addr × Obj)} (G : Nat → List Value → Prop)
    (F : Fr h₀ L s.heap m) (N : News h₀ L s.heap news) (hsrc : ∀ h, (∀ b o, h₀.get? b = some o → h.get? b = some o) → News h₀ L h news → IsTup h ax its) (hsz : its.size ≤ sizeLine) (hh : A.handled = none) (hG : G 0 [])
    (hit : ∀ (Q' : Value → Shared → Prop), Q' (.ref ax) s → wpAny (model prog w) A (eval iter env) Q' E s)
    (T : LcTurn prog w A h₀ L m env elt x scope cl s (fun i v => i < its.size ∧ its[i]? = some v) news G)
    (fin : ∀ D h tk ys, G its.size ys → Fr h₀ L h (fun z => if z = y then some (.ref D) else m z) → News h₀ L h ((D, lst ys) :: news) → Off1 D news → Q .next { s with heap := h, toks := tk })
    (hLe : env.locals = L := by rfl)
    (hsw : swapsWith (.ListComp elt [⟨.Name x px, iter, [], 0⟩] scope pos) (some (.Name y py)) spos.line env = pure true := by with_unfolding_all rfl)
    (hclos : closureFor scope env = pure cl := by with_unfolding_all rfl) (hcell : ∀ z ∈ scope.names, z.2 ≠ .cell := by decide) (hkind : scope.kind = .function := by rfl)
    (hnames : ∀ z ∈ scope.names, z.2 = .local → scope.names.lookup z.1 = some .local := by decide) (hx : scope.names.lookup x = some .local := by rfl)
    (hy : env.kindOf y = some .local := by rfl) (hp : (env.scope.kind == .class || (env.scope.kind == .module && env.locals != env.globals)) = false := by rfl)
    (hs : ∀ x, foldedSetIterable iter env x = pure x := by intro _; rfl) :
    wpAny (model prog w) A (exec (.Assign [.Name y py] (.ListComp elt [⟨.Name x px, iter, [], 0⟩] scope pos) spos) env) Q E s := by
  subst hLe
  rw [exec_Assign_Name_used _ _ _ _ hsw]
  refine wpAny_bind (wpAny_standAt (wpAny_bind ?_))
  show wpAny _ A (do let _ ← comprehension (.ListComp elt [⟨.Name x px, iter, [], 0⟩] scope pos) scope env _ (newList []) false (eval iter env) (some (assign (.Name y py) env))) _ _ s
  refine wpAny_bind (wpAny_mono (wpAny_comprehension_free (use := some (assign (.Name y py) env)) (Q := fun _ s' => Q .next s') rfl hs hclos hkind hnames
    (hit _ ?_)) (fun _ s' hq => wpAny_pure (wpAny_pure hq)) fun _ _ e => e)
  have hl : s.heap.IsTuple ax its := hsrc _ F.keep N
  have hlt : ax < s.heap.objs.size := by obtain ⟨_, e, _⟩ := hl; exact Heap.lt_size e
  refine wpAny_pyIter_tuple hl ?_
  have up : ∀ b o, s.heap.get? b = some o → (s.heap.push { cls := .type "tuple_iterator", data := .fields #[.ref ax, .int 0 0] }).get? b = some o := fun b o e => Heap.get?_push_of_some _ e
  have hl2 : (s.heap.push { cls := .type "tuple_iterator", data := .fields #[.ref ax, .int 0 0] }).IsTuple ax its := IsTup.keeps hl up
  refine block_U (S := fun nw => nw = news) (Fin := fun ys news' => ∀ D h tk, Fr h₀ env.locals h (fun z => if z = y then some (.ref D) else m z) → News h₀ env.locals h ((D, lst ys) :: news') → Off1 D news' → Q .next { s with heap := h, toks := tk }) (Walks.tuple hh s.heap.objs.size ax (Nat.ne_of_lt hlt) its) hsz (fun i h st => by obtain ⟨o, e, _⟩ := st.1; exact ⟨o, e⟩) (tuple_st hsrc) hcell hkind hx ⟨⟨_, Heap.get?_push_size _ rfl, rfl, rfl⟩, hl2⟩ (fun b hb => ?_)
    (F.keeps up) (N.grown up) (Nat.ne_of_lt F.ns.lt) (next_is_new F) (fun p hp => Nat.ne_of_lt (Heap.lt_size (N p hp).1)) rfl (lc_rest (n := its.size) (s₁ := { s with heap := s.heap.push { cls := .type "tuple_iterator", data := .fields #[.ref ax, .int 0 0] } }) (by exact T) (fun ys hG D h tk F' N' o1 => fin D h tk ys hG F' N' o1) _ _ _ (by omega) hG) ?_
  · show b < (s.heap.push _).objs.size
    rw [Heap.size_push]
    rcases List.mem_cons.mp hb with rfl | hb
    · exact Nat.lt_succ_self _
    · rw [List.mem_singleton.mp hb]; exact Nat.lt_succ_of_lt hlt
  · intro D C h' tk m' ys news' F' N' o1 hn hC₀ hD₀ hCL hDL hCD offC fin
    show wpAny _ A (assign (.Name y py) env (.ref D)) _ _ _
    refine wpAny_assign_Name (wpAny_storeName_local hy F'.ns (fun h₂ hn₂ hs₂ => ?_) hp)
    have hL₀ : h₀.get? env.locals = none := Heap.get?_none_of_le F'.above
    have F₂ : Fr h₀ env.locals h₂ (fun z => if z = y then some (.ref D) else m z) := ⟨hn₂, fun b o e => hs₂.extBut b o (fun q => by rw [q, hL₀] at e; cases e) (F'.keep b o e), F'.above⟩
    refine ⟨m', hn.sameBut hs₂ hCL, fun h'' hs'' => fin D h'' _ (F₂.change hs'' hCL hC₀) (fun p hp => ?_) o1⟩
    have z : h₂.get? p.1 = some p.2 := hs₂.extBut _ _ (N' p hp).2.1 (N' p hp).1
    refine ⟨hs''.extBut _ _ ?_ z, (N' p hp).2⟩
    rcases List.mem_cons.mp hp with rfl | hp
    · exact Ne.symm hCD
    · exact offC p hp
end
end

section
open PySem PySem.W PySem.Calls PyProof.Rows
set_option maxRecDepth 100000
set_option maxHeartbeats 8000000

theorem dig_nat (m : Nat) : dig ((m : Nat) : Int) = (Nat.toDigits 10 m).map Char.toNat := PySem.W.KIN.signs_num m
theorem digitChar_range : ∀ d : Nat, d < 10 → 48 ≤ (Nat.digitChar d).toNat ∧ (Nat.digitChar d).toNat ≤ 57 := by decide
theorem digitChar_pos : ∀ d : Nat, d < 10 → d ≠ 0 → (Nat.digitChar d).toNat ≠ 48 := by decide
theorem toDigits_split {m : Nat} (h : ¬ m < 10) : Nat.toDigits 10 m = Nat.toDigits 10 (m / 10) ++ [Nat.digitChar (m % 10)] := by
  have hm : m % 10 < 10 := Nat.mod_lt m (by decide)
  have t : Nat.toDigits 10 (m / 10) ++ Nat.toDigits 10 (m % 10) = Nat.toDigits 10 (10 * (m / 10) + m % 10) := Nat.toDigits_append_toDigits (by decide) (by omega) hm
  rw [Nat.div_add_mod, Nat.toDigits_of_lt_base hm] at t
  exact t.symm
theorem dig_facts (m : Nat) : (∀ c ∈ dig (m : Int), isD c = true) ∧ dig (m : Int) ≠ [] ∧ (m ≠ 0 → (dig (m : Int)).head? ≠ some 48) := by
  rw [dig_nat]
  induction m using Nat.strongRecOn with
  | _ m ih =>
    by_cases h : m < 10
    · rw [Nat.toDigits_of_lt_base h]
      have r := digitChar_range m h
      refine ⟨?_, by simp, ?_⟩
      · intro c hc
        rw [List.map_cons, List.map_nil, List.mem_singleton] at hc
        rw [hc]
        unfold isD
        rw [Bool.and_eq_true, decide_eq_true_eq, decide_eq_true_eq]
        exact r
      · intro h0 e
        have p := digitChar_pos m h h0
        rw [List.map_cons, List.head?_cons] at e
        exact p (by injection e)
    · rw [toDigits_split h]
      obtain ⟨a, b, c⟩ := ih (m / 10) (by omega)
      rw [List.map_append]
      refine ⟨?_, ?_, ?_⟩
      · intro c hc
        rcases List.mem_append.mp hc with hc | hc
        · exact a c hc
        · rw [List.map_cons, List.map_nil, List.mem_singleton] at hc
          rw [hc]
          unfold isD
          rw [Bool.and_eq_true, decide_eq_true_eq, decide_eq_true_eq]
          exact digitChar_range _ (Nat.mod_lt m (by decide))
      · intro e
        exact b (List.append_eq_nil_iff.mp e).1
      · intro _
        cases q : (Nat.toDigits 10 (m / 10)).map Char.toNat with
        | nil => exact absurd q b
        | cons d r =>
          have c' := c (by omega)
          rw [q] at c'
          simpa using c'
theorem dig_val (m : Nat) : PySem.NumText.digitsVal (dig (m : Int)) = m := by
  rw [dig_nat]; exact PySem.W.KIN.val_back m

theorem takeWhile_front {p : Nat → Bool} : ∀ {a b : List Nat}, (∀ c ∈ a, p c = true) → (∀ c, b.head? = some c → p c = false) → (a ++ b).takeWhile p = a
  | [], [], _, _ => rfl
  | [], c :: b, _, hb => by rw [List.nil_append, List.takeWhile_cons, hb c rfl]; rfl
  | c :: a, b, ha, hb => by
    rw [List.cons_append, List.takeWhile_cons, ha c (.head _), if_pos rfl, takeWhile_front (fun d hd => ha d (.tail _ hd)) hb]
noncomputable def Stops (suf : List Nat) : Prop := ∀ c, suf.head? = some c → isD c = false
theorem readEnd_show {pre suf l : List Nat} {n : Int} (hl : l = pre ++ (showEnd n ++ suf)) (h0 : 0 ≤ n) (h1 : n < 4294967296) (hs : Stops suf) : readEnd l pre.length = some (n, pre.length + (showEnd n).length) := by
  subst hl
  unfold readEnd
  have hd : (pre ++ (showEnd n ++ suf)).drop pre.length = showEnd n ++ suf := by simp
  have hg : (pre ++ (showEnd n ++ suf))[pre.length]? = (showEnd n ++ suf).head? := by
    rw [← List.head?_drop, hd]
  rw [hd, hg]
  by_cases hz : n = 0
  · subst hz
    rfl
  · obtain ⟨m, rfl⟩ := Int.eq_ofNat_of_zero_le h0
    have hm : m ≠ 0 := fun e => hz (by rw [e]; rfl)
    obtain ⟨f1, f2, f3⟩ := dig_facts m
    have e1 : showEnd (m : Int) = dig (m : Int) := if_neg hz
    rw [e1, takeWhile_front f1 hs]
    have hh : (dig (m : Int) ++ suf).head? = (dig (m : Int)).head? := by
      cases q : dig (m : Int) with
      | nil => exact absurd q f2
      | cons a b => rfl
    rw [hh, dig_val]
    have f4 : (dig (m : Int)).head? ≠ some 42 := by
      cases q : dig (m : Int) with
      | nil => simp
      | cons a b =>
        rw [List.head?_cons]
        intro e
        injection e with e
        have := f1 a (by rw [q]; exact .head _)
        rw [e] at this
        exact absurd this (by decide)
    rw [if_neg f4, if_neg]
    rintro (h | h | h)
    · exact f2 h
    · exact f3 hm h
    · omega
theorem showEnd_ne (n : Int) (h0 : 0 ≤ n) : showEnd n ≠ [] := by
  unfold showEnd
  split
  · simp
  · obtain ⟨m, rfl⟩ := Int.eq_ofNat_of_zero_le h0
    exact (dig_facts m).2.1
theorem showEnd_inj {a b : Int} (ha : 0 ≤ a) (ha' : a < 4294967296) (hb : 0 ≤ b) (hb' : b < 4294967296) (h : showEnd a = showEnd b) : a = b := by
  have e1 := readEnd_show (pre := []) (suf := []) rfl ha ha' (by intro c hc; cases hc)
  have e2 := readEnd_show (pre := []) (suf := []) rfl hb hb' (by intro c hc; cases hc)
  rw [h, e2] at e1
  injection e1 with e1
  exact (Prod.mk.inj e1).1.symm
theorem showEnd_eq {a b : Int} (ha : 0 ≤ a) (ha' : a < 4294967296) (hb : 0 ≤ b) (hb' : b < 4294967296) (h : (S (showEnd a) == S (showEnd b)) = true) : a = b := by
  rw [S_beq] at h
  exact showEnd_inj ha ha' hb hb' (of_decide_eq_true h)
theorem showEnd_neq {a b : Int} (h : (S (showEnd a) == S (showEnd b)) = false) : ¬ a = b := by
  rintro rfl
  rw [S_beq] at h
  simp at h

theorem readPair_show {pre suf l : List Nat} {p : Int × Int} (hl : l = pre ++ (showPair p ++ suf)) (hp : GoodP p) (hs : suf = [] ∨ suf.head? = some 44) : readPair l pre.length = .ok (p, pre.length + (showPair p).length) := by
  obtain ⟨lo, hi⟩ := p
  obtain ⟨⟨a1, a2⟩, b1, b2⟩ := hp
  dsimp only at a1 a2 b1 b2
  have hst : Stops suf := by
    intro c hc
    rcases hs with h | h
    · rw [h] at hc; cases hc
    · rw [h] at hc; injection hc with hc; subst hc; decide
  have hend : ∀ {q : List Nat}, (q ++ suf)[q.length]? = suf.head? := fun {q} => by
    have : (q ++ suf).drop q.length = suf := by simp
    rw [← List.head?_drop, this]
  have hnc : suf.head? ≠ some 58 := by
    rcases hs with h | h
    · rw [h]; simp
    · rw [h]; simp
  by_cases he : lo = hi
  · subst he
    have e1 : showPair (lo, lo) = showEnd lo := if_pos rfl
    rw [e1] at hl ⊢
    refine rp_one (readEnd_show hl a1 a2 hst) ?_
    have e2 : l[pre.length + (showEnd lo).length]? = suf.head? := by
      have := hend (q := pre ++ showEnd lo)
      rw [List.append_assoc, List.length_append, ← hl] at this
      exact this
    rw [e2]; exact hnc
  · have e1 : showPair (lo, hi) = showEnd lo ++ ([58] ++ showEnd hi) := if_neg he
    rw [e1] at hl ⊢
    have hl1 : l = pre ++ (showEnd lo ++ (58 :: (showEnd hi ++ suf))) := by rw [hl]; simp
    have hl2 : l = (pre ++ showEnd lo ++ [58]) ++ (showEnd hi ++ suf) := by rw [hl]; simp
    have r1 := readEnd_show hl1 a1 a2 (by intro c hc; rw [List.head?_cons] at hc; injection hc with hc; subst hc; decide)
    have r2 := readEnd_show hl2 b1 b2 hst
    have e2 : (pre ++ showEnd lo ++ [58]).length = pre.length + (showEnd lo).length + 1 := by simp; omega
    rw [e2] at r2
    have e3 : l[pre.length + (showEnd lo).length]? = some 58 := by
      have e4 : l.drop (pre.length + (showEnd lo).length) = 58 :: (showEnd hi ++ suf) := by
        rw [hl1, ← List.append_assoc, ← List.length_append, List.drop_left]
      rw [← List.head?_drop, e4]; rfl
    have := rp_two r1 e3 r2
    rw [this]
    congr 2
    simp only [List.length_append, List.length_cons, List.length_nil]
    omega

noncomputable def showSet : List (Int × Int) → List Nat
  | [] => []
  | [p] => showPair p
  | p :: q :: r => showPair p ++ (44 :: showSet (q :: r))
theorem showPair_ne {p : Int × Int} (hp : GoodP p) : showPair p ≠ [] := by
  have h := showEnd_ne p.1 hp.1.1
  unfold showPair
  split
  · exact h
  · intro e
    exact h (List.append_eq_nil_iff.mp e).1
theorem readFrom_show : ∀ (ps : List (Int × Int)) (pre l : List Nat) (n : Nat) (acc : List (Int × Int)), ps ≠ [] → (∀ p ∈ ps, GoodP p) → l = pre ++ showSet ps → ps.length ≤ n → readFrom l n pre.length acc = .ok (acc ++ ps)
  | [], _, _, _, _, h, _, _, _ => absurd rfl h
  | [p], pre, l, n, acc, _, hg, hl, hn => by
    have r := readPair_show (p := p) (pre := pre) (suf := []) (l := l) (by rw [hl]; simp [showSet]) (hg p (.head _)) (.inl rfl)
    refine rf_end (by simp at hn; omega) r ?_
    rw [hl]
    show _ = (pre ++ showPair p).length
    rw [List.length_append]
  | p :: q :: rest, pre, l, n, acc, _, hg, hl, hn => by
    have r := readPair_show (p := p) (pre := pre) (suf := 44 :: showSet (q :: rest)) (l := l) (by rw [hl]; rfl) (hg p (.head _)) (.inr rfl)
    have e4 : l.drop (pre.length + (showPair p).length) = 44 :: showSet (q :: rest) := by
      rw [hl]
      show (pre ++ (showPair p ++ (44 :: showSet (q :: rest)))).drop _ = _
      rw [← List.append_assoc, ← List.length_append, List.drop_left]
    have hc : l[pre.length + (showPair p).length]? = some 44 := by rw [← List.head?_drop, e4]; rfl
    have hlt := (List.getElem?_eq_some_iff.mp hc).1
    rw [rf_next (by simp at hn; omega) r (by omega) hc]
    have hl2 : l = (pre ++ showPair p ++ [44]) ++ showSet (q :: rest) := by rw [hl]; simp [showSet]
    have e2 : (pre ++ showPair p ++ [44]).length = pre.length + (showPair p).length + 1 := by simp; omega
    have := readFrom_show (q :: rest) (pre ++ showPair p ++ [44]) l (n - 1) (acc ++ [p]) (by simp) (fun x hx => hg x (.tail _ hx)) hl2 (by simp at hn ⊢; omega)
    rw [e2] at this
    rw [this]
    simp
theorem showSet_len_ge : ∀ (ps : List (Int × Int)), (∀ p ∈ ps, GoodP p) → ps.length ≤ (showSet ps).length + 1
  | [], _ => by simp
  | [p], _ => by simp
  | p :: q :: rest, hg => by
    have := showSet_len_ge (q :: rest) (fun x hx => hg x (.tail _ hx))
    simp only [showSet, List.length_append, List.length_cons] at this ⊢
    omega
theorem showSet_len_le : ∀ (ps : List (Int × Int)), (∀ p ∈ ps, GoodP p) → (showSet ps).length ≤ 22 * ps.length
  | [], _ => by simp [showSet]
  | [p], hg => by
    have g := hg p (.head _)
    have := showPair_len g.1.1 g.1.2 g.2.1 g.2.2
    rw [S_len] at this
    simp only [showSet, List.length_cons, List.length_nil]; omega
  | p :: q :: rest, hg => by
    have g := hg p (.head _)
    have a := showPair_len g.1.1 g.1.2 g.2.1 g.2.2
    rw [S_len] at a
    have := showSet_len_le (q :: rest) (fun x hx => hg x (.tail _ hx))
    simp only [showSet, List.length_append, List.length_cons] at this ⊢
    omega
/-- a set that is shown is read again -/
theorem readSet_show {ps : List (Int × Int)} (hne : ps ≠ []) (hg : ∀ p ∈ ps, GoodP p) : readSet (showSet ps) = .ok ps := by
  have h := readFrom_show ps [] (showSet ps) ((showSet ps).length + 1) [] hne hg rfl (showSet_len_ge ps hg)
  exact h
end

section
open PySem PySem.W PySem.Calls PyProof.Rows
set_option maxRecDepth 100000
set_option maxHeartbeats 8000000

theorem str_post {a b : Str} {t : Tok} {P : Prop} (h : a = b) (hp : P) : ∃ t', Value.str a t = .str b t' ∧ P := ⟨t, by rw [h], hp⟩
theorem show_end_ok {prog : Program} {w : World} (n : Int) (t : Tok) : Fn prog w 82 [.int n t] 1 (fun _ => 0 ≤ n ∧ n < 4294967296) (fun v _ => ∃ t', v = .str (S (showEnd n)) t' ∧ (S (showEnd n)).length ≤ 10) := by
  intro dp un gd outer base mean mg mb s R B X T hdp hu ⟨h0, h1⟩ k
  refine' enter0 (binds := [(Str.ofString "number", .int n t)]) ?k1 ?k2 ?k3 ?k4 ?k5 ?k6 ?k7 ?_ ?c1 ?c2 ?c3 ?c
  k_dflt (((case k1 | k2 => k_asm); (case k3 | k4 => k_is); (case k5 => omega); (case k6 => exact BindsTo.of_eq rfl); (case k7 => exact locs rfl); (case c => decide); (case c1 | c2 | c3 => exact rfl)))
  intro L h₁ F N
  have hl := showEnd_len h0 h1
  (repeat' ((fail_if_success (with_reducible first | refine atWhile ?_ | refine atRaise ?_ | refine atFor ?_ | refine atAssignComp ?_ | refine atComp ?_ | refine atTry ?_)); first | (k_unfold; (try dsimp only)) | (k_end; wrow_close) | walk1 | (dsimp only; walk1) | (leave1; try dsimp only)))
  · exact k _ _ _ (Fr.keep (by assumption)) (str_post (by rw [showEnd, if_pos (by assumption), ← S_star]) hl)
  · exact k _ _ _ (Fr.keep (by assumption)) (str_post (by rw [showEnd, if_neg (by assumption)]; rfl) hl)

theorem show_pair_ok {prog : Program} {w : World} (a : Addr) (lo hi : Int) (t1 t2 : Tok) : Fn prog w 89 [.ref a] 3 (fun h => IsTup h a #[.int lo t1, .int hi t2] ∧ GoodP (lo, hi)) (fun v _ => ∃ t', v = .str (S (showPair (lo, hi))) t' ∧ (S (showPair (lo, hi))).length ≤ 21) := by
  intro dp un gd outer base mean mg mb s R B X T hdp hu ⟨hT, ⟨h1, h2⟩, h3, h4⟩ k
  refine' enter0 (binds := [(Str.ofString "pair", .ref a)]) ?k1 ?k2 ?k3 ?k4 ?k5 ?k6 ?k7 ?_ ?c1 ?c2 ?c3 ?c
  k_dflt (((case k1 | k2 => k_asm); (case k3 | k4 => k_is); (case k5 => omega); (case k6 => exact BindsTo.of_eq rfl); (case k7 => exact locs rfl); (case c => decide); (case c1 | c2 | c3 => exact rfl)))
  intro L h₁ F N
  have hl := showPair_len (p := (lo, hi)) h1 h2 h3 h4
  have hcol : (Str.ofString ":").length = 1 := by decide +kernel
  dsimp only at h1 h2 h3 h4
  (repeat' ((fail_if_success (with_reducible first | refine atWhile ?_ | refine atRaise ?_ | refine atFor ?_ | refine atAssignComp ?_ | refine atComp ?_ | refine atTry ?_)); first | ((with_reducible show wpAny _ _ (call (Value.ref 82) [Value.int _ _]) _ _ _); refine' Fn.use (show_end_ok _ _) ?k1 ?k2 ?k3 ?k4 ?k5 ?k6 ?k7 ?k8 ?_ ?k9; ((case k1 | k2 | k3 | k4 | k5 => k_asm); (case k6 | k7 => omega); (case k9 => exact rfl)); (case k8 => exact ⟨by omega, by omega⟩); intro v' h' tk' st' F' N' ⟨t', e', hl'⟩; subst e'; dsimp only) | (k_unfold; (try dsimp only)) | (k_end; wrow_close) | walk1 | (dsimp only; walk1) | (leave1; try dsimp only)))
  · exact k _ _ _ (Fr.keep (by assumption)) (str_post (by rw [showPair, if_pos (by assumption)]) hl)
  · exact k _ _ _ (Fr.keep (by assumption)) (str_post (by rw [showPair, if_neg (by assumption), S_colon, S_app, S_app, List.append_assoc]) hl)

noncomputable def EndsG (lo hi : Int) (i : Nat) (ys : List Value) : Prop := (i = 0 ∧ ys = []) ∨ (i = 1 ∧ ∃ u, ys = [.str (S (showEnd lo)) u]) ∨ (i = 2 ∧ ∃ u v, ys = [.str (S (showEnd lo)) u, .str (S (showEnd hi)) v])
theorem law_shown_ok {prog : Program} {w : World} (a : Addr) (lo hi : Int) (t1 t2 : Tok) : Fn prog w 134 [.ref a] 3 (fun h => IsTup h a #[.int lo t1, .int hi t2] ∧ GoodP (lo, hi)) (fun v _ => ∃ t', v = .str (S (showPair (lo, hi))) t' ∧ (S (showPair (lo, hi))).length ≤ 21) := by
  intro dp un gd outer base mean mg mb s R B X T hdp hu ⟨hT, ⟨h1, h2⟩, h3, h4⟩ k
  refine' enter0 (binds := [(Str.ofString "pair", .ref a)]) ?k1 ?k2 ?k3 ?k4 ?k5 ?k6 ?k7 ?_ ?c1 ?c2 ?c3 ?c
  k_dflt (((case k1 | k2 => k_asm); (case k3 | k4 => k_is); (case k5 => omega); (case k6 => exact BindsTo.of_eq rfl); (case k7 => exact locs rfl); (case c => decide); (case c1 | c2 | c3 => exact rfl)))
  intro L h₁ F N
  have hl := showPair_len (p := (lo, hi)) h1 h2 h3 h4
  have hcol : (Str.ofString ":").length = 1 := by decide +kernel
  dsimp only at h1 h2 h3 h4
  have hl1 := showEnd_len h1 h2
  have hl2 := showEnd_len h3 h4
  (repeat' ((fail_if_success (with_reducible first | refine atWhile ?_ | refine atRaise ?_ | refine atFor ?_ | refine atAssignComp ?_ | refine atComp ?_ | refine atTry ?_)); first | ((with_reducible show wpAny _ _ (call (Value.ref 82) [Value.int _ _]) _ _ _); refine' Fn.use (show_end_ok _ _) ?k1 ?k2 ?k3 ?k4 ?k5 ?k6 ?k7 ?k8 ?_ ?k9; ((case k1 | k2 | k3 | k4 | k5 => k_asm); (case k6 | k7 => omega); (case k9 => exact rfl)); (case k8 => exact ⟨by omega, by omega⟩); intro v' h' tk' st' F' N' ⟨t', e', hl'⟩; subst e'; dsimp only) | (k_unfold; (try dsimp only)) | (k_end; wrow_close) | walk1 | (dsimp only; walk1) | (leave1; try dsimp only)))
  refine comp_tup_assign (EndsG lo hi) F N (fun h k _ => hT.keeps k) (Nat.le_of_ble_eq_true rfl) rfl (.inl ⟨rfl, rfl⟩) (fun Q' hq => ?_) ?_ ?_
  · (repeat' ((fail_if_success (with_reducible first | refine atWhile ?_ | refine atRaise ?_ | refine atFor ?_ | refine atAssignComp ?_ | refine atComp ?_ | refine atTry ?_)); first | ((with_reducible show wpAny _ _ (call (Value.ref 82) [Value.int _ _]) _ _ _); refine' Fn.use (show_end_ok _ _) ?k1 ?k2 ?k3 ?k4 ?k5 ?k6 ?k7 ?k8 ?_ ?k9; ((case k1 | k2 | k3 | k4 | k5 => k_asm); (case k6 | k7 => omega); (case k9 => exact rfl)); (case k8 => exact ⟨by omega, by omega⟩); intro v' h' tk' st' F' N' ⟨t', e', hl'⟩; subst e'; dsimp only) | (k_unfold; (try dsimp only)) | (k_end; wrow_close) | walk1 | (dsimp only; walk1) | (leave1; try dsimp only)))
    exact hq
  · rintro i ys v I oI C oC D m₂ h tk E' ⟨hi', hv⟩ hG hC hx F₁ N₁ ⟨ne1, ne2, ne3⟩
    rcases hG with ⟨rfl, rfl⟩ | ⟨rfl, u, rfl⟩ | ⟨rfl, _⟩
    · obtain rfl : v = .int lo t1 := by simpa using hv.symm
      (repeat' ((fail_if_success (with_reducible first | refine atWhile ?_ | refine atRaise ?_ | refine atFor ?_ | refine atAssignComp ?_ | refine atComp ?_ | refine atTry ?_)); first | ((with_reducible show wpAny _ _ (call (Value.ref 82) [Value.int _ _]) _ _ _); refine' Fn.use (show_end_ok _ _) ?k1 ?k2 ?k3 ?k4 ?k5 ?k6 ?k7 ?k8 ?_ ?k9; ((case k1 | k2 | k3 | k4 | k5 => k_asm); (case k6 | k7 => omega); (case k9 => exact rfl)); (case k8 => exact ⟨by omega, by omega⟩); intro v' h' tk' st' F' N' ⟨t', e', hl'⟩; subst e'; dsimp only) | (k_unfold; (try dsimp only)) | (k_end; wrow_close) | walk1 | (dsimp only; walk1) | (leave1; try dsimp only)))
      · exact LcGot.mk (by assumption) (by assumption) (.inr (.inl ⟨rfl, _, by rw [showEnd, if_pos (by assumption), ← S_star]; rfl⟩))
      · exact LcGot.mk (by assumption) (by assumption) (.inr (.inl ⟨rfl, _, by rw [showEnd, if_neg (by assumption)]; rfl⟩))
    · obtain rfl : v = .int hi t2 := by simpa using hv.symm
      (repeat' ((fail_if_success (with_reducible first | refine atWhile ?_ | refine atRaise ?_ | refine atFor ?_ | refine atAssignComp ?_ | refine atComp ?_ | refine atTry ?_)); first | ((with_reducible show wpAny _ _ (call (Value.ref 82) [Value.int _ _]) _ _ _); refine' Fn.use (show_end_ok _ _) ?k1 ?k2 ?k3 ?k4 ?k5 ?k6 ?k7 ?k8 ?_ ?k9; ((case k1 | k2 | k3 | k4 | k5 => k_asm); (case k6 | k7 => omega); (case k9 => exact rfl)); (case k8 => exact ⟨by omega, by omega⟩); intro v' h' tk' st' F' N' ⟨t', e', hl'⟩; subst e'; dsimp only) | (k_unfold; (try dsimp only)) | (k_end; wrow_close) | walk1 | (dsimp only; walk1) | (leave1; try dsimp only)))
      · exact LcGot.mk (by assumption) (by assumption) (.inr (.inr ⟨rfl, _, _, by rw [showEnd.eq_def hi, if_pos (by assumption), ← S_star]; rfl⟩))
      · exact LcGot.mk (by assumption) (by assumption) (.inr (.inr ⟨rfl, _, _, by rw [showEnd.eq_def hi, if_neg (by assumption)]; rfl⟩))
    · exact absurd hi' (by simp)
  · intro D h tk ys hG F₁ N₁ _
    rcases hG with ⟨h, _⟩ | ⟨h, _⟩ | ⟨_, u, v, rfl⟩
    · cases h
    · cases h
    (repeat' ((fail_if_success (with_reducible first | refine atWhile ?_ | refine atRaise ?_ | refine atFor ?_ | refine atAssignComp ?_ | refine atComp ?_ | refine atTry ?_)); first | ((with_reducible show wpAny _ _ (call (Value.ref 82) [Value.int _ _]) _ _ _); refine' Fn.use (show_end_ok _ _) ?k1 ?k2 ?k3 ?k4 ?k5 ?k6 ?k7 ?k8 ?_ ?k9; ((case k1 | k2 | k3 | k4 | k5 => k_asm); (case k6 | k7 => omega); (case k9 => exact rfl)); (case k8 => exact ⟨by omega, by omega⟩); intro v' h' tk' st' F' N' ⟨t', e', hl'⟩; subst e'; dsimp only) | (k_unfold; (try dsimp only)) | (k_end; wrow_close) | walk1 | (dsimp only; walk1) | (leave1; try dsimp only)))
    · exact k _ _ _ (Fr.keep (by assumption)) (str_post (by rw [showPair, if_pos (showEnd_eq h1 h2 h3 h4 (by assumption))]) hl)
    · exact k _ _ _ (Fr.keep (by assumption)) (str_post (by rw [showPair, if_neg (showEnd_neq (by assumption)), S_colon, S_app, S_app, List.append_assoc]) hl)
end

section
open PySem PySem.W PySem.Calls PyProof.Rows
set_option maxRecDepth 100000
set_option maxHeartbeats 8000000
open LCg
theorem size_nat (n : Nat) : Builtin.Range.rangeSize 0 (n : Int) 1 = ((n : Nat) : Int) := by
  rw [rangeSize_nat]; simp
theorem fits_nat {n : Nat} (h : n ≤ 100000) : Builtin.Range.rangeFitsLong (n : Int) = true := by
  unfold Builtin.Range.rangeFitsLong
  rw [decide_eq_true (show -(2 ^ 63 : Int) ≤ (n : Int) by omega), decide_eq_true (show (n : Int) < 2 ^ 63 by omega)]
  rfl
theorem small_nat {n : Nat} (h : n ≤ 100000) : Builtin.Range.small 0 (n : Int) 1 = true := by
  have f := fits_nat h
  have g : Builtin.Range.rangeFitsLong 0 = true := by decide
  have g1 : Builtin.Range.rangeFitsLong 1 = true := by decide
  unfold Builtin.Range.small
  rw [size_nat, f, g, g1, if_pos (by decide), show (n : Int) + (1 - 1) = n by omega, f]
  simp
/-- what one turn of a for loop leaves -/
noncomputable def ForStep (h₀ : Heap) (L : Addr) (s : Shared) (I : Addr) (oI : Obj) (Q : Flow → Shared → Prop) (J : (Str → Option Value) → List (Addr × Obj) → Prop) (f : Flow) (s₃ : Shared) : Prop :=
  match f with
  | .next | .cont => ∃ h' tk m₂ news₂, s₃ = { s with heap := h', toks := tk } ∧ Fr h₀ L h' m₂ ∧ News h₀ L h' ((I, oI) :: news₂) ∧ J m₂ news₂
  | .brk => Q .next s₃
  | .ret v => Q (.ret v) s₃
theorem ForStep.mk {h₀ h' : Heap} {L : Addr} {s : Shared} {I : Addr} {oI : Obj} {Q : Flow → Shared → Prop} {J : (Str → Option Value) → List (Addr × Obj) → Prop} {tk : Nat} {m₂ : Str → Option Value} {news₂ : List (Addr × Obj)} (F : Fr h₀ L h' m₂) (N : News h₀ L h' ((I, oI) :: news₂)) (hJ : J m₂ news₂) :
    ForStep h₀ L s I oI Q J .next { s with heap := h', toks := tk } := ⟨h', tk, m₂, news₂, rfl, F, N, hJ⟩

section
variable {prog : Program} {w : World} {A : Around} {E : Value → Shared → Prop} {s : Shared} {h₀ : Heap} {env : Env}

theorem for_code {R : Result → Shared → Prop} {Q : Flow → Shared → Prop} {x : Str} {px : Pos} {body : List Stmt} {I : Addr} {fp : List Addr} {n : Nat} {P : Nat → Value → Prop} {St : Nat → Heap → Prop} {m : Str → Option Value} {news : List (Addr × Obj)} {IC : Obj → Prop}
    (W : Walks prog w A I fp [I] n P St) (J : Nat → (Str → Option Value) → List (Addr × Obj) → Prop) (hIc : ∀ i h, St i h → ∃ o, h.get? I = some o ∧ IC o) (hoff : ∀ i m nw, J i m nw → ∀ p ∈ nw, ¬ IC p.2)
    (hSt : ∀ i j m h h' o nw, J j m nw → St i h → h.get? I = some o → h'.get? I = some o → (∀ b o, h₀.get? b = some o → h'.get? b = some o) → News h₀ env.locals h' nw → St i h')
    (hx : env.kindOf x = some .local) (hp : (env.scope.kind == .class || (env.scope.kind == .module && env.locals != env.globals)) = false)
    (hLf : env.locals ∉ fp) (hI₀ : h₀.get? I = none) (hst : St 0 s.heap) (F : Fr h₀ env.locals s.heap m) (N : News h₀ env.locals s.heap news) (hI : ∀ p ∈ news, p.1 ≠ I) (h0 : J 0 m news)
    (hQ : ∀ f s', Q f s' → (f = .next ∨ ∃ v, f = .ret v) → R (.ok f) s')
    (step : ∀ i v oI m₁ news₁ h tk, i < n → P i v → J i m₁ news₁ → IC oI → Fr h₀ env.locals h (fun y => if y = x then some v else m₁ y) → News h₀ env.locals h ((I, oI) :: news₁) →
      wpAny (model prog w) A (execs body env) (ForStep h₀ env.locals s I oI Q (J (i + 1))) (notedBy (model prog w) A env fun e s' => R (.error e) s') { s with heap := h, toks := tk })
    (hR : ∀ h' tk m' news', Fr h₀ env.locals h' m' → News h₀ env.locals h' news' → J n m' news' → Q .next { s with heap := h', toks := tk }) :
    codeAny (model prog w) A (.forLoop (.Name x px) (.ref I) body [] env) R s := by
  have hIL : I ≠ env.locals := fun h => hLf (W.sub _ (by rw [← h]; exact .head _))
  refine codeAny_forLoop
    (fun k s' => ∃ h' tk m' news' i, s' = { s with heap := h', toks := tk } ∧ St i h' ∧ Fr h₀ env.locals h' m' ∧ News h₀ env.locals h' news' ∧ (∀ p ∈ news', p.1 ≠ I) ∧ J i m' news' ∧ i ≤ n ∧ k = n + 1 - i) ?_ (n + 1)
    ⟨s.heap, s.toks, m, news, 0, rfl, hst, F, N, hI, h0, Nat.zero_le _, rfl⟩
  rintro k s' ⟨h', tk, m', news', i, rfl, hst', F', N', hnw', hJ, hi, rfl⟩
  by_cases hlt : i < n
  · refine W.item i _ _ _ hlt hst' fun v h₁ tk₁ hP hst₁ hk₁ => ?_
    have F₁ : Fr h₀ env.locals h₁ m' := fr_but F' hk₁ (Ne.symm hIL) hI₀
    have N₁ : News h₀ env.locals h₁ news' := news_but N' hk₁ hnw'
    refine wpAny_assign_Name (wpAny_storeName_local hx F₁.ns (fun h₂ hn₂ hs₂ => ?_) hp)
    have F₂ := F₁.set hn₂ hs₂
    have hst₂ : St (i + 1) h₂ := W.frame _ _ _ hst₁ fun b hb o e => (hs₂.2 b fun q => hLf (q ▸ hb)).trans e
    obtain ⟨oI, hoI, hIcl⟩ := hIc _ _ hst₂
    have N₂ : News h₀ env.locals h₂ ((I, oI) :: news') := fun p hp => by
      rcases List.mem_cons.mp hp with rfl | hp
      · exact ⟨hoI, hIL, hI₀⟩
      · exact (N₁.set hs₂) p hp
    refine wpAny_mono (step i v oI m' news' h₂ _ hlt hP hJ hIcl F₂ N₂) (fun f s₃ h₃ => ?_) fun _ _ e => e
    have fin : (∃ h' tk m₂ news₂, s₃ = { s with heap := h', toks := tk } ∧ Fr h₀ env.locals h' m₂ ∧ News h₀ env.locals h' ((I, oI) :: news₂) ∧ J (i + 1) m₂ news₂) →
        ∃ k', k' < n + 1 - i ∧ ∃ h' tk m' news' i, s₃ = { s with heap := h', toks := tk } ∧ St i h' ∧ Fr h₀ env.locals h' m' ∧ News h₀ env.locals h' news' ∧ (∀ p ∈ news', p.1 ≠ I) ∧ J i m' news' ∧ i ≤ n ∧ k' = n + 1 - i := by
      rintro ⟨h₃', tk₃, m₂, news₂, rfl, F₃, N₃, hJ₃⟩
      have N₃' : News h₀ env.locals h₃' news₂ := fun p hp => N₃ p (.tail _ hp)
      have zI := (N₃ _ (.head _)).1
      refine ⟨n + 1 - (i + 1), by omega, h₃', tk₃, m₂, news₂, i + 1, rfl, hSt _ _ _ _ _ _ _ hJ₃ hst₂ hoI zI F₃.keep N₃', F₃, N₃', fun p hp e => ?_, hJ₃, hlt, rfl⟩
      have zp := (N₃' p hp).1
      rw [e, zI] at zp
      exact hoff _ _ _ hJ₃ p hp (by rw [← Option.some.inj zp]; exact hIcl)
    cases f with
    | ret v => exact hQ _ _ h₃ (.inr ⟨v, rfl⟩)
    | brk => exact hQ _ _ h₃ (.inl rfl)
    | cont => exact fin h₃
    | next => exact fin h₃
  · have hin : i = n := by omega
    subst hin
    refine W.done _ _ _ hst' fun h₁ tk₁ hk₁ => wpAny_execs_nil ?_
    exact hQ _ _ (hR h₁ tk₁ m' news' (fr_but F' hk₁ (Ne.symm hIL) hI₀) (news_but N' hk₁ hnw') hJ) (.inl rfl)
end
section
variable {prog : Program} {w : World} {A : Around} {E : Value → Shared → Prop} {s : Shared} {h₀ : Heap} {env : Env} {L : Addr}

/-- for x in a list of the ledger, or an elder one -/
theorem For_list {Q : Flow → Shared → Prop} {x : Str} {px pos : Pos} {iter : Expr} {body : List Stmt} {m : Str → Option Value} {news : List (Addr × Obj)} {l : Addr} {vs : Array Value}
    (J : Nat → (Str → Option Value) → List (Addr × Obj) → Prop) (F : Fr h₀ L s.heap m) (N : News h₀ L s.heap news) (h0 : J 0 m news) (hLe : env.locals = L) (hh : A.handled = none)
    (hit : ∀ (Q' : Value → Shared → Prop), Q' (.ref l) s → wpAny (model prog w) A (eval iter env) Q' E s)
    (hoff : ∀ i m nw, J i m nw → ∀ p ∈ nw, p.2.cls ≠ .type "list_iterator")
    (hsrc : ∀ i m nw, J i m nw → ∀ h, (∀ b o, h₀.get? b = some o → h.get? b = some o) → News h₀ L h nw → h.IsList l vs) (hlL : l ≠ L)
    (step : ∀ i v I oI m₁ news₁ h tk, i < vs.size → vs[i]? = some v → J i m₁ news₁ → oI.cls = .type "list_iterator" → Fr h₀ L h (fun y => if y = x then some v else m₁ y) → News h₀ L h ((I, oI) :: news₁) →
      wpAny (model prog w) A (execs body env) (ForStep h₀ L s I oI Q (J (i + 1))) E { s with heap := h, toks := tk })
    (hR : ∀ h' tk m' news', Fr h₀ L h' m' → News h₀ L h' news' → J vs.size m' news' → Q .next { s with heap := h', toks := tk })
    (hE : PassesOwn (model prog w) A env E) (hx : env.kindOf x = some .local := by rfl) (hp : (env.scope.kind == .class || (env.scope.kind == .module && env.locals != env.globals)) = false := by rfl)
    (hs : ∀ x, foldedSetIterable iter env x = pure x := by intro _; rfl) :
    wpAny (model prog w) A (exec (.For (.Name x px) iter body [] pos) env) Q E s := by
  subst hLe
  refine wpAny_For (hit _ ?_) hs
  have hl : s.heap.IsList l vs := hsrc _ _ _ h0 _ F.keep N
  have hlt : l < s.heap.objs.size := by obtain ⟨_, e, _⟩ := hl; exact Heap.lt_size e
  refine wpAny_pyIter_list hl ?_
  have up : ∀ b o, s.heap.get? b = some o → (s.heap.push { cls := .type "list_iterator", data := .fields #[.ref l, .int 0 0] }).get? b = some o := fun b o e => Heap.get?_push_of_some _ e
  refine for_code (s := { s with heap := s.heap.push { cls := .type "list_iterator", data := .fields #[.ref l, .int 0 0] } }) (Q := Q) (R := fun r s' => match r with | .ok f => Q f s' | .error e => cameBackBy (model prog w) A env E e s') (IC := fun o => o.cls = .type "list_iterator")
    (Walks.list hh s.heap.objs.size l (Nat.ne_of_lt hlt) vs) J (fun i h st => by obtain ⟨o, e, c, _⟩ := st.1; exact ⟨o, e, c⟩) hoff ?_ hx hp ?_ (next_is_new F) ⟨⟨_, Heap.get?_push_size _ rfl, rfl, rfl⟩, hl.push _⟩ (F.keeps up) (N.grown up) (fun p hp => Nat.ne_of_lt (Heap.lt_size (N p hp).1)) h0 (fun f s' q _ => q) ?_ hR
  · intro i j m h h' o nw hJ st e e' k N'
    exact ⟨by obtain ⟨o', q, r⟩ := st.1; rw [e] at q; cases q; exact ⟨o, e', r⟩, hsrc _ _ _ hJ h' k N'⟩
  · intro hm
    rcases List.mem_cons.mp hm with e | hm
    · exact absurd F.ns.lt (e ▸ Nat.lt_irrefl _)
    · exact hlL (List.mem_singleton.mp hm).symm
  · intro i v oI m₁ news₁ h tk hi hP hJ hc F₁ N₁
    exact wpAny_passesOwn hE (step i v _ oI m₁ news₁ h tk hi hP hJ hc F₁ N₁)

/-- for x in a range from 0 -/
theorem For_range {Q : Flow → Shared → Prop} {x : Str} {px pos : Pos} {iter : Expr} {body : List Stmt} {m : Str → Option Value} {news : List (Addr × Obj)} {a b : Int} {n : Nat}
    (J : Nat → (Str → Option Value) → List (Addr × Obj) → Prop) (_F₀ : Fr h₀ L s.heap m) (_N₀ : News h₀ L s.heap news) (hLe : env.locals = L) (hh : A.handled = none)
    (hit : wpAny (model prog w) A (eval iter env) (fun v s₁ => ∃ r t u z h tk, v = .ref r ∧ s₁ = { s with heap := h, toks := tk } ∧ IsRange h r a b 1 t u z ∧ Fr h₀ L h m ∧ News h₀ L h news) E s) (h0 : J 0 m news)
    (hsm : Builtin.Range.small a b 1 = true) (hn : Builtin.Range.rangeSize a b 1 = ((n : Nat) : Int))
    (hoff : ∀ i m nw, J i m nw → ∀ p ∈ nw, p.2.cls = .type "range_iterator" → ∀ fs, p.2.data ≠ .fields fs)
    (step : ∀ i I oI t m₁ news₁ h tk, i < n → J i m₁ news₁ → oI.cls = .type "range_iterator" → Fr h₀ L h (fun y => if y = x then some (.int (a + (i : Int)) t) else m₁ y) → News h₀ L h ((I, oI) :: news₁) →
      wpAny (model prog w) A (execs body env) (ForStep h₀ L s I oI Q (J (i + 1))) E { s with heap := h, toks := tk })
    (hR : ∀ h' tk m' news', Fr h₀ L h' m' → News h₀ L h' news' → J n m' news' → Q .next { s with heap := h', toks := tk })
    (hE : PassesOwn (model prog w) A env E) (hx : env.kindOf x = some .local := by rfl) (hp : (env.scope.kind == .class || (env.scope.kind == .module && env.locals != env.globals)) = false := by rfl)
    (hs : ∀ x, foldedSetIterable iter env x = pure x := by intro _; rfl) :
    wpAny (model prog w) A (exec (.For (.Name x px) iter body [] pos) env) Q E s := by
  subst hLe
  refine wpAny_For (wpAny_mono hit (fun xv s₁ h₁ => ?_) fun _ _ e => e) hs
  obtain ⟨r, t, u, z, h, tk, rfl, rfl, hr, F, N⟩ := h₁
  refine wpAny_pyIter_range hr hsm ?_
  refine for_code (s := { s with heap := h.push { cls := .type "range_iterator", data := .fields #[rawInt a, rawInt (Builtin.Range.rangeSize a b 1), rawInt 1] }, toks := tk }) (Q := Q) (R := fun r s' => match r with | .ok f => Q f s' | .error e => cameBackBy (model prog w) A env E e s') (IC := fun o => o.cls = .type "range_iterator" ∧ ∃ fs, o.data = .fields fs)
    (range_walks hh a n) J (fun i h st => ⟨_, st, rfl, _, rfl⟩) (fun i m nw hJ p hp z => hoff i m nw hJ p hp z.1 _ z.2.choose_spec) ?_ hx hp ?_ (next_is_new F) (by have e := Heap.get?_push_size h (o := { cls := .type "range_iterator", data := .fields #[rawInt a, rawInt (Builtin.Range.rangeSize a b 1), rawInt 1] }) rfl; rw [hn] at e ⊢; simpa using e) (F.keeps fun _ _ e => Heap.get?_push_of_some _ e) (N.grown fun _ _ e => Heap.get?_push_of_some _ e) (fun p hp => Nat.ne_of_lt (Heap.lt_size (N p hp).1)) h0 (fun f s' q _ => q) ?_ hR
  · intro i j m h h' o nw hJ st e e' k N'
    have st' : h.get? _ = some _ := st
    show h'.get? _ = some _
    rw [e', ← e]; exact st'
  · intro hm
    exact absurd F.ns.lt ((List.mem_singleton.mp hm) ▸ Nat.lt_irrefl _)
  · intro i v oI m₁ news₁ h tk hi hP hJ hc F₁ N₁
    obtain ⟨t, rfl⟩ := hP
    exact wpAny_passesOwn hE (step i _ oI t m₁ news₁ h tk hi hJ hc.1 F₁ N₁)
end
end

section
open PySem PySem.W PySem.Calls PyProof.Rows
set_option maxRecDepth 100000
set_option maxHeartbeats 8000000

abbrev BM : List Value := [.ref 46, .type "Exception", .type "BaseException", .type "object"]
abbrev CF : Obj := excClassObj (Str.ofString "SetFault") (Str.ofString "SetFault") 59 58 [.ref 46] BM true [] [] false none none (some (.ref 50)) none (some (.str (Str.ofString "SetFault") 236)) (some (.str (Str.ofString "SetFault") 244)) (some (.bool true)) "Exception.__new__"
theorem cf_at (w : World) : (hd.heap_39 w.params).lookup 59 = some CF := by k_is
theorem cf_init (w : World) : findIn (hd.heap_39 w.params) (.ref 59) "__init__" = some (some (.ref 36)) := by k_is
theorem cf_fn (w : World) : typeIn (hd.heap_39 w.params) (.ref 36) = some (.type "function") := by k_is

section
variable {prog : Program} {w : World} {A : Around} {E : Value → Shared → Prop} {h : Heap} {g : Array GenState} {d : Drawn} {t : Nat} {os : OsState}

theorem fault_check_new {rest : List Value} {M : Model} {Q : Unit → Shared → Prop} (hC : h.get? 59 = some CF) (hq : Q () ⟨h, g, d, t, os⟩) : wpAny M A (checkBuiltinCall "Exception.__new__" ⟨.ref 59 :: rest, []⟩) Q E ⟨h, g, d, t, os⟩ := by
  have F := PySem.F.excBase_Exception
  have hcont : (Value.ref 59 :: BM).contains (.type "Exception") = true := by decide +kernel
  have hstar := F.noStar
  simp only [checkBuiltinCall, F.newKind, F.newSplit, F.newRow]
  repeat (first | refine wpAny_loadPart_at hC ?_ | (refine wpAny_isSubtype_exc hC ?_; rw [hcont]) | refine wpAny_staticBase_exc hC ?_ | refine wpAny_madeBy_exc hC ?_ | simp only [bne_self_eq_false, Bool.false_eq_true, if_false] | wp_step)
  exact hq

theorem fault_new {rest : List Value} {R : Result → Shared → Prop} (hC : h.get? 59 = some CF)
    (hq : R (.ok (.ret (.ref (h.objs.size + 1)))) ⟨(h.push { cls := .type "tuple", data := .seq rest.toArray }).push
      { cls := .ref 59, data := .fields #[.ref h.objs.size, .none, .none, .none, .bool false, .none] }, g, d, t, os⟩) (hrest : rest.length ≤ sizeLine) :
    codeAny (model prog w) A (.builtin "Exception.__new__" ⟨.ref 59 :: rest, []⟩) R ⟨h, g, d, t, os⟩ := by
  have F := PySem.F.excBase_Exception
  have hends := F.ends
  have hcB : (Value.ref 59 :: BM).contains (.type "Exception") = true := by decide +kernel
  have hcA : (Value.ref 59 :: BM).contains (.type "AttributeError") = false := by decide +kernel
  have hcN : (Value.ref 59 :: BM).contains (.type "NameError") = false := by decide +kernel
  refine codeAny_builtinAt F.entry ?_
  unfold Builtin.«BaseException.__new__»
  refine PySem.wpAt_bind ?_
  show PySem.wpAt _ _ _ (stack >>= _) _ _ _
  refine PySem.wpAt_bind (PySem.wpAt_stack fun p below => PySem.wpAt_of_wpAny ?_)
  wp_walk
  refine PySem.wpAt_of_wpAny ?_
  rw [F.owner]
  repeat (first | with_reducible refine wpAny_madeHere_exc F.canon hC ?_ | with_reducible refine wpAny_loadPart_at hC ?_ | (with_reducible refine wpAny_isSubtype_exc hC ?_; first | rw [hcB] | rw [hcA] | rw [hcN]) | wp_step)
  show R _ _
  rw [Heap.size_push]
  exact hq

/-- a new fault behind SetFault.__new__, ahead of its __init__ -/
structure Made (h h' : Heap) (e : Addr) : Prop where
  keeps : h.StaysIn h'
  size : h.objs.size ≤ h'.objs.size
  new : h.get? e = none
  at_ : ∃ t, h'.get? e = some { cls := .ref 59, data := .fields #[.ref t, .none, .none, .none, .bool false, .none] }

theorem fault_type_call {rest : List Value} {Q : Fin → Shared → Prop} (X : (hd.heap_39 w.params).In h)
    (hq : ∀ h' e, Made h h' e → wpAny (model prog w) A (call (.ref 36) (.ref e :: rest)) (fun r s' => r = .none ∧ Q (.done (.ret (.ref e))) s') E ⟨h', g, d, t, os⟩) (hrest : rest.length ≤ sizeLine) :
    wpAny (model prog w) A (Builtin.«type.__call__» ⟨.ref 59 :: rest, []⟩) Q E ⟨h, g, d, t, os⟩ := by
  have F := PySem.F.excBase_Exception
  have hC : h.get? 59 = some CF := X _ _ (cf_at w)
  repeat (first | with_reducible refine wpAny_loadPart_at hC ?_ | with_reducible refine wpAny_madeBy_exc hC ?_ | wp_step)
  refine codeAny_call_builtin_code (Code.quiet_builtin _ F.quiet) (fault_check_new hC ?_)
  refine fault_new hC ?_ hrest
  show wpAny _ _ _ _ _ _
  generalize hH : (h.push { cls := .type "tuple", data := .seq rest.toArray }).push { cls := .ref 59, data := .fields #[.ref h.objs.size, .none, .none, .none, .bool false, .none] } = H
  have k : h.StaysIn H := fun b o e => hH ▸ Heap.get?_push_of_some _ (Heap.get?_push_of_some _ e)
  have hget : H.get? (h.objs.size + 1) = some { cls := .ref 59, data := .fields #[.ref h.objs.size, .none, .none, .none, .bool false, .none] } := by subst hH; heap_get
  have X₁ : (hd.heap_39 w.params).In H := X.keeps k
  have hC₁ : H.get? 59 = some CF := k _ _ hC
  have hcC : (Value.ref 59 :: BM).contains (.ref 59) = true := by decide +kernel
  unfold isInstance
  repeat (first | with_reducible refine wpAny_loadPart_at hget ?_ | (with_reducible refine wpAny_isSubtype_exc hC₁ ?_; rw [hcC]) | wp_step)
  show wpAny _ _ (typeLookup (.ref 59) _) _ _ _
  refine (looks_findIn X₁ (cf_init w)).at ?_
  refine wpAny_holding (wpAny_bind ?_)
  unfold bindSpecial
  refine wpAny_bind ((looks_typeIn X₁ (cf_fn w)).at ?_)
  rw [if_pos (by decide)]
  refine wpAny_pure (wpAny_bind (wpAny_mono (hq H (h.objs.size + 1) ⟨k, by subst hH; simp only [Heap.size_push]; omega, Heap.get?_none_of_le (Nat.le_succ _), _, hget⟩) (fun r s' hr => ?_) fun _ _ x => x))
  obtain ⟨rfl, hQ⟩ := hr
  wp_walk
  exact hQ
end
abbrev excO (t : Addr) : Obj := { cls := .ref 59, data := .fields #[.ref t, .none, .none, .none, .bool false, .none] }
abbrev excD (t dx : Addr) : Obj := { cls := .ref 59, dict := some dx, data := .fields #[.ref t, .none, .none, .none, .bool false, .none] }
theorem meta_exc : typeOf (.type "Exception") = pure (.type "type") := by kernel_rfl
section
variable {prog : Program} {w : World} {A : Around} {E : Value → Shared → Prop} {h : Heap} {g : Array GenState} {d : Drawn} {t : Nat} {os : OsState}
theorem exc_check_init {M : Model} {e : Addr} {oe : Obj} {rest : List Value} {Q : Unit → Shared → Prop} (hC : h.get? 59 = some CF) (he : h.get? e = some oe) (hcls : oe.cls = .ref 59) (hq : Q () ⟨h, g, d, t, os⟩) :
    wpAny M A (checkBuiltinCall "Exception.__init__" ⟨.ref e :: rest, []⟩) Q E ⟨h, g, d, t, os⟩ := by
  have F := PySem.F.excBase_Exception
  have hcB : (Value.ref 59 :: BM).contains (.type "Exception") = true := by decide +kernel
  have hshort := F.noStar
  simp only [checkBuiltinCall, F.initKind, F.initSplit, F.initRow]
  repeat (first | (with_reducible refine wpAny_loadPart_at he ?_; rw [hcls]) | with_reducible refine wpAny_loadPart_at hC ?_ | (with_reducible refine wpAny_isSubtype_exc hC ?_; rw [hcB]) | wp_step)
  refine wpAny_onRaise ?_
  rw [show ∀ (a b : String) (n : Nat), Bind.check ⟨.positional, "*", "Exception", .self, [⟨"args", .varPos, false⟩]⟩ a b n (List.map (fun x => x.fst) ({ pos := Value.ref e :: rest } : Args).kw) = pure () from
    fun a b n => check_star_args _ _ _ _ _ _]
  exact wpAny_pure hq
theorem exc_init_call {e tE : Addr} {v : Value} {Q : Value → Shared → Prop} (X : (hd.heap_39 w.params).In h) (he : h.get? e = some (excO tE))
    (hq : ∀ h' t', (∀ b o, b ≠ e → h.get? b = some o → h'.get? b = some o) → h'.get? e = some (excO t') → Q .none ⟨h', g, d, t, os⟩) :
    wpAny (model prog w) A (call (.builtin "Exception.__init__") [.ref e, v]) Q E ⟨h, g, d, t, os⟩ := by
  have F := PySem.F.excBase_Exception
  refine wpAny_call (codeAny_call_builtin F.init.plain F.initEntry (exc_check_init (X _ _ (cf_at w)) he rfl ?_))
  wp_walk
  have hne : ∀ b o, h.get? b = some o → b ≠ h.objs.size := fun b o q => Nat.ne_of_lt (Heap.lt_size q)
  refine hq _ h.objs.size (fun b o hb q => ?_) ?_
  · rw [Heap.get?_update_other _ _ (Ne.symm hb)]
    exact Heap.get?_push_of_some _ q
  · rw [Heap.get?_update_self _ (Heap.get?_push_of_some _ he) rfl]
    rfl
end
theorem exc_mro (w : World) : mroIn (hd.heap_39 w.params) 59 (.type "object") = some true := by k_is
theorem exc_cls (w : World) : clsIn (hd.heap_39 w.params) 59 = some { name := Str.ofString "SetFault", bases := [.ref 46], mro := .ref 59 :: BM, ns := 58, qualname := Str.ofString "SetFault" } := by k_is
theorem exc_sa (w : World) : findIn (hd.heap_39 w.params) (.ref 59) "__setattr__" = some (some (.builtin "object.__setattr__")) := by k_is
theorem exc_no_at (w : World) : findIn (hd.heap_39 w.params) (.ref 59) "at" = some none := by k_is
theorem exc_no_what (w : World) : findIn (hd.heap_39 w.params) (.ref 59) "what" = some none := by k_is
theorem exc_refuse (self : Value) : refuseLoop self "__setattr__" (.ref 59 :: BM) = pure () := by
  rw [refuseLoop_ref, refuseLoop_ref]
  kernel_rfl
section
variable {prog : Program} {w : World} {A : Around} {E : Value → Shared → Prop} {s : Shared}
theorem exc_osa {name : Str} {e : Addr} {v : Value} {tk : Tok} {o : Obj} {od : Option Obj} {R : Result → Shared → Prop} (X : (hd.heap_39 w.params).In s.heap) (I : InstAt s.heap e o 59 od) (ht : findIn (hd.heap_39 w.params) (.ref 59) name = some none)
    (h : ∀ b, wpAny (model prog w) A.in1 (Builtin.ObjectAttr.storeInOwnDict (.ref e) (.ref 59) (.str name tk) name v b)
      (fun fin s' => match fin with | .done f => R (.ok f) s' | .again c' => c'.quiet = true ∧ codeAny (model prog w) A c' R s') (fun e s' => R (.error e) s') s) :
    codeAny (model prog w) A (.call (.builtin "object.__setattr__") ⟨[.ref e, .str name tk, v], []⟩) R s := by
  have SF := PySem.F.store_object
  have sub : Looks (model prog w) s.heap (isInstance (.ref e) (.type "object")) true := I.type.andThen (looks_mroIn X (exc_mro w))
  refine codeAny_call_builtin SF.slot.plain SF.entry (@check_slot (model prog w) _ _ s "object.__setattr__" "object" "__setattr__" (.ref e) [.str name tk, v] [] _ SF.kind SF.split sub (SF.args (.ref e) (.str name tk) v) ?_)
  have hm : Looks (model prog w) s.heap (mroOf (.ref 59)) (.ref 59 :: BM) := (looks_clsIn X (exc_cls w)).andThen .now
  rw [osa_eq, refuse_eq]
  refine wpAny_bind (wpAny_bind (I.type.here (wpAny_bind (hm.here ?_))))
  rw [exc_refuse]
  refine wpAny_pure (wpAny_bind (I.type.here (wpAny_bind ((looks_findIn X ht).here (wpAny_bind (wpAny_pure ?_))))))
  exact h _
end
section
variable {prog : Program} {w : World} {A : Around} {E : Value → Shared → Prop} {s : Shared}
theorem exc_store {dx : Addr} {es : List DictEntry} {n : Nat} {name : Str} {v : Value} {tk : Tok} {Q : PySem.Fin → Shared → Prop} (D : s.heap.get? dx = some (dictOf es n)) (hr : es.any (·.refKey) = false) (hz : (putL name (PyData.keyHash w.params name) (.str name s.toks) v es).length ≤ 1000)
    (h : ∀ h', h'.get? dx = some (dictOf (putL name (PyData.keyHash w.params name) (.str name s.toks) v es) (putN name es n)) → (∀ b, b ≠ dx → h'.get? b = s.heap.get? b) → Q (.done (.ret .none)) { s with heap := h', toks := s.toks + 1 }) :
    wpAny (model prog w) A (Builtin.ObjectAttr.storeInDict dx (.str name tk) name v) Q E s := by
  refine wpAny_bind (wpAny_pure (wpAny_bind ?_))
  unfold nsSet
  refine wpAny_bind (wpAny_bind (wpAny_askSetting (wpAny_pure (wpAny_bind (wpAny_mkText (wpAny_bind (wpAny_loadPart D ?_)))))))
  dsimp only
  have c : (!es.toArray.any (·.key.isStr name) && es.toArray.any (·.refKey)) = false := by
    rw [List.any_toArray, List.any_toArray, hr, Bool.and_false]
  rw [aRefKeyMayBeTheName_at, c]
  refine wpAny_updatePart D ?_
  have e1 := putName_dict name (PyData.keyHash w.params name) (.str name s.toks) v es n
  have D' : (s.heap.update dx (Obj.putName name (PyData.keyHash w.params name) (.str name s.toks) v)).get? dx = some (dictOf (putL name (PyData.keyHash w.params name) (.str name s.toks) v es) (putN name es n)) := by
    rw [← e1]
    exact Heap.get?_update_self _ D (by rw [e1]; rfl)
  refine wpAny_bind (wpAny_lookBehind D' (pastItsLine_dict (by rw [List.size_toArray, sizeLine_eq]; omega)) ?_)
  exact wpAny_pure (h _ D' fun b hb => Heap.get?_update_other _ _ (Ne.symm hb))

end
section
variable {prog : Program} {w : World} {A : Around} {E : Value → Shared → Prop} {h : Heap} {g : Array GenState} {d : Drawn} {t : Nat} {os : OsState}
theorem exc_set0 {e tE : Addr} {name : Str} {v : Value} {Q : Unit → Shared → Prop} (X : (hd.heap_39 w.params).In h) (he : h.get? e = some (excO tE)) (ht : findIn (hd.heap_39 w.params) (.ref 59) name = some none)
    (hq : ∀ h' dx hs tk, (∀ b o, b ≠ e → h.get? b = some o → h'.get? b = some o) → h.get? dx = none → h'.get? e = some (excD tE dx) → h'.get? dx = some (dictOf [⟨hs, .str name tk, v⟩] 1) → Q () ⟨h', g, d, t + 2, os⟩) :
    wpAny (model prog w) A (setAttr (.ref e) name v) Q E ⟨h, g, d, t, os⟩ := by
  have I : InstAt h e (excO tE) 59 none := ⟨he, rfl, rfl, trivial⟩
  refine set_plain (s := ⟨h, g, d, t, os⟩) X I (exc_sa w) (exc_osa (s := ⟨h, g, d, t + 1, os⟩) X I ht fun b => ?_)
  refine wpAny_bind (wpAny_pure (wpAny_bind (wpAny_bind (wpAny_loadPart he (wpAny_bind ((looks_clsIn X (exc_cls w)).at ?_))))))
  have hlt : e ≠ h.objs.size := Nat.ne_of_lt (Heap.lt_size he)
  refine wpAny_bind (wpAny_alloc ?_)
  refine wpAny_bind (wpAny_update (Heap.get?_push_of_some _ he) ?_)
  refine wpAny_pure (a := some h.objs.size) ?_
  have hD : (((h.push { cls := .type "dict", data := .dict #[] }).update e fun o => { o with dict := some h.objs.size })).get? h.objs.size = some (dictOf [] 0) := by
    rw [Heap.get?_update_other _ _ hlt]
    exact Heap.get?_push_size _ rfl
  refine exc_store (es := []) (n := 0) hD rfl (by simp [putL]) fun h' hd' hk => ?_
  refine hq h' h.objs.size _ _ (fun b o hb q => ?_) (Heap.get?_none_of_le (Nat.le_refl _)) ?_ hd'
  · rw [hk b (Nat.ne_of_lt (Heap.lt_size q))]
    show (Heap.update _ _ _).get? b = _
    rw [Heap.get?_update_other _ _ (Ne.symm hb)]
    exact Heap.get?_push_of_some _ q
  · rw [hk e hlt]
    exact Heap.get?_update_self _ (Heap.get?_push_of_some _ he) rfl

theorem exc_set1 {e tE dx : Addr} {es : List DictEntry} {n : Nat} {name : Str} {v : Value} {Q : Unit → Shared → Prop} (X : (hd.heap_39 w.params).In h) (he : h.get? e = some (excD tE dx)) (hdx : h.get? dx = some (dictOf es n)) (ht : findIn (hd.heap_39 w.params) (.ref 59) name = some none)
    (hr : es.any (·.refKey) = false) (hz : (putL name (PyData.keyHash w.params name) (.str name (t + 1)) v es).length ≤ 1000)
    (hq : ∀ h', (∀ b, b ≠ dx → h'.get? b = h.get? b) → h'.get? dx = some (dictOf (putL name (PyData.keyHash w.params name) (.str name (t + 1)) v es) (putN name es n)) → Q () ⟨h', g, d, t + 2, os⟩) :
    wpAny (model prog w) A (setAttr (.ref e) name v) Q E ⟨h, g, d, t, os⟩ := by
  have I : InstAt h e (excD tE dx) 59 (some (dictOf es n)) := ⟨he, rfl, rfl, hdx⟩
  refine set_plain (s := ⟨h, g, d, t, os⟩) X I (exc_sa w) (exc_osa (s := ⟨h, g, d, t + 1, os⟩) X I ht fun b => ?_)
  refine wpAny_bind (wpAny_pure (wpAny_bind (wpAny_bind (wpAny_loadPart he (wpAny_bind ((looks_clsIn X (exc_cls w)).at ?_))))))
  refine wpAny_pure (a := some dx) ?_
  exact exc_store hdx hr hz fun h' hd' hk => hq h' hk hd'
end
theorem fr_step {h h₁ h' : Heap} {L e : Addr} {m : Str → Option Value} (F : Fr h L h₁ m) (hk : ∀ b o, b ≠ e → h₁.get? b = some o → h'.get? b = some o) (hn : h.get? e = none) (hL : e ≠ L) : Fr h L h' m :=
  ⟨F.ns.at' fun o q => hk _ o (Ne.symm hL) q, fun b o q => hk b o (fun x => by rw [x, hn] at q; cases q) (F.keep b o q), F.above⟩

/-- a fault with its two fields, not yet raised -/
structure Fault (h h' : Heap) (e : Addr) (p : Int) : Prop where
  keeps : h.StaysIn h'
  new : h.get? e = none
  at_ : ∃ t dx es n u, h'.get? e = some (excD t dx) ∧ h'.get? dx = some (dictOf es n) ∧ dx ≠ e ∧ h.get? dx = none ∧ getL "at" es = some (some (.int p u))

section
variable {prog : Program} {w : World} {dp un : Nat} {gd : Option (List Code)} {outer : List Env} {mean : ExcName → Option Value} {mg mb : Str → Option Value} {s : Shared} {R : Result → Shared → Prop}
theorem init_ok {h : Heap} {e : Addr} {x : Str} {p : Int} {t u : Tok} (M : Made h s.heap e) (X : (hd.heap_39 w.params).In h) (T : Top VP LO mean mg mb h) (hdp : dp + 2 < recursionLimit) (hu : un + 20 < cLine)
    (k : ∀ h' tk', Fault h h' e p → R (.ok (.ret .none)) { s with heap := h', toks := tk' }) :
    codeAny (model prog w) (Ar dp un gd outer) (.call (.ref 36) ⟨[.ref e, .str x t, .int p u], []⟩) R s := by
  have X₁ := X.keeps M.keeps
  have hk29 : (hd.heap_39 w.params).lookup 29 = some { cls := .type "tuple", data := .seq #[.int (-1) 209] } := by k_is
  refine' enterH (h₀ := h) (binds := [(Str.ofString "self", .ref e), (Str.ofString "what", .str x t), (Str.ofString "at", .int p u)]) X T M.keeps M.size ?k3 ?k4 ?k5 ?k6 ?k7 ?_ ?c1 ?c2 ?c3 ?c
  case k3 => k_is
  case k4 => k_is
  case k5 => omega
  case k6 => exact BindsTo.of_defaults rfl (X₁ _ _ hk29) rfl rfl rfl
  case k7 => exact locs rfl
  case c => decide
  case c1 => exact rfl
  case c2 => exact rfl
  case c3 => exact rfl
  intro L h₁ F hk₁
  obtain ⟨tE, hE⟩ := M.at_
  have hEL := (hk₁ _ _ hE).2
  have hE1 := (hk₁ _ _ hE).1
  have N : News h L h₁ [] := News.nil
  clear hk₁ hE
  k_steps
  refine method_type (T := "Exception") F X meta_exc (by decide +kernel) (by k_is) (by k_handed) ?_
  k_steps
  refine exc_init_call (X.keeps F.keep) hE1 fun h2 t2 hk2 hE2 => ?_
  have F2 := fr_step F hk2 M.new hEL
  have N2 : News h L h2 [] := News.nil
  clear F N hE1
  k_steps
  refine exc_set0 (X.keeps F2.keep) hE2 (exc_no_what w) fun h3 dx hs3 tk3 hk3 hdn hE3 hD3 => ?_
  have F3 := fr_step F2 hk3 M.new hEL
  have N3 : News h L h3 [] := News.nil
  have hde : dx ≠ e := fun q => by rw [q, hE2] at hdn; cases hdn
  have hdL : dx ≠ L := fun q => by
    obtain ⟨o, _, _, ho, _⟩ := F2.ns
    rw [q, ho] at hdn; cases hdn
  have hdh : h.get? dx = none := by
    cases q : h.get? dx with
    | none => rfl
    | some o => have := F2.keep _ _ q; rw [hdn] at this; cases this
  clear F2 N2 hE2 hdn
  k_steps
  refine exc_set1 (X.keeps F3.keep) hE3 hD3 (exc_no_at w) rfl (by simp [putL, Value.isStr]; split <;> simp) fun h4 hk4 hD4 => ?_
  have F4 : Fr h L h4 _ := fr_step F3 (fun b o hb q => (hk4 b hb).trans q) hdh hdL
  have hE4 := (hk4 e (Ne.symm hde)).trans hE3
  k_steps
  refine k _ _ ⟨F4.keep, M.new, t2, dx, _, _, u, hE4, hD4, hde, hdh, ?_⟩
  have e1 : ((Str.ofString "what" : Str) == Str.ofString "at") = false := by decide +kernel
  simp [putL, getL, Value.isStr, e1]
end

section
variable {prog : Program} {w : World} {dp un : Nat} {gd : Option (List Code)} {outer : List Env} {mean : ExcName → Option Value} {mg mb : Str → Option Value} {E : Value → Shared → Prop} {h : Heap} {g : Array GenState} {d : Drawn} {t : Nat} {os : OsState}
theorem make_units {rest : List Value} : (Code.builtin "type.__call__" ⟨.ref 59 :: rest, []⟩).cUnits = 1 := by kernel_rfl
theorem make_weight {rest : List Value} : (Code.builtin "type.__call__" ⟨.ref 59 :: rest, []⟩).weight = 1 := by kernel_rfl
theorem make_envs {rest : List Value} : (Code.builtin "type.__call__" ⟨.ref 59 :: rest, []⟩).envs = [] := by kernel_rfl
theorem make_guards {rest : List Value} : (Code.builtin "type.__call__" ⟨.ref 59 :: rest, []⟩).guards = [] := by kernel_rfl
theorem under_make {rest : List Value} : (Ar dp un gd outer).under (.builtin "type.__call__" ⟨.ref 59 :: rest, []⟩) = Ar (dp + 1) (un + 1) gd outer := by
  unfold Around.under
  rw [make_units, make_weight, make_envs, make_guards]
  rfl
theorem fault_call {x : Str} {p : Int} {tx u : Tok} {Q : Value → Shared → Prop} (X : (hd.heap_39 w.params).In h) (T : Top VP LO mean mg mb h) (hdp : dp + 3 < recursionLimit) (hu : un + 30 < cLine)
    (hq : ∀ h' e tk, Fault h h' e p → Q (.ref e) ⟨h', g, d, tk, os⟩) :
    wpAny (model prog w) (Ar dp un gd outer) (call (.ref 59) [.str x tx, .int p u]) Q E ⟨h, g, d, t, os⟩ := by
  have hC : h.get? 59 = some CF := X _ _ (cf_at w)
  have f1 := tc_lookup
  have f2 := tc_bind (.ref 59)
  have hT : (⟨h, g, d, t, os⟩ : Shared).TypeIs (.ref 59) "type" := ⟨_, hC, rfl⟩
  refine wpAny_call (codeAny_of_tree ?_)
  show wpAny _ _ (callAny (.ref 59) _) _ _ _
  repeat (any_goals (first | assumption | with_reducible refine wpAny_loadPart_at hC ?_ | wp_step))
  refine ⟨rfl, ?_⟩
  refine codeAny_call_builtin_at (Code.quiet_builtin _ (by decide +kernel)) entry_typeCall (wpAny_check_type_call_sub hC (fault_type_call X (fun h' e M => ?_) (by rw [sizeLine_eq]; show 2 ≤ _; decide)))
  show wpAny _ ((Ar dp un gd outer).under (.builtin "type.__call__" ⟨.ref 59 :: [.str x tx, .int p u], []⟩)) (call (.ref 36) [.ref e, .str x tx, .int p u]) _ _ _
  rw [under_make]
  exact wpAny_call (init_ok (s := ⟨h', g, d, t, os⟩) M X T (by omega) (by omega) fun h'' tk' F => ⟨rfl, hq _ _ _ F⟩)
end
section
variable {prog : Program} {w : World} {A : Around} {E : Value → Shared → Prop} {s : Shared} {env : Env}
theorem fault_raiseStmt {x : Sem Value} {Q : Flow → Shared → Prop} (hh : A.handled = none)
    (h : wpAny (model prog w) A x (fun v s₁ => ∃ e t dx, v = .ref e ∧ (hd.heap_39 w.params).In s₁.heap ∧ s₁.heap.get? e = some (excD t dx) ∧ E (.ref e) s₁) E s) :
    wpAny (model prog w) A (raiseStmt env (some x) none) Q E s := by
  have hcB : (Value.ref 59 :: BM).contains (.type "BaseException") = true := by decide +kernel
  unfold raiseStmt
  refine wpAny_bind (wpAny_mono h (fun v s₁ h₁ => ?_) fun _ _ x => x)
  obtain ⟨e, t, dx, rfl, X, he, hE⟩ := h₁
  have hC : s₁.heap.get? 59 = some CF := X _ _ (cf_at w)
  obtain ⟨hp, g, d, tk, os⟩ := s₁
  repeat (first | with_reducible refine wpAny_loadPart_at he ?_ | with_reducible refine wpAny_loadPart_at hC ?_ | (with_reducible refine wpAny_isSubtype_exc hC ?_; rw [hcB]) | wp_step)
  exact wpAny_raiseNew_none hh hE
theorem fault_Raise {x : PySem.Expr} {pos : Pos} {Q : Flow → Shared → Prop} (hh : A.handled = none)
    (h : wpAny (model prog w) A (eval x env) (fun v s₁ => ∃ e t dx, v = .ref e ∧ (hd.heap_39 w.params).In s₁.heap ∧ s₁.heap.get? e = some (excD t dx) ∧ E (.ref e) s₁) E s) :
    wpAny (model prog w) A (exec (.Raise (some x) none pos) env) Q E s := by
  rw [arm_exec_Raise]
  show wpAny _ A (do standAt pos; raiseStmt env (some (do let v ← eval x env; standAt pos; pure v)) none) Q E s
  exact wpAny_bind (wpAny_standAt (fault_raiseStmt hh (wpAny_bind (wpAny_mono h (fun v s₁ h₁ => wpAny_bind (wpAny_standAt (wpAny_pure h₁))) fun _ _ x => x))))
end
end

section
open PySem PySem.W PySem.Calls PyProof.Rows
set_option maxRecDepth 100000
set_option maxHeartbeats 8000000

/-- the mark of a fault's flight: no entry yet; an entry and the frame that holds it (none: on its way) -/
noncomputable def Mark (base top h : Heap) (e : Addr) (vs : Array Value) : Option (Option Addr) → Prop
  | none => vs[1]? = some .none
  | some fl => ∃ T oT ts, vs[1]? = some (.ref T) ∧ T ≠ e ∧ (base.get? T = none ∧ top.get? T = none) ∧ h.get? T = some oT ∧ oT.data = .fields ts ∧ ts[3]? = some (match fl with | none => .none | some L => rawInt L)

/-- what stood is kept, up to the slots of the frames -/
noncomputable def Held (l : List Env) (h h' : Heap) : Prop := ∀ b o, h.get? b = some o → (∃ sl, h'.get? b = some { o with slots := sl }) ∧ (b ∉ l.filterMap (·.frame) → h'.get? b = some o)
theorem Held.of_keeps {l : List Env} {h h' : Heap} (k : h.StaysIn h') : Held l h h' := fun b o q => ⟨⟨o.slots, k b o q⟩, fun _ => k b o q⟩
theorem Held.up {l : List Env} {h h₁ h' : Heap} (k : h.StaysIn h₁) (x : Held l h₁ h') : Held l h h' := fun b o q => x b o (k b o q)
theorem Held.out {env : Env} {l : List Env} {h h' : Heap} {L : Addr} (hf : env.frame = some L) (hL : h.get? L = none) (k : Held (env :: l) h h') : Held l h h' := fun b o q => ⟨(k b o q).1, fun hb => (k b o q).2 fun hm => by
  rw [List.filterMap_cons, hf] at hm
  rcases List.mem_cons.mp hm with rfl | hm
  · rw [hL] at q; cases q
  · exact hb hm⟩
theorem Held.slots {l : List Env} {h h' : Heap} (k : Held l h h') : h.UpToSlots h' := fun b o q _ => (k b o q).1
theorem Held.fresh {l : List Env} {h h' : Heap} (k : Held l h h') {b : Addr} (q : h'.get? b = none) : h.get? b = none := by
  cases z : h.get? b with
  | none => rfl
  | some o => obtain ⟨_, r⟩ := (k b o z).1; rw [q] at r; cases r
theorem Held.then {l : List Env} {h h₁ h' : Heap} (x : Held l h h₁) (k : ∀ b o, h₁.get? b = some o → (h.get? b).isSome → (∃ sl, h'.get? b = some { o with slots := sl }) ∧ (b ∉ l.filterMap (·.frame) → h'.get? b = some o)) : Held l h h' := fun b o q => by
  obtain ⟨⟨sl, a⟩, e⟩ := x b o q
  have hs : (h.get? b).isSome := by rw [q]; rfl
  obtain ⟨⟨sl', a'⟩, _⟩ := k b _ a hs
  exact ⟨⟨sl', a'⟩, fun hb => (k b o (e hb) hs).2 hb⟩

/-- a fault of the class SetFault with the place p stands at e -/
structure Exc (base top : Heap) (l : List Env) (e : Addr) (p : Int) (st : Option (Option Addr)) (h : Heap) : Prop where
  stays : base.StaysIn h
  new : base.get? e = none
  held : Held l top h
  at_ : ∃ dx vs od es n u sl, h.get? e = some ⟨.ref 59, some dx, .fields vs, sl⟩ ∧ dx ≠ e ∧ h.get? dx = some od ∧ od.data = .dict (es : List DictEntry).toArray n ∧ getL "at" es = some (some (.int p u)) ∧ (base.get? dx = none ∧ top.get? dx = none ∧ top.get? e = none) ∧ 1 < vs.size ∧ Mark base top h e vs st

theorem Fault.exc {base top h h' : Heap} {l : List Env} {e : Addr} {p : Int} (x : Fault h h' e p) (k : base.StaysIn h) (k2 : top.StaysIn h) : Exc base top l e p none h' := by
  obtain ⟨t, dx, es, n, u, h1, h2, h3, h4, h5⟩ := x.at_
  have f : ∀ a, h.get? a = none → base.get? a = none := fun a q => by
    cases z : base.get? a with
    | none => rfl
    | some o => have := k _ _ z; rw [q] at this; cases this
  have f2 : ∀ a, h.get? a = none → top.get? a = none := fun a q => by
    cases z : top.get? a with
    | none => rfl
    | some o => have := k2 _ _ z; rw [q] at this; cases this
  exact ⟨fun b o q => x.keeps b o (k b o q), f _ x.new, .of_keeps fun b o q => x.keeps b o (k2 b o q), dx, _, _, es, n, u, _, h1, h3, h2, rfl, h5, ⟨f _ h4, f2 _ h4, f2 _ x.new⟩, by simp, rfl⟩

section
variable {M : Model} {A : Around} {E : Value → Shared → Prop} {s : Shared} {base top : Heap} {env : Env} {outer : List Env} {L e : Addr} {p : Int}

theorem exc_entry {c : Value} {od : Option Addr} {vs : Array Value} {sl : Array (Option Value)} {head : Value} {hadNext : Bool} {Q : Unit → Shared → Prop}
    (hfr : A.frames = some (env :: outer)) (hl : s.heap.FunFrames base (env :: outer)) (hf : env.frame = some L)
    (he : s.heap.get? e = some ⟨c, od, .fields vs, sl⟩) (hkb : base.StaysIn s.heap) (hen : base.get? e = none) (hsz : 1 < vs.size)
    (h : ∀ h' T oT ts, h'.get? e = some ⟨c, od, .fields (vs.setIfInBounds 1 (.ref T)), sl⟩ → base.get? T = none → T ≠ e → h'.get? T = some oT → oT.data = .fields ts → ts[3]? = some (rawInt L) →
      (∀ b o, s.heap.get? b = some o → b ≠ e → ∃ sl', h'.get? b = some { o with slots := sl' }) → base.StaysIn h' → h'.FunFrames base (env :: outer) → (∀ b o, s.heap.get? b = some o → b ≠ e → b ∉ (env :: outer).filterMap (·.frame) → h'.get? b = some o) → s.heap.get? T = none → Q () { s with heap := h' }) :
    wpAny M A (do let a ← frameOf env; let pl ← entryPlaceOf L hadNext; let b ← EntryCells.newEntry head a .none (rawInt L) .none pl; setField (.ref e) 1 b) Q E s := by
  have hene : e ∉ (env :: outer).filterMap (·.frame) := fun hm => by
    obtain ⟨_, o, ho, hnf⟩ := hl.mem hm
    rw [he] at ho; injection ho with ho; subst ho; exact hnf vs rfl
  refine wpAny_bind (wpAny_frameOf_fun hfr hl hf fun h₁ hs₁ => ?_)
  refine wpAny_bind (wpAny_entryPlaceOf fun pl hpl => ?_)
  unfold EntryCells.newEntry newFields
  refine wpAny_bind (wpAny_newObj_type ?_ (hpl.sizeOk5 _ _ _ _ _))
  have he₁ : h₁.get? e = some ⟨c, od, .fields vs, sl⟩ := (hs₁.2.1 e hene).trans he
  have kb₁ : base.StaysIn h₁ := fun b o hbo => (hs₁.2.1 b fun hm => by rw [(hl.mem hm).1] at hbo; cases hbo).trans (hkb b o hbo)
  have hTe : h₁.objs.size ≠ e := Nat.ne_of_gt (Heap.lt_size he₁)
  refine wpAny_setField (Heap.get?_push_of_some _ he₁) rfl hsz ?_
  refine h _ h₁.objs.size _ _ ?_ kb₁.fresh hTe ((Heap.get?_update_other _ _ (Ne.symm hTe)).trans (Heap.get?_push_size _ rfl)) rfl ?_ (fun b o hb hbe => ?_) (fun b o hb => ?_) ?_ (fun b o hb hbe hbf => ?_) ?_
  · exact Heap.get?_update_self _ (Heap.get?_push_of_some _ he₁) rfl
  · first | (simp; done) | (rcases hpl with rfl | ⟨_, _, _, _, _, _, _, rfl⟩ <;> simp)
  · obtain ⟨sl', hs⟩ := hs₁.2.2 b o hb
    refine ⟨sl', ?_⟩
    rw [Heap.get?_update_other _ _ (Ne.symm hbe)]
    exact Heap.get?_push_of_some _ hs
  · have hbe : b ≠ e := fun q => by rw [q, hen] at hb; cases hb
    rw [Heap.get?_update_other _ _ (Ne.symm hbe)]
    exact Heap.get?_push_of_some _ (kb₁ b o hb)
  · refine hl.of_keeps fun b o hb hnf => ?_
    have hbe : b ≠ e := fun q => by rw [q, he] at hb; injection hb with hb; subst hb; exact hnf vs rfl
    obtain ⟨sl', hs⟩ := hs₁.2.2 b o hb
    refine ⟨{ o with slots := sl' }, ?_, rfl⟩
    rw [Heap.get?_update_other _ _ (Ne.symm hbe)]
    exact Heap.get?_push_of_some _ hs
  · rw [Heap.get?_update_other _ _ (Ne.symm hbe)]
    exact Heap.get?_push_of_some _ ((hs₁.2.1 b hbf).trans hb)
  · cases z : s.heap.get? h₁.objs.size with
    | none => rfl
    | some o =>
      obtain ⟨_, r⟩ := hs₁.2.2 _ _ z
      exact absurd (Heap.lt_size r) (Nat.lt_irrefl _)

theorem exc_note {st : Option (Option Addr)} {Q : Unit → Shared → Prop} (hfr : A.frames = some (env :: outer)) (hl : s.heap.FunFrames base (env :: outer)) (hf : env.frame = some L) (x : Exc base top (env :: outer) e p st s.heap) (hst : st = none ∨ st = some none ∨ st = some (some L))
    (hQ : ∀ h', Exc base top (env :: outer) e p (some (some L)) h' → h'.FunFrames base (env :: outer) → Q () { s with heap := h' }) : wpAny M A (noteFrame (.ref e) env) Q E s := by
  obtain ⟨hk, hn, hH, dx, vs, od, es, n, u, sl, he, hde, hdx, hod, hg, hbd, hsz, hm⟩ := x
  have notE : ∀ b, (top.get? b).isSome → b ≠ e := fun b q z => by rw [z, hbd.2.2] at q; cases q
  unfold noteFrame
  simp only [hf]
  rcases hst with rfl | rfl | rfl
  · refine wpAny_bind (wpAny_field he rfl hm ?_)
    rw [if_neg (by decide)]
    refine exc_entry hfr hl hf he hk hn hsz fun h' T oT ts h1 h2 h3 h4 h5 h6 h7 h8 h9 h10 h11 => ?_
    obtain ⟨sl', hdx'⟩ := h7 dx od hdx hde
    refine hQ h' ⟨h8, hn, hH.then fun b o q hs => ⟨h7 b o q (notE b hs), fun hb => h10 b o q (notE b hs) hb⟩, dx, _, _, es, n, u, sl, h1, hde, hdx', hod, hg, hbd, by simpa using hsz, T, oT, ts, ?_, h3, ⟨h2, hH.fresh h11⟩, h4, h5, h6⟩ h9
    simp [hsz]
  · obtain ⟨T, oT, ts, hm1, hTe, ⟨hTb, hTt⟩, hT, hd, h3⟩ := hm
    have notT : ∀ b, (top.get? b).isSome → b ≠ T := fun b q z => by rw [z, hTt] at q; cases q
    refine wpAny_bind (wpAny_field he rfl hm1 ?_)
    rw [if_pos (show (Value.ref T != Value.none) = true from by simp)]
    refine wpAny_bind (wpAny_field hT hd h3 ?_)
    rw [if_neg (show ¬ ((Value.none == rawInt L) = true) from by simp [rawInt])]
    refine wpAny_bind (wpAny_setField hT hd (Array.getElem?_eq_some_iff.mp h3).1 ?_)
    have other : ∀ b, b ≠ T → (s.heap.update T (Obj.mapFields (·.setIfInBounds 3 Value.none))).get? b = s.heap.get? b := fun b hb => Heap.get?_update_other _ _ (Ne.symm hb)
    have nf : ∀ b o, s.heap.get? b = some o → (∀ vs, o.data ≠ .fields vs) → b ≠ T := fun b o hb hnf q => by
      rw [q, hT] at hb; injection hb with hb; subst hb; exact hnf ts hd
    have hH2 : Held (env :: outer) top (s.heap.update T (Obj.mapFields (·.setIfInBounds 3 Value.none))) := hH.then fun b o q hs => ⟨⟨o.slots, (other b (notT b hs)).trans q⟩, fun _ => (other b (notT b hs)).trans q⟩
    refine exc_entry hfr (hl.of_keeps fun b o hb hnf => ⟨o, (other b (nf b o hb hnf)).trans hb, rfl⟩) hf ((other e (Ne.symm hTe)).trans he)
      (fun b o hbo => (other b fun q => by rw [q, hTb] at hbo; cases hbo).trans (hk b o hbo)) hn hsz fun h' T' oT' ts' k1 k2 k3 k4 k5 k6 k7 k8 k9 k10 k11 => ?_
    have hdT : dx ≠ T := nf dx od hdx fun vs q => by rw [hod] at q; cases q
    obtain ⟨sl', hdx'⟩ := k7 dx od ((other dx hdT).trans hdx) hde
    refine hQ h' ⟨k8, hn, hH2.then fun b o q hs => ⟨k7 b o q (notE b hs), fun hb => k10 b o q (notE b hs) hb⟩, dx, _, _, es, n, u, sl, k1, hde, hdx', hod, hg, hbd, by simpa using hsz, T', oT', ts', ?_, k3, ⟨k2, hH2.fresh k11⟩, k4, k5, k6⟩ k9
    simp [hsz]
  · obtain ⟨T, oT, ts, hm1, hTe, hTb, hT, hd, h3⟩ := hm
    refine wpAny_bind (wpAny_field he rfl hm1 ?_)
    rw [if_pos (show (Value.ref T != Value.none) = true from by simp)]
    refine wpAny_bind (wpAny_field hT hd h3 ?_)
    rw [if_pos (by simp)]
    exact wpAny_pure (hQ s.heap ⟨hk, hn, hH, dx, vs, od, es, n, u, sl, he, hde, hdx, hod, hg, hbd, hsz, T, oT, ts, hm1, hTe, hTb, hT, hd, h3⟩ hl)

theorem exc_flight {fl : Option Addr} {fr : Option Addr} {l : List Env} {Q : Unit → Shared → Prop} (hl : s.heap.FunFrames base l) (x : Exc base top l e p (some fl) s.heap)
    (hQ : ∀ h', Exc base top l e p (some fr) h' → h'.FunFrames base l → Q () { s with heap := h' }) : wpAny M A (setFlight (.ref e) fr) Q E s := by
  obtain ⟨hk, hn, hH, dx, vs, od, es, n, u, sl, he, hde, hdx, hod, hg, hbd, hsz, T, oT, ts, hm1, hTe, ⟨hTb, hTt⟩, hT, hd, h3⟩ := x
  have notT : ∀ b, (top.get? b).isSome → b ≠ T := fun b q z => by rw [z, hTt] at q; cases q
  unfold setFlight
  refine wpAny_bind (wpAny_field he rfl hm1 ?_)
  rw [if_pos (show (Value.ref T != Value.none) = true from by simp)]
  have h3lt := (Array.getElem?_eq_some_iff.mp h3).1
  have other : ∀ b, b ≠ T → (s.heap.update T (Obj.mapFields (·.setIfInBounds 3 (fr.elim Value.none fun f => rawInt f)))).get? b = s.heap.get? b := fun b hb => Heap.get?_update_other _ _ (Ne.symm hb)
  have nf : ∀ b o, s.heap.get? b = some o → (∀ vs, o.data ≠ .fields vs) → b ≠ T := fun b o hb hnf q => by
    rw [q, hT] at hb; injection hb with hb; subst hb; exact hnf ts hd
  refine wpAny_setField hT hd h3lt (hQ _ ?_ ?_)
  · have hdT : dx ≠ T := nf dx od hdx fun vs q => by rw [hod] at q; cases q
    have hd2 := Obj.data_mapFields hd (·.setIfInBounds 3 (fr.elim Value.none fun f => rawInt f))
    refine ⟨fun b o hbo => (other b fun q => by rw [q, hTb] at hbo; cases hbo).trans (hk b o hbo), hn, hH.then fun b o q hs => ⟨⟨o.slots, (other b (notT b hs)).trans q⟩, fun _ => (other b (notT b hs)).trans q⟩, dx, vs, od, es, n, u, sl, (other e (Ne.symm hTe)).trans he, hde, (other dx hdT).trans hdx, hod, hg, hbd, hsz, T, _, _, hm1, hTe, ⟨hTb, hTt⟩,
      Heap.get?_update_self _ hT (Obj.isFreed_of_fields hd2), hd2, ?_⟩
    cases fr <;> simp [h3lt]
  · exact hl.of_keeps fun b o q hnf => ⟨o, (other b (nf b o q hnf)).trans q, rfl⟩
end

theorem Exc.down {base top h₁ h : Heap} {l : List Env} {e : Addr} {p : Int} {st : Option (Option Addr)} (x : Exc base h₁ l e p st h) (k : top.StaysIn h₁) : Exc base top l e p st h := by
  have f2 : ∀ a, h₁.get? a = none → top.get? a = none := fun a q => by
    cases z : top.get? a with
    | none => rfl
    | some o => have := k _ _ z; rw [q] at this; cases this
  obtain ⟨hk, hn, hH, dx, vs, od, es, n, u, sl, he, hde, hdx, hod, hg, ⟨b1, b2, b3⟩, hsz, hm⟩ := x
  refine ⟨hk, hn, hH.up k, dx, vs, od, es, n, u, sl, he, hde, hdx, hod, hg, ⟨b1, f2 _ b2, f2 _ b3⟩, hsz, ?_⟩
  cases st with
  | none => exact hm
  | some fl =>
    obtain ⟨T, oT, ts, hm1, hTe, ⟨hTb, hTt⟩, hT, hd, h3⟩ := hm
    exact ⟨T, oT, ts, hm1, hTe, ⟨hTb, f2 _ hTt⟩, hT, hd, h3⟩
theorem Exc.out {base top h : Heap} {env : Env} {l : List Env} {L e : Addr} {p : Int} {st : Option (Option Addr)} (hf : env.frame = some L) (hL : top.get? L = none) (x : Exc base top (env :: l) e p st h) : Exc base top l e p st h := ⟨x.stays, x.new, x.held.out hf hL, x.at_⟩
/-- a fault on its way, over the state that it began in -/
noncomputable def Up (base : Heap) (l : List Env) (s₀ : Shared) (Err : Int → Prop) (ok : Option (Option Addr) → Prop) (v : Value) (s' : Shared) : Prop :=
  ∃ e p st h' tk', v = .ref e ∧ s' = { s₀ with heap := h', toks := tk' } ∧ Exc base s₀.heap l e p st h' ∧ ok st ∧ h'.FunFrames base l ∧ Err p
noncomputable def InFrame (L : Addr) (st : Option (Option Addr)) : Prop := st = none ∨ st = some none ∨ st = some (some L)
noncomputable def OnWay (st : Option (Option Addr)) : Prop := st = some none

theorem Up.over {base : Heap} {l : List Env} {s₀ : Shared} {h₁ : Heap} {tk : Nat} {Err Err' : Int → Prop} {ok ok' : Option (Option Addr) → Prop} {v : Value} {s' : Shared} (x : Up base l { s₀ with heap := h₁, toks := tk } Err ok v s') (k : s₀.heap.StaysIn h₁) (he : ∀ p, Err p → Err' p) (ho : ∀ st, ok st → ok' st) :
    Up base l s₀ Err' ok' v s' := by
  obtain ⟨e, p, st, h', tk', rfl, rfl, hx, hok, hf, hp⟩ := x
  exact ⟨e, p, st, h', tk', rfl, rfl, hx.down k, ho _ hok, hf, he _ hp⟩

section
variable {M : Model} {A : Around} {E : Value → Shared → Prop} {s₀ s : Shared} {base : Heap} {env : Env} {outer : List Env} {L : Addr} {Err : Int → Prop}
theorem up_passes (hfr : A.frames = some (env :: outer)) (hf : env.frame = some L) : PassesOwn M A env (Up base (env :: outer) s₀ Err (InFrame L)) := by
  rintro v s' ⟨e, p, st, h', tk', rfl, rfl, hx, hok, hff, hp⟩
  refine exc_note hfr hff hf hx hok fun h2 hx2 hff2 => ?_
  have hx2' := hx2
  obtain ⟨_, _, _, dx, vs, od, es, n, u, sl, he, hde, hdx, hod, hg, hbd, hsz, T, oT, ts, hm1, hTe, hTb, hT, hd, h3⟩ := hx2'
  show wpAny M A (do
    if (← field (.ref e) 1) == .none then unsupported "frame.own-activation:exception-without-traceback"
    setFlight (.ref e) env.frame) _ _ _
  refine wpAny_bind (wpAny_field he rfl hm1 ?_)
  rw [if_neg (by simp)]
  rw [hf]
  refine exc_flight (s := { s₀ with heap := h2, toks := tk' }) hff2 hx2 fun h3 hx3 hff3 => ?_
  exact ⟨e, p, _, h3, tk', rfl, rfl, hx3, .inr (.inr rfl), hff3, hp⟩

theorem up_leaves {v : Value} {Q : Unit → Shared → Prop} (hL : s₀.heap.get? L = none) (hfr : A.frames = some (env :: outer)) (hf : env.frame = some L) (x : Up base (env :: outer) s₀ Err (InFrame L) v s) (hQ : ∀ s', Up base outer s₀ Err OnWay v s' → Q () s') : wpAny M A (leaving env v) Q E s := by
  obtain ⟨e, p, st, h', tk', rfl, rfl, hx, hok, hff, hp⟩ := x
  unfold leaving
  refine wpAny_bind (exc_note hfr hff hf hx hok fun h2 hx2 hff2 => ?_)
  refine exc_flight (s := { s₀ with heap := h2, toks := tk' }) hff2 hx2 fun h3 hx3 hff3 => ?_
  exact hQ _ ⟨e, p, _, h3, tk', rfl, rfl, hx3.out hf hL, rfl, hff3.2.2, hp⟩
end

/-- a call of a def that may raise the fault -/
noncomputable def FnE (prog : Program) (w : World) (f : Addr) (vs : List Value) (n : Nat) (Pre : Heap → Prop) (Post : Value → Heap → Prop) (Err : Int → Prop) : Prop :=
  ∀ (dp un : Nat) (gd : Option (List Code)) (outer : List Env) (base : Heap) (mean : ExcName → Option Value) (mg mb : Str → Option Value) (s : Shared) (R : Result → Shared → Prop),
    Below (Ar dp un gd outer) base outer s.heap → (hd.heap_39 w.params).In s.heap → Top VP LO mean mg mb s.heap → dp + n < recursionLimit → un + 8 * n + 8 < cLine → Pre s.heap →
    (∀ v h' tk', s.heap.StaysIn h' → Post v h' → R (.ok (.ret v)) { s with heap := h', toks := tk' }) →
    (∀ v s', Up base outer s Err OnWay v s' → R (.error v) s') →
    codeAny (model prog w) (Ar dp un gd outer) (.call (.ref f) ⟨vs, []⟩) R s

section
variable {prog : Program} {w : World} {dp un : Nat} {gd : Option (List Code)} {outer : List Env} {base : Heap} {mean : ExcName → Option Value} {mg mb : Str → Option Value} {s : Shared} {R : Result → Shared → Prop}
theorem enterE {name qual : Str} {params : Arguments} {body : List Stmt} {scope : Scope} {dV kV doc pm cdv ct oc : Value} {an od : Option Addr} {osl : Array (Option Value)} {f : Addr} {args : Args} {binds : List (Str × Value)} {Err : Int → Prop}
    (B : Below (Ar dp un gd outer) base outer s.heap) (X : (hd.heap_39 w.params).In s.heap) (T : Top VP LO mean mg mb s.heap) (hE : ∀ v s', Up base outer s Err OnWay v s' → R (.error v) s')
    (ho : (hd.heap_39 w.params).lookup f = some ⟨oc, od, .func (fnOf name qual params body scope dV kV doc pm an cdv ct), osl⟩) (hcd : codeIn (hd.heap_39 w.params) cdv qual = true) (hroom : dp < recursionLimit)
    (hbind : BindsTo s (fnOf name qual params body scope dV kV doc pm an cdv ct) args binds) (hloc : ∀ y ∈ binds, scope.names.lookup y.1 = some .local)
    (h : ∀ L h₁, Fr s.heap L h₁ (fun y => binds.reverse.lookup y) → News s.heap L h₁ [] →
      wpAny (model prog w) ((Ar dp un gd outer).deeper (envOf qual scope L f cdv)) (execs body (envOf qual scope L f cdv))
        (fun fl s' => R (.ok (.ret (match fl with | .ret v => v | _ => .none))) s') (Up base (envOf qual scope L f cdv :: outer) s Err (InFrame L))
        { s with heap := h₁, toks := s.toks + binds.length })
    (hco : scope.isCoroutine = false := by rfl) (hgen : scope.isGenerator = false := by rfl) (hk : scope.kind = .function := by rfl)
    (hcell : ∀ x ∈ scope.names, x.2 ≠ .cell := by decide) : codeAny (model prog w) (Ar dp un gd outer) (.call (.ref f) args) R s :=
  enter X T ho hcd hroom hbind hloc (fun L h₁ F N => wpAny_mono (h L h₁ F N) (fun _ _ x => x) fun v s' x => up_leaves (L := L) (Heap.get?_none_of_le F.above) rfl rfl x fun s'' y => hE v s'' y) hco hgen hk hcell

/-- a call from within a def's frame -/
theorem FnE.use {f : Addr} {vs : List Value} {n : Nat} {Pre : Heap → Prop} {Post : Value → Heap → Prop} {Err : Int → Prop} (hf : FnE prog w f vs n Pre Post Err)
    {h₀ : Heap} {L a : Addr} {m : Str → Option Value} {news : List (Addr × Obj)} {name : Str} {scope : Scope} {cd : Value} {Q E : Value → Shared → Prop}
    (B : Below (Ar dp un gd outer) base outer h₀) (F : Fr h₀ L s.heap m) (N : News h₀ L s.heap news) (X : (hd.heap_39 w.params).In h₀) (T : Top VP LO mean mg mb h₀)
    (hd : dp + 1 + n < recursionLimit) (hu : un + 3 + 8 * n + 8 < cLine) (pre : Pre s.heap)
    (k : ∀ v h' tk', s.heap.StaysIn h' → Fr h₀ L h' m → News h₀ L h' news → Post v h' → Q v { s with heap := h', toks := tk' })
    (ke : ∀ v s', Up base (envOf name scope L a cd :: outer) s Err OnWay v s' → E v s') (hk : scope.kind = .function := by rfl) :
    wpAny (model prog w) ((Ar dp un gd outer).deeper (envOf name scope L a cd)) (call (.ref f) vs) Q E s := by
  refine wpAny_call ?_
  refine hf (dp + 1) (un + 3) gd (envOf name scope L a cd :: outer) base mean mg mb s _ (B.push F hk) (X.keeps F.keep) (T.keeps F.keep) hd hu pre (fun v h' tk' st hp => ?_) ke
  exact k v h' tk' st (F.keeps st) (N.grown st) hp

/-- a fault raised in a def's frame -/
theorem up_raised {h h' : Heap} {tk : Nat} {L a e : Addr} {m : Str → Option Value} {name : Str} {scope : Scope} {cd : Value} {p : Int} {Err : Int → Prop} (B : Below (Ar dp un gd outer) base outer s.heap) (F : Fr s.heap L h m) (x : Fault h h' e p) (hp : Err p) (hk : scope.kind = .function := by rfl) :
    Up base (envOf name scope L a cd :: outer) s Err (InFrame L) (.ref e) { s with heap := h', toks := tk } := by
  have B' := B.push (name := name) (a := a) (cd := cd) F hk
  refine ⟨e, p, none, h', tk, rfl, rfl, x.exc (fun b o q => F.keep b o (B.stays b o q)) F.keep, .inl rfl, ?_, hp⟩
  exact B'.frames.of_keeps fun b o q _ => ⟨o, x.keeps b o q, rfl⟩
end
end

section
open PySem PySem.W PySem.Calls PyProof.Rows
/-- objects that stand new in a heap -/
noncomputable def FreshIn (H h : Heap) (led : List (Addr × Obj)) : Prop := ∀ p ∈ led, h.get? p.1 = some p.2 ∧ H.get? p.1 = none
theorem FreshIn.of_news {H h : Heap} {L : Addr} {led : List (Addr × Obj)} (N : News H L h led) : FreshIn H h led := fun p hp => ⟨(N p hp).1, (N p hp).2.2⟩
theorem FreshIn.news {h₀ H h : Heap} {L : Addr} {m : Str → Option Value} {led news : List (Addr × Obj)} (x : FreshIn H h led) (F : Fr h₀ L H m) (N : News h₀ L h news) : News h₀ L h (led ++ news) := fun p hp => by
  rcases List.mem_append.mp hp with hp | hp
  · refine ⟨(x p hp).1, fun e => ?_, kts_none F.keep (x p hp).2⟩
    obtain ⟨o, _, _, ho, _⟩ := F.ns
    have := (x p hp).2
    rw [e, ho] at this
    cases this
  · exact N p hp
/-- the ledger bears a set -/
noncomputable def SetIn (led : List (Addr × Obj)) (v : Value) (ps : List (Int × Int)) : Prop := ∃ b vs k, v = .ref b ∧ (b, ({ cls := .type "tuple", data := .seq (List.toArray vs) k } : Obj)) ∈ led ∧ PairsIn led vs ps
theorem SetIn.mono {led led' : List (Addr × Obj)} {v : Value} {ps : List (Int × Int)} (x : SetIn led v ps) (hs : ∀ p ∈ led, p ∈ led') : SetIn led' v ps :=
  let ⟨b, vs, k, e, hm, hP⟩ := x; ⟨b, vs, k, e, hs _ hm, hP.mono hs⟩
theorem SetIn.at {h₀ h : Heap} {L : Addr} {led : List (Addr × Obj)} {v : Value} {ps : List (Int × Int)} (N : News h₀ L h led) (x : SetIn led v ps) : SetAt h v ps :=
  let ⟨b, vs, _, e, hm, hP⟩ := x; ⟨b, vs, e, ⟨_, (N _ hm).1, rfl, _, rfl⟩, PairsIn.at N hP⟩
theorem set_in {led rest : List (Addr × Obj)} {D T : Addr} {zs vs : List Value} {kd kk : Nat} {x y : Int} {tx ty : Tok} {ps : List (Int × Int)} (hD : (D, ({ cls := .type "tuple", data := .seq zs.toArray kd } : Obj)) ∈ led) (hT : (T, ({ cls := .type "tuple", data := .seq #[.int x tx, .int y ty] kk } : Obj)) ∈ led)
    (hr : ∀ p ∈ rest, p ∈ led) (hz : zs = vs ++ [Value.ref T]) (hP : PairsIn rest vs ps) : SetIn led (.ref D) (ps ++ [(x, y)]) := by
  subst hz
  exact ⟨D, _, kd, rfl, hD, .snoc (hP.mono hr) hT⟩
end

section
open PySem PySem.W PySem.Calls PyProof.Rows
noncomputable def plen (p : Int × Int) : Int := ((S (showPair p)).length : Int)
noncomputable def splitStep (width : Int) (st : List (List (Int × Int)) × List (Int × Int) × Int) (p : Int × Int) : List (List (Int × Int)) × List (Int × Int) × Int :=
  if 0 < st.2.1.length ∧ width < st.2.2 + 1 + plen p then (st.1 ++ [st.2.1], [p], 0 + plen p) else if 0 < st.2.1.length then (st.1, st.2.1 ++ [p], st.2.2 + 1 + plen p) else (st.1, [p], st.2.2 + plen p)
noncomputable def splitSt (width : Int) (ps : List (Int × Int)) := ps.foldl (splitStep width) ([], [], 0)
noncomputable def splitOf (width : Int) (ps : List (Int × Int)) : List (List (Int × Int)) := if 0 < (splitSt width ps).2.1.length then (splitSt width ps).1 ++ [(splitSt width ps).2.1] else (splitSt width ps).1
end

section
open PySem PySem.W PySem.Calls PyProof.Rows
set_option maxRecDepth 100000
set_option maxHeartbeats 8000000

theorem splitSt_snoc {width : Int} {ps : List (Int × Int)} {i : Nat} {p : Int × Int} (hp : ps[i]? = some p) : splitSt width (ps.take (i + 1)) = splitStep width (splitSt width (ps.take i)) p := by
  unfold splitSt
  rw [List.take_add_one, hp, List.foldl_append]
  rfl
/-- the ledger bears the pieces -/
inductive PiecesIn (h₀ : Heap) (led : List (Addr × Obj)) : List Value → List (List (Int × Int)) → Prop where
  | nil : PiecesIn h₀ led [] []
  | snoc {vs : List Value} {pcs : List (List (Int × Int))} {a : Addr} {tv : List Value} {pc : List (Int × Int)} {k : Nat} : PiecesIn h₀ led vs pcs → (a, ({ cls := .type "tuple", data := .seq tv.toArray k } : Obj)) ∈ led → PairsAt h₀ tv pc → PiecesIn h₀ led (vs ++ [Value.ref a]) (pcs ++ [pc])
theorem PiecesIn.mono {h₀ : Heap} {led led' : List (Addr × Obj)} {vs : List Value} {pcs : List (List (Int × Int))} (h : PiecesIn h₀ led vs pcs) (hs : ∀ p ∈ led, p ∈ led') : PiecesIn h₀ led' vs pcs := by
  induction h with
  | nil => exact .nil
  | snoc _ hm hp ih => exact .snoc ih (hs _ hm) hp
/-- a heap bears the pieces -/
inductive PiecesAt (h : Heap) : List Value → List (List (Int × Int)) → Prop where
  | nil : PiecesAt h [] []
  | cons {vs : List Value} {pcs : List (List (Int × Int))} {v : Value} {pc : List (Int × Int)} : SetAt h v pc → PiecesAt h vs pcs → PiecesAt h (v :: vs) (pc :: pcs)
theorem PiecesAt.snoc {h : Heap} {vs : List Value} {pcs : List (List (Int × Int))} {v : Value} {pc : List (Int × Int)} (x : PiecesAt h vs pcs) (y : SetAt h v pc) : PiecesAt h (vs ++ [v]) (pcs ++ [pc]) := by
  induction x with
  | nil => exact .cons y .nil
  | cons s _ ih => exact .cons s ih
theorem PiecesIn.at {h₀ h : Heap} {L : Addr} {led : List (Addr × Obj)} {vs : List Value} {pcs : List (List (Int × Int))} (k : ∀ b o, h₀.get? b = some o → h.get? b = some o) (N : News h₀ L h led) (x : PiecesIn h₀ led vs pcs) : PiecesAt h vs pcs := by
  induction x with
  | nil => exact .nil
  | snoc _ hm hp ih => exact ih.snoc ⟨_, _, rfl, ⟨_, (N _ hm).1, rfl, _, rfl⟩, hp.keeps k⟩
theorem PiecesAt.keeps {h h' : Heap} {vs : List Value} {pcs : List (List (Int × Int))} (x : PiecesAt h vs pcs) (k : h.StaysIn h') : PiecesAt h' vs pcs := by
  induction x with
  | nil => exact .nil
  | cons s _ ih => exact .cons (s.keeps k) ih
theorem PiecesAt.length {h : Heap} {vs : List Value} {pcs : List (List (Int × Int))} (x : PiecesAt h vs pcs) : vs.length = pcs.length := by
  induction x with
  | nil => rfl
  | cons _ _ ih => simp [ih]

noncomputable def ClsOk (nw : List (Addr × Obj)) : Prop := ∀ p ∈ nw, p.2.cls = .type "list" ∨ p.2.cls = .type "tuple"
theorem ClsOk.cons {x : Addr × Obj} {nw : List (Addr × Obj)} (h : x.2.cls = .type "list" ∨ x.2.cls = .type "tuple") (k : ClsOk nw) : ClsOk (x :: nw) := fun p hp => by
  rcases List.mem_cons.mp hp with rfl | hp
  · exact h
  · exact k p hp
noncomputable def SplitJ (h₀ : Heap) (ps : List (Int × Int)) (width : Int) (b : Addr) (tw : Tok) (i : Nat) (m : Str → Option Value) (nw : List (Addr × Obj)) : Prop :=
  ∃ (ar ap : Addr) (rv pv : List Value) (kr kp : Nat) (rest : List (Addr × Obj)) (used : Int) (tu : Tok) (pcs : List (List (Int × Int))) (row : List (Int × Int)), nw = (ar, listOf rv.toArray kr) :: (ap, listOf pv.toArray kp) :: rest ∧ (@Ne Nat ap ar) ∧ (∀ p ∈ rest, p.1 ≠ ar) ∧ (∀ p ∈ rest, p.1 ≠ ap) ∧ ClsOk nw ∧
    m (Str.ofString "some") = some (.ref b) ∧ m (Str.ofString "width") = some (.int width tw) ∧ m (Str.ofString "pieces") = some (.ref ap) ∧ m (Str.ofString "row") = some (.ref ar) ∧ m (Str.ofString "used") = some (.int used tu) ∧
    splitSt width (ps.take i) = (pcs, row, used) ∧ PiecesIn h₀ rest pv pcs ∧ PairsAt h₀ rv row ∧ (∀ j p, j < i → ps[j]? = some p → plen p ≤ width) ∧ pv.length ≤ i ∧ rv.length ≤ i
theorem fr5 {h₀ h : Heap} {L : Addr} {m : Str → Option Value} {a b c d e : Str} {x y z q r : Option Value} (F : Fr h₀ L h m) (ha : m a = x) (hb : m b = y) (hc : m c = z) (hd : m d = q) (he : m e = r) : Fr h₀ L h (fun s => if s = a then x else if s = b then y else if s = c then z else if s = d then q else if s = e then r else m s) := by
  have e : (fun s => if s = a then x else if s = b then y else if s = c then z else if s = d then q else if s = e then r else m s) = m := by
    funext s
    split
    · rename_i h; rw [h, ha]
    · split
      · rename_i h; rw [h, hb]
      · split
        · rename_i h; rw [h, hc]
        · split
          · rename_i h; rw [h, hd]
          · split
            · rename_i h; rw [h, he]
            · rfl
  rw [e]; exact F
theorem seq_idx {i n : Nat} (hi : i < n) : seqIndex? ((0 : Int) + (i : Int)) n = some i := by
  unfold seqIndex?
  have h1 : ¬ ((0 : Int) + (i : Int) < 0) := by omega
  have h2 : ((0 : Int) ≤ (0 : Int) + (i : Int)) := by omega
  have h3 : ((0 : Int) + (i : Int) < (n : Int)) := by omega
  have h4 : ((0 : Int) + (i : Int)).toNat = i := by omega
  simp only [h1, if_false, h2, h3, decide_true, Bool.and_self, if_true, h4]
theorem news_sub {h₀ h : Heap} {L : Addr} {l l' : List (Addr × Obj)} (N : News h₀ L h l) (hs : ∀ p ∈ l', p ∈ l) : News h₀ L h l' := fun p hp => N p (hs p hp)
section
variable {h₀ : Heap} {ps : List (Int × Int)} {width : Int} {b : Addr} {tw : Tok} {i : Nat} {m : Str → Option Value} {ar ap a : Addr} {rv pv : List Value} {kr kp k' k'' : Nat} {rest : List (Addr × Obj)} {used used' : Int} {tu' tp up : Tok} {pcs : List (List (Int × Int))} {row : List (Int × Int)} {lo hi2 : Int}
theorem splitJ_push {xs : Array Value} (hne : @Ne Nat ap ar) (ho1 : ∀ p ∈ rest, p.1 ≠ ar) (ho2 : ∀ p ∈ rest, p.1 ≠ ap) (hc : ClsOk ((ar, listOf rv.toArray kr) :: (ap, listOf pv.toArray kp) :: rest))
    (hm1 : m (Str.ofString "some") = some (.ref b)) (hm2 : m (Str.ofString "width") = some (.int width tw)) (hm3 : m (Str.ofString "pieces") = some (.ref ap)) (hm4 : m (Str.ofString "row") = some (.ref ar)) (hm5 : m (Str.ofString "used") = some (.int used' tu'))
    (hst : splitSt width (ps.take i) = (pcs, row, used)) (hPi : PiecesIn h₀ rest pv pcs) (hRo : PairsAt h₀ rv row) (hall : ∀ j p, j < i → ps[j]? = some p → plen p ≤ width) (hl1 : pv.length ≤ i) (hl2 : rv.length ≤ i)
    (hpi : ps[i]? = some (lo, hi2)) (hpt : IsTup h₀ a #[.int lo tp, .int hi2 up]) (hw : plen (lo, hi2) ≤ width) (hstep : (0 < row.length ∧ ¬ width < used + 1 + plen (lo, hi2) ∧ used' = used + 1 + plen (lo, hi2)) ∨ (¬ 0 < row.length ∧ used' = used + plen (lo, hi2))) (hx : xs = rv.toArray.push (Value.ref a)) :
    SplitJ h₀ ps width b tw (i + 1) m ((ar, listOf xs k') :: (ap, listOf pv.toArray kp) :: rest) := by
  subst hx
  refine ⟨ar, ap, rv ++ [.ref a], pv, k', kp, rest, used', tu', pcs, row ++ [(lo, hi2)], by simp, hne, ho1, ho2, fun p hp => ?_, hm1, hm2, hm3, hm4, hm5, ?_, hPi, hRo.snoc hpt, ?_, by omega, by simp; omega⟩
  · rcases List.mem_cons.mp hp with rfl | hp
    · exact .inl rfl
    · exact hc p (.tail _ hp)
  · rw [splitSt_snoc hpi, hst]
    unfold splitStep
    rcases hstep with ⟨h1, h2, h3⟩ | ⟨h1, h3⟩
    · rw [if_neg (fun z => h2 z.2), if_pos h1, h3]
    · rw [if_neg (fun z => h1 z.1), if_neg h1, h3]
      have e : row = [] := List.eq_nil_of_length_eq_zero (by omega)
      rw [e]; rfl
  · intro j p hj hjp
    by_cases hji : j = i
    · subst hji; rw [hpi] at hjp; cases hjp; exact hw
    · exact hall j p (by omega) hjp
theorem splitJ_cut {k0 : Nat} {xs ys : Array Value} {al D I : Addr} (hq : D < al ∧ I < al ∧ ar < al ∧ ap < al ∧ AllLt al rest) (hDp : @Ne Nat D ap) (hne : @Ne Nat ap ar) (ho2 : ∀ p ∈ rest, p.1 ≠ ap) (hc : ClsOk ((ar, listOf rv.toArray kp) :: (ap, listOf pv.toArray k0) :: rest))
    (hm1 : m (Str.ofString "some") = some (.ref b)) (hm2 : m (Str.ofString "width") = some (.int width tw)) (hm3 : m (Str.ofString "pieces") = some (.ref ap)) (hm4 : m (Str.ofString "row") = some (.ref al)) (hm5 : m (Str.ofString "used") = some (.int used' tu'))
    (hst : splitSt width (ps.take i) = (pcs, row, used)) (hPi : PiecesIn h₀ rest pv pcs) (hRo : PairsAt h₀ rv row) (hall : ∀ j p, j < i → ps[j]? = some p → plen p ≤ width) (hl1 : pv.length ≤ i) (hl2 : rv.length ≤ i)
    (hpi : ps[i]? = some (lo, hi2)) (hpt : IsTup h₀ a #[.int lo tp, .int hi2 up]) (hw : plen (lo, hi2) ≤ width) (h1 : 0 < row.length) (h2 : width < used + 1 + plen (lo, hi2)) (hu : used' = 0 + plen (lo, hi2)) (hx : xs = #[Value.ref a]) (hy : ys = (pv ++ [Value.ref D]).toArray) :
    SplitJ h₀ ps width b tw (i + 1) m ((al, listOf xs k') :: (ap, listOf ys kr) :: (D, { cls := .type "tuple", data := .seq rv.toArray k'' }) :: (ar, listOf rv.toArray kp) :: rest) := by
  subst hx hy
  obtain ⟨q1, _, q3, q4, q5⟩ := hq
  have hne2 : @Ne Nat ap al := Nat.ne_of_lt q4
  have hDl : @Ne Nat D al := Nat.ne_of_lt q1
  have hal : @Ne Nat ar al := Nat.ne_of_lt q3
  have ho0 : ∀ p ∈ rest, p.1 ≠ al := fun p hp => Nat.ne_of_lt (kst_ltOf q5 p hp)
  refine ⟨al, ap, [.ref a], pv ++ [.ref D], k', kr, _, used', tu', pcs ++ [row], [(lo, hi2)], rfl, hne2, ?_, ?_, fun p hp => ?_, hm1, hm2, hm3, hm4, hm5, ?_, ?_, .cons hpt .nil, ?_, by simp; omega, by simp⟩
  · intro p hp
    rcases List.mem_cons.mp hp with rfl | hp
    · exact hDl
    · rcases List.mem_cons.mp hp with rfl | hp
      · exact hal
      · exact ho0 p hp
  · intro p hp
    rcases List.mem_cons.mp hp with rfl | hp
    · exact hDp
    · rcases List.mem_cons.mp hp with rfl | hp
      · exact Ne.symm hne
      · exact ho2 p hp
  · rcases List.mem_cons.mp hp with rfl | hp
    · exact .inl rfl
    · rcases List.mem_cons.mp hp with rfl | hp
      · exact .inl rfl
      · rcases List.mem_cons.mp hp with rfl | hp
        · exact .inr rfl
        · rcases List.mem_cons.mp hp with rfl | hp
          · exact .inl rfl
          · exact hc p (.tail _ (.tail _ hp))
  · rw [splitSt_snoc hpi, hst]
    unfold splitStep
    rw [if_pos ⟨h1, h2⟩, hu]
  · exact .snoc (hPi.mono fun p hp => .tail _ (.tail _ hp)) (.head _) hRo
  · intro j p hj hjp
    by_cases hji : j = i
    · subst hji; rw [hpi] at hjp; cases hjp; exact hw
    · exact hall j p (by omega) hjp
end
/-- where a pair is too wide first -/
noncomputable def WideAt (width : Int) (ps : List (Int × Int)) (i : Nat) : Prop := (∃ p, ps[i]? = some p ∧ width < plen p) ∧ ∀ (j : Nat) p, j < i → ps[j]? = some p → plen p ≤ width
theorem split_set_ok {prog : Program} {w : World} (H0 H : Heap) (ps : List (Int × Int)) (v : Value) (width : Int) (tw : Tok) : FnE prog w 101 [v, .int width tw] 6 (fun h => h = H ∧ H0.StaysIn H ∧ SetAt H0 v ps ∧ (∀ p ∈ ps, GoodP p) ∧ ps.length ≤ 1001 ∧ 0 ≤ width ∧ width ≤ 30)
    (fun v h => (∀ (j : Nat) p, ps[j]? = some p → plen p ≤ width) ∧ ∃ a pv k led, v = .ref a ∧ FreshIn H h ((a, listOf (List.toArray pv) k) :: led) ∧ PiecesIn H0 led pv (splitOf width ps)) (fun q => ∃ i : Nat, q = i ∧ WideAt width ps i) := by
  intro dp un gd outer base mean mg mb s R B X T hdp hu ⟨hH, hst0, ⟨b, vs, hv, hT0, hP0⟩, hg, hn, hw0, hw1⟩ k ke
  subst hv hH
  have hT := hT0.keeps hst0
  have hP := hP0.keeps hst0
  refine' enterE (binds := [(Str.ofString "some", .ref b), (Str.ofString "width", .int width tw)]) B ?k1 ?k2 ke ?k3 ?k4 ?k5 ?k6 ?k7 ?_ ?c1 ?c2 ?c3 ?c
  k_dflt (((case k1 | k2 => k_asm); (case k3 | k4 => k_is); (case k5 => omega); (case k6 => exact BindsTo.of_eq rfl); (case k7 => exact locs rfl); (case c => decide); (case c1 | c2 | c3 => exact rfl)))
  intro L h₁ F N
  have hvl := hP.length
  (repeat' ((fail_if_success (with_reducible first | refine atWhile ?_ | refine atRaise ?_ | refine atFor ?_ | refine atAssignComp ?_ | refine atComp ?_ | refine atTry ?_ | refine atAppend ?_ | refine atList ?_ | refine atTwo ?_)); first | (k_unfold; (try dsimp only)) | (k_end; wrow_close) | walk1 | (dsimp only; walk1) | (leave1; try dsimp only)))
  rename_i F' N'
  refine For_range (a := 0) (b := (ps.length : Int)) (n := ps.length) (SplitJ H0 ps width b tw) F' N' rfl rfl ?_ ⟨_, _, [], [], 0, 0, [], 0, _, [], [], rfl, (by omega), (fun _ h => nomatch h), (fun _ h => nomatch h), ?_, rfl, rfl, rfl, rfl, rfl, rfl, .nil, .nil, (fun j p h => absurd h (Nat.not_lt_zero j)), Nat.le_refl _, Nat.le_refl _⟩ ?_ ?_ ?_ ?_ ?_ (up_passes rfl rfl)
  · (repeat' ((fail_if_success (with_reducible first | refine atWhile ?_ | refine atRaise ?_ | refine atFor ?_ | refine atAssignComp ?_ | refine atComp ?_ | refine atTry ?_ | refine atAppend ?_ | refine atList ?_ | refine atTwo ?_)); first | (k_unfold; (try dsimp only)) | (k_end; wrow_close) | walk1 | (dsimp only; walk1) | (leave1; try dsimp only)))
    refine len_tuple (hT.keeps (Fr.keep (by assumption))) (by rw [List.size_toArray]; omega) ?_
    rw [List.size_toArray, hvl]
    (repeat' ((fail_if_success (with_reducible first | refine atWhile ?_ | refine atRaise ?_ | refine atFor ?_ | refine atAssignComp ?_ | refine atComp ?_ | refine atTry ?_ | refine atAppend ?_ | refine atList ?_ | refine atTwo ?_)); first | (k_unfold; (try dsimp only)) | (k_end; wrow_close) | walk1 | (dsimp only; walk1) | (leave1; try dsimp only)))
    · assumption
    · assumption
  · exact ClsOk.cons (.inl rfl) (ClsOk.cons (.inl rfl) (fun _ h => nomatch h))
  · exact small_nat (by omega)
  · exact size_nat _
  · rintro i m nw ⟨ar, ap, rv, pv, kr, kp, rest, used, tu, pcs, row, rfl, hne, ho1, ho2, hc, _⟩ p hp z
    rcases hc p hp with e | e
    · rw [e] at z; exact absurd (Value.type.inj z) (by decide)
    · rw [e] at z; exact absurd (Value.type.inj z) (by decide)
  · rintro i I oI t m₁ news₁ h tk hi ⟨ar, ap, rv, pv, kr, kp, rest, used, tu, pcs, row, rfl, hne, ho1, ho2, hc, hm1, hm2, hm3, hm4, hm5, hst, hPi, hRo, hall, hl1, hl2⟩ hcI F₁ N₁
    have F₂ := fr5 F₁ (a := Str.ofString "some") (b := Str.ofString "width") (c := Str.ofString "pieces") (d := Str.ofString "row") (e := Str.ofString "used") hm1 hm2 hm3 hm4 hm5
    clear F₁
    have hIr : I ≠ ar := News.twoPlaces N₁ (.head _) (.tail _ (.head _)) (fun z => absurd (Value.type.inj (hcI.symm.trans (congrArg Obj.cls z))) (by decide))
    have hIp : I ≠ ap := News.twoPlaces N₁ (.head _) (.tail _ (.tail _ (.head _))) (fun z => absurd (Value.type.inj (hcI.symm.trans (congrArg Obj.cls z))) (by decide))
    have hoa : ∀ p ∈ (ap, listOf pv.toArray kp) :: rest, p.1 ≠ ar := by
      intro p hp
      rcases List.mem_cons.mp hp with e | hp
      · rw [e]; exact hne
      · exact ho1 p hp
    have hivs : i < vs.length := by omega
    obtain ⟨a, ⟨lo, hi2⟩, tp, up, hva, hpi, hpt0⟩ := hP0.get (List.getElem?_eq_getElem hivs)
    dsimp only at hpt0
    have hpt := hpt0.keeps hst0
    have hgp := hg (lo, hi2) (List.mem_of_getElem? hpi)
    have hit : vs.toArray[i]? = some (.ref a) := by
      rw [List.getElem?_toArray, ← hva, List.getElem?_eq_getElem hivs]
    have hsi : seqIndex? ((0 : Int) + (i : Int)) vs.toArray.size = some i := seq_idx (by rw [List.size_toArray]; omega)
    have hlen := showPair_len hgp.1.1 hgp.1.2 hgp.2.1 hgp.2.2
    (repeat' ((fail_if_success (with_reducible first | refine atWhile ?_ | refine atRaise ?_ | refine atFor ?_ | refine atAssignComp ?_ | refine atComp ?_ | refine atTry ?_ | refine atAppend ?_ | refine atList ?_ | refine atTwo ?_)); first | (k_unfold; (try dsimp only)) | (k_end; wrow_close) | walk1 | (dsimp only; walk1) | (leave1; try dsimp only)))
    refine item_tuple (hT.keeps (Fr.keep (by assumption))) (by omega) (by omega) hsi hit ?_
    (repeat' ((fail_if_success (with_reducible first | refine atWhile ?_ | refine atRaise ?_ | refine atFor ?_ | refine atAssignComp ?_ | refine atComp ?_ | refine atTry ?_ | refine atAppend ?_ | refine atList ?_ | refine atTwo ?_)); first | (k_unfold; (try dsimp only)) | (k_end; wrow_close) | walk1 | (dsimp only; walk1) | (leave1; try dsimp only)))
    refine' Fn.use (show_pair_ok a lo hi2 tp up) ?k1 ?k2 ?k3 ?k4 ?k5 ?k6 ?k7 ⟨hpt.keeps (Fr.keep (by assumption)), hgp⟩ ?_ ?k9
    ((case k1 | k2 | k3 | k4 | k5 => k_asm); (case k6 | k7 => omega); (case k9 => exact rfl))
    rintro v' h' tk' st' F' N' ⟨t', rfl, _⟩
    have hplen : plen (lo, hi2) = ((S (showPair (lo, hi2))).length : Int) := rfl
    have hrs : rv.toArray.size = rv.length := List.size_toArray
    have hrl := hRo.length
    (repeat' ((fail_if_success (with_reducible first | refine atWhile ?_ | refine atRaise ?_ | refine atFor ?_ | refine atAssignComp ?_ | refine atComp ?_ | refine atTry ?_ | refine atAppend ?_ | refine atList ?_ | refine atTwo ?_)); first | (k_unfold; (try dsimp only)) | (k_end; wrow_close) | walk1 | (dsimp only; walk1) | (leave1; try dsimp only)))
    · refine fault_Raise rfl ?_
      (repeat' ((fail_if_success (with_reducible first | refine atWhile ?_ | refine atRaise ?_ | refine atFor ?_ | refine atAssignComp ?_ | refine atComp ?_ | refine atTry ?_ | refine atAppend ?_ | refine atList ?_ | refine atTwo ?_)); first | (k_unfold; (try dsimp only)) | (k_end; wrow_close) | walk1 | (dsimp only; walk1) | (leave1; try dsimp only)))
      refine fault_call (X.keeps (Fr.keep (by assumption))) (T.keeps (Fr.keep (by assumption))) (by show dp + 1 + 3 < recursionLimit; omega) (by show un + 3 + 30 < cLine; omega) ?_
      intro h' e tk hF
      have hF2 := hF
      obtain ⟨t, dx, es, n, u, hg, hdx, _⟩ := hF2.at_
      exact ⟨e, t, dx, rfl, (X.keeps (Fr.keep (by assumption))).keeps hF.keeps, hg, up_raised B (by assumption) hF ⟨i, by omega, ⟨(lo, hi2), hpi, by omega⟩, hall⟩⟩
    · rename_i D9 h9 F9 N9 k9
      have hDp := News.twoPlaces N9 (.head _) (.tail _ (.tail _ (.tail _ (.head _)))) (fun z => absurd (Value.type.inj (congrArg Obj.cls z)) (by decide))
      refine append_K (by assumption) (by assumption) (Upd.tail hDp (Upd.tail hIp (Upd.tail (Ne.symm hne) (Upd.head ho2)))) ?_ (by rw [sizeLine_eq, List.size_toArray]; omega)
      intro h' F' N'
      (repeat' ((fail_if_success (with_reducible first | refine atWhile ?_ | refine atRaise ?_ | refine atFor ?_ | refine atAssignComp ?_ | refine atComp ?_ | refine atTry ?_ | refine atAppend ?_ | refine atList ?_ | refine atTwo ?_)); first | (k_unfold; (try dsimp only)) | (k_end; wrow_close) | walk1 | (dsimp only; walk1) | (leave1; try dsimp only)))
      refine item_tuple (hT.keeps (Fr.keep (by assumption))) (by omega) (by omega) hsi hit ?_
      (repeat' ((fail_if_success (with_reducible first | refine atWhile ?_ | refine atRaise ?_ | refine atFor ?_ | refine atAssignComp ?_ | refine atComp ?_ | refine atTry ?_ | refine atAppend ?_ | refine atList ?_ | refine atTwo ?_)); first | (k_unfold; (try dsimp only)) | (k_end; wrow_close) | walk1 | (dsimp only; walk1) | (leave1; try dsimp only)))
      refine append_K (by assumption) (by assumption) (Upd.head (fun p hp => Nat.ne_of_lt (kst_ltOf (l := (D9, _) :: (I, _) :: (ar, _) :: (ap, _) :: rest) (by assumption) p hp))) ?_ (by rw [sizeLine_eq]; decide)
      intro h' F' N'
      (repeat' ((fail_if_success (with_reducible first | refine atWhile ?_ | refine atRaise ?_ | refine atFor ?_ | refine atAssignComp ?_ | refine atComp ?_ | refine atTry ?_ | refine atAppend ?_ | refine atList ?_ | refine atTwo ?_)); first | (k_unfold; (try dsimp only)) | (k_end; wrow_close) | walk1 | (dsimp only; walk1) | (leave1; try dsimp only)))
      refine ForStep.mk (by assumption) (news_sub (by assumption) ?_) (splitJ_cut (D := D9) (I := I) (k' := 0 + 1) (kr := kp + 1) (k'' := 0) (kp := kr) (by assumption) hDp hne ho2 hc rfl rfl rfl rfl rfl hst hPi hRo hall hl1 hl2 hpi hpt0 (by omega) (by omega) (by omega) (by omega) rfl rfl)
      intro p hp
      simp only [List.mem_cons] at hp ⊢
      rcases hp with hp | hp | hp | hp | hp | hp <;> simp [hp]
    · refine item_tuple (hT.keeps (Fr.keep (by assumption))) (by omega) (by omega) hsi hit ?_
      (repeat' ((fail_if_success (with_reducible first | refine atWhile ?_ | refine atRaise ?_ | refine atFor ?_ | refine atAssignComp ?_ | refine atComp ?_ | refine atTry ?_ | refine atAppend ?_ | refine atList ?_ | refine atTwo ?_)); first | (k_unfold; (try dsimp only)) | (k_end; wrow_close) | walk1 | (dsimp only; walk1) | (leave1; try dsimp only)))
      refine append_K (by assumption) (by assumption) (Upd.tail hIr (Upd.head hoa)) ?_ (by rw [sizeLine_eq, List.size_toArray]; omega)
      intro h' F' N'
      (repeat' ((fail_if_success (with_reducible first | refine atWhile ?_ | refine atRaise ?_ | refine atFor ?_ | refine atAssignComp ?_ | refine atComp ?_ | refine atTry ?_ | refine atAppend ?_ | refine atList ?_ | refine atTwo ?_)); first | (k_unfold; (try dsimp only)) | (k_end; wrow_close) | walk1 | (dsimp only; walk1) | (leave1; try dsimp only)))
      refine ForStep.mk (by assumption) (by assumption) ?_
      exact splitJ_push (used' := used + 1 + ((S (showPair (lo, hi2))).length : Int)) hne ho1 ho2 hc rfl rfl rfl rfl rfl hst hPi hRo hall hl1 hl2 hpi hpt0 (by omega) (.inl ⟨by omega, by omega, rfl⟩) rfl
    · refine item_tuple (hT.keeps (Fr.keep (by assumption))) (by omega) (by omega) hsi hit ?_
      (repeat' ((fail_if_success (with_reducible first | refine atWhile ?_ | refine atRaise ?_ | refine atFor ?_ | refine atAssignComp ?_ | refine atComp ?_ | refine atTry ?_ | refine atAppend ?_ | refine atList ?_ | refine atTwo ?_)); first | (k_unfold; (try dsimp only)) | (k_end; wrow_close) | walk1 | (dsimp only; walk1) | (leave1; try dsimp only)))
      refine append_K (by assumption) (by assumption) (Upd.tail hIr (Upd.head hoa)) ?_ (by rw [sizeLine_eq, List.size_toArray]; omega)
      intro h' F' N'
      (repeat' ((fail_if_success (with_reducible first | refine atWhile ?_ | refine atRaise ?_ | refine atFor ?_ | refine atAssignComp ?_ | refine atComp ?_ | refine atTry ?_ | refine atAppend ?_ | refine atList ?_ | refine atTwo ?_)); first | (k_unfold; (try dsimp only)) | (k_end; wrow_close) | walk1 | (dsimp only; walk1) | (leave1; try dsimp only)))
      refine ForStep.mk (by assumption) (by assumption) ?_
      exact splitJ_push (used' := used + ((S (showPair (lo, hi2))).length : Int)) hne ho1 ho2 hc rfl rfl rfl rfl rfl hst hPi hRo hall hl1 hl2 hpi hpt0 (by omega) (.inr ⟨by omega, rfl⟩) rfl
  · rintro h' tk m' news' F₁ N₁ ⟨ar, ap, rv, pv, kr, kp, rest, used, tu, pcs, row, rfl, hne, ho1, ho2, hc, hm1, hm2, hm3, hm4, hm5, hst, hPi, hRo, hall, hl1, hl2⟩
    have F₂ := fr5 F₁ (a := Str.ofString "some") (b := Str.ofString "width") (c := Str.ofString "pieces") (d := Str.ofString "row") (e := Str.ofString "used") hm1 hm2 hm3 hm4 hm5
    clear F₁
    have hrs : rv.toArray.size = rv.length := List.size_toArray
    have hrl := hRo.length
    rw [List.take_length] at hst
    have hfin : splitOf width ps = if 0 < row.length then pcs ++ [row] else pcs := by unfold splitOf; rw [hst]
    (repeat' ((fail_if_success (with_reducible first | refine atWhile ?_ | refine atRaise ?_ | refine atFor ?_ | refine atAssignComp ?_ | refine atComp ?_ | refine atTry ?_ | refine atAppend ?_ | refine atList ?_ | refine atTwo ?_)); first | (k_unfold; (try dsimp only)) | (k_end; wrow_close) | walk1 | (dsimp only; walk1) | (leave1; try dsimp only)))
    · rename_i D9 h9 F9 N9 k9
      have hDr := News.twoPlaces N9 (.head _) (.tail _ (.head _)) (fun z => absurd (Value.type.inj (congrArg Obj.cls z)) (by decide))
      have hDp := News.twoPlaces N9 (.head _) (.tail _ (.tail _ (.head _))) (fun z => absurd (Value.type.inj (congrArg Obj.cls z)) (by decide))
      refine append_K (by assumption) (by assumption) (Upd.tail hDp (Upd.tail (Ne.symm hne) (Upd.head ho2))) ?_ (by rw [sizeLine_eq, List.size_toArray]; omega)
      intro h' F' N'
      (repeat' ((fail_if_success (with_reducible first | refine atWhile ?_ | refine atRaise ?_ | refine atFor ?_ | refine atAssignComp ?_ | refine atComp ?_ | refine atTry ?_ | refine atAppend ?_ | refine atList ?_ | refine atTwo ?_)); first | (k_unfold; (try dsimp only)) | (k_end; wrow_close) | walk1 | (dsimp only; walk1) | (leave1; try dsimp only)))
      refine k _ _ _ (Fr.keep (by assumption)) ⟨fun j p hjp => hall j p (List.getElem?_eq_some_iff.mp hjp).1 hjp, ap, pv ++ [Value.ref D9], kp + 1, (D9, { cls := .type "tuple", data := .seq rv.toArray }) :: rest, rfl, FreshIn.of_news (news_sub N' ?_), ?_⟩
      · intro p hp
        rcases List.mem_cons.mp hp with e | hp
        · rw [e, ← List.push_toArray]; exact .tail _ (.tail _ (.head _))
        · rcases List.mem_cons.mp hp with e | hp
          · rw [e]; exact .head _
          · exact .tail _ (.tail _ (.tail _ hp))
      · rw [hfin, if_pos (by omega)]
        exact .snoc (hPi.mono fun p hp => .tail _ hp) (.head _) hRo
    · refine k _ _ _ (Fr.keep (by assumption)) ⟨fun j p hjp => hall j p (List.getElem?_eq_some_iff.mp hjp).1 hjp, ap, pv, kp, rest, rfl, FreshIn.of_news (news_sub N₁ fun p hp => .tail _ hp), ?_⟩
      rw [hfin, if_neg (by omega)]
      exact hPi
end

section
open PySem PySem.W PySem.Calls PyProof.Rows
set_option maxRecDepth 100000
set_option maxHeartbeats 8000000

theorem join_show : ∀ (ps : List (Int × Int)), Str.join (Str.ofString ",") (ps.map fun p => S (showPair p)) = S (showSet ps)
  | [] => rfl
  | [p] => rfl
  | p :: q :: r => by
    have ih := join_show (q :: r)
    show S (showPair p) ++ Str.ofString "," ++ Str.join (Str.ofString ",") ((q :: r).map fun p => S (showPair p)) = _
    rw [ih, S_comma, S_app, S_app]
    simp [showSet]
theorem txt_join_show (ps : List (Int × Int)) : Txt.join (Str.ofString ",") (ps.map fun p => S (showPair p)) = S (showSet ps) := by
  show Builtin.Str.glued _ _ = _
  rw [StrLaws.glued_eq_join, join_show]
theorem join_ok {ps : List (Int × Int)} (hg : ∀ p ∈ ps, GoodP p) (hn : ps.length ≤ 1001) : JoinOk (Str.ofString ",") (ps.map fun p => S (showPair p)) = true := by
  unfold JoinOk
  rw [Bool.not_eq_true']
  have e : (Str.ofString ",").length = 1 := by decide +kernel
  refine StrLaws.joinFits (B := 21) ?_ ?_
  · intro y hy
    obtain ⟨p, hp, rfl⟩ := List.mem_map.mp hy
    have g := hg p hp
    exact showPair_len g.1.1 g.1.2 g.2.1 g.2.2
  · rw [List.length_map, e]; omega
/-- the texts of the pairs so far -/
noncomputable def ShownG (ps : List (Int × Int)) (i : Nat) (ys : List Value) : Prop := ∃ l : List (Str × Tok), ys = strValues l ∧ l.map (·.1) = (ps.take i).map fun p => S (showPair p)
theorem shownG_zero (ps : List (Int × Int)) : ShownG ps 0 [] := ⟨[], rfl, rfl⟩
theorem shownG_snoc {ps : List (Int × Int)} {i : Nat} {ys : List Value} {p : Int × Int} {t : Tok} (h : ShownG ps i ys) (hp : ps[i]? = some p) : ShownG ps (i + 1) (ys ++ [.str (S (showPair p)) t]) := by
  obtain ⟨l, rfl, hl⟩ := h
  refine ⟨l ++ [(S (showPair p), t)], by simp [strValues], ?_⟩
  rw [List.map_append, hl, List.take_add_one, hp]
  simp

theorem show_set_ok {prog : Program} {w : World} (ps : List (Int × Int)) (v : Value) : Fn prog w 94 [v] 5 (fun h => SetAt h v ps ∧ (∀ p ∈ ps, GoodP p) ∧ ps.length ≤ 1001) (fun v _ => ∃ t', v = .str (S (showSet ps)) t') := by
  intro dp un gd outer base mean mg mb s R B X T hdp hu ⟨⟨b, vs, hv, hT, hP⟩, hg, hn⟩ k
  subst hv
  refine' enter0 (binds := [(Str.ofString "some", .ref b)]) ?k1 ?k2 ?k3 ?k4 ?k5 ?k6 ?k7 ?_ ?c1 ?c2 ?c3 ?c
  k_dflt (((case k1 | k2 => k_asm); (case k3 | k4 => k_is); (case k5 => omega); (case k6 => exact BindsTo.of_eq rfl); (case k7 => exact locs rfl); (case c => decide); (case c1 | c2 | c3 => exact rfl)))
  intro L h₁ F N
  have hvl := hP.length
  (repeat' ((fail_if_success (with_reducible first | refine atWhile ?_ | refine atRaise ?_ | refine atFor ?_ | refine atAssignComp ?_ | refine atComp ?_ | refine atTry ?_)); first | (k_unfold; (try dsimp only)) | (k_end; wrow_close) | walk1 | (dsimp only; walk1) | (leave1; try dsimp only)))
  refine comp_tup (ShownG ps) F N (fun h k _ => hT.keeps k) (by rw [List.size_toArray, sizeLine_eq]; omega) rfl (shownG_zero ps) (fun Q' hq => ?_) ?_ ?_
  · (repeat' ((fail_if_success (with_reducible first | refine atWhile ?_ | refine atRaise ?_ | refine atFor ?_ | refine atAssignComp ?_ | refine atComp ?_ | refine atTry ?_)); first | (k_unfold; (try dsimp only)) | (k_end; wrow_close) | walk1 | (dsimp only; walk1) | (leave1; try dsimp only)))
    exact hq
  · rintro i ys v I oI C oC D m₂ h tk E' ⟨hi', hv⟩ hG hC hx F₁ N₁ ⟨ne1, ne2, ne3⟩
    rw [List.getElem?_toArray] at hv
    obtain ⟨a, p, t, u, rfl, hp, hpt⟩ := hP.get hv
    have hgp := hg p (List.mem_of_getElem? hp)
    (repeat' ((fail_if_success (with_reducible first | refine atWhile ?_ | refine atRaise ?_ | refine atFor ?_ | refine atAssignComp ?_ | refine atComp ?_ | refine atTry ?_)); first | (k_unfold; (try dsimp only)) | (k_end; wrow_close) | walk1 | (dsimp only; walk1) | (leave1; try dsimp only)))
    refine' Fn.use (show_pair_ok a p.1 p.2 t u) ?k1 ?k2 ?k3 ?k4 ?k5 ?k6 ?k7 ⟨hpt.keeps (Fr.keep (by assumption)), hgp⟩ ?_ ?k9
    ((case k1 | k2 | k3 | k4 | k5 => k_asm); (case k6 | k7 => omega); (case k9 => exact rfl))
    rintro v' h' tk' st' F' N' ⟨t', rfl, _⟩
    exact LcGot.mk F' N' (shownG_snoc hG hp)
  · intro D h tk ys hG F₁ N₁ _
    obtain ⟨l, rfl, hl⟩ := hG
    rw [List.size_toArray, hvl, List.take_length] at hl
    have hIL : h.IsList D (strValues l).toArray := ⟨LCg.lst (strValues l), (N₁ _ (List.Mem.head _)).1, rfl, _, rfl⟩
    (repeat' ((fail_if_success (with_reducible first | refine atWhile ?_ | refine atRaise ?_ | refine atFor ?_ | refine atAssignComp ?_ | refine atComp ?_ | refine atTry ?_)); first | (k_unfold; (try dsimp only)) | (k_end; wrow_close) | walk1 | (dsimp only; walk1) | (leave1; try dsimp only)))
    refine SC.join hIL hl (join_ok hg hn) ?_
    intro t' k'
    rw [txt_join_show]
    exact k _ _ _ (Fr.keep (by assumption)) ⟨_, rfl⟩
end

section
open PySem PySem.W PySem.Calls PyProof.Rows
theorem showSet_snoc : ∀ (row : List (Int × Int)) (p : Int × Int), row ≠ [] → showSet (row ++ [p]) = showSet row ++ (44 :: showPair p)
  | [], _, h => absurd rfl h
  | [a], p, _ => rfl
  | a :: b :: r, p, _ => by
    have ih := showSet_snoc (b :: r) p (by simp)
    show showPair a ++ (44 :: showSet ((b :: r) ++ [p])) = _
    rw [ih]
    simp [showSet]
noncomputable def slen (row : List (Int × Int)) : Int := ((S (showSet row)).length : Int)
theorem slen_one (p : Int × Int) : slen [p] = plen p := rfl
theorem slen_snoc {row : List (Int × Int)} (h : row ≠ []) (p : Int × Int) : slen (row ++ [p]) = slen row + 1 + plen p := by
  unfold slen plen
  rw [S_len, S_len, S_len, showSet_snoc row p h]
  simp
  omega
/-- what the pieces are like -/
noncomputable def Greedy (width : Int) : List (List (Int × Int)) → Prop
  | [] => True
  | [a] => a ≠ [] ∧ slen a ≤ width
  | a :: b :: r => (a ≠ [] ∧ slen a ≤ width ∧ ∀ p, b.head? = some p → width < slen a + 1 + plen p) ∧ Greedy width (b :: r)
theorem greedy_snoc {width : Int} : ∀ {l : List (List (Int × Int))} {a b : List (Int × Int)}, Greedy width (l ++ [a]) → (∀ p, b.head? = some p → width < slen a + 1 + plen p) → b ≠ [] → slen b ≤ width → Greedy width (l ++ [a] ++ [b])
  | [], a, b, g, h, h1, h2 => ⟨⟨g.1, g.2, h⟩, h1, h2⟩
  | [c], a, b, g, h, h1, h2 => ⟨g.1, greedy_snoc (l := []) g.2 h h1 h2⟩
  | c :: d :: r, a, b, g, h, h1, h2 => ⟨g.1, greedy_snoc (l := d :: r) g.2 h h1 h2⟩
theorem greedy_last {width : Int} : ∀ {l : List (List (Int × Int))} {a b : List (Int × Int)}, Greedy width (l ++ [a]) → a.head? = b.head? → b ≠ [] → slen b ≤ width → Greedy width (l ++ [b])
  | [], a, b, g, h, h1, h2 => ⟨h1, h2⟩
  | [c], a, b, g, h, h1, h2 => ⟨⟨g.1.1, g.1.2.1, fun p hp => g.1.2.2 p (by rw [h]; exact hp)⟩, h1, h2⟩
  | c :: d :: r, a, b, g, h, h1, h2 => ⟨g.1, greedy_last (l := d :: r) g.2 h h1 h2⟩
structure SplitOk (width : Int) (ps : List (Int × Int)) (st : List (List (Int × Int)) × List (Int × Int) × Int) : Prop where
  flat : st.1.flatten ++ st.2.1 = ps
  none_ : st.2.1 = [] → st.1 = [] ∧ st.2.2 = 0
  used : st.2.1 ≠ [] → st.2.2 = slen st.2.1 ∧ Greedy width (st.1 ++ [st.2.1])
theorem splitOk_step {width : Int} {ps : List (Int × Int)} {st : List (List (Int × Int)) × List (Int × Int) × Int} {p : Int × Int} (h : SplitOk width ps st) (hp : plen p ≤ width) : SplitOk width (ps ++ [p]) (splitStep width st p) := by
  obtain ⟨pcs, row, used⟩ := st
  obtain ⟨hf, hn, hu⟩ := h
  dsimp only at hf hn hu
  unfold splitStep
  dsimp only
  by_cases hr : row = []
  · subst hr
    obtain ⟨rfl, rfl⟩ := hn rfl
    rw [if_neg (by simp), if_neg (by simp)]
    refine ⟨by simpa using hf, fun e => by simp at e, fun _ => ⟨?_, ?_⟩⟩
    · dsimp only; rw [slen_one]; omega
    · exact ⟨by simp, by rw [slen_one]; exact hp⟩
  · have hl : 0 < row.length := List.length_pos_iff.mpr hr
    obtain ⟨hu1, hg⟩ := hu hr
    by_cases hw : width < used + 1 + plen p
    · rw [if_pos ⟨hl, hw⟩]
      refine ⟨?_, fun e => by simp at e, fun _ => ⟨?_, ?_⟩⟩
      · dsimp only; rw [← hf]; simp
      · dsimp only; rw [slen_one]; omega
      · dsimp only
        refine greedy_snoc hg ?_ (by simp) (by rw [slen_one]; exact hp)
        intro q hq
        simp at hq
        subst hq
        omega
    · rw [if_neg (fun z => hw z.2), if_pos hl]
      refine ⟨?_, fun e => by simp at e, fun _ => ⟨?_, ?_⟩⟩
      · dsimp only; rw [← hf]; simp
      · dsimp only; rw [slen_snoc hr]; omega
      · dsimp only
        refine greedy_last hg ?_ (by simp) (by rw [slen_snoc hr]; omega)
        cases row with
        | nil => exact absurd rfl hr
        | cons a r => rfl
theorem splitOk_all {width : Int} {ps : List (Int × Int)} (h : ∀ p ∈ ps, plen p ≤ width) : SplitOk width ps (splitSt width ps) := by
  have go : ∀ (rest done : List (Int × Int)) st, SplitOk width done st → (∀ p ∈ rest, plen p ≤ width) → SplitOk width (done ++ rest) (rest.foldl (splitStep width) st) := by
    intro rest
    induction rest with
    | nil => intro done st h _; simpa using h
    | cons p r ih =>
      intro done st h hr
      have := ih (done ++ [p]) _ (splitOk_step h (hr p (.head _))) fun q hq => hr q (.tail _ hq)
      simpa using this
  have := go ps [] ([], [], 0) ⟨rfl, fun _ => ⟨rfl, rfl⟩, fun h => absurd rfl h⟩ h
  simpa [splitSt] using this
theorem splitOf_flat {width : Int} {ps : List (Int × Int)} (h : ∀ p ∈ ps, plen p ≤ width) : (splitOf width ps).flatten = ps := by
  obtain ⟨hf, hn, hu⟩ := splitOk_all h
  unfold splitOf
  split
  · rw [List.flatten_append]; simpa using hf
  · rename_i hl
    have e : (splitSt width ps).2.1 = [] := List.eq_nil_of_length_eq_zero (by omega)
    rw [e] at hf
    simpa using hf
theorem splitOf_greedy {width : Int} {ps : List (Int × Int)} (h : ∀ p ∈ ps, plen p ≤ width) : Greedy width (splitOf width ps) := by
  obtain ⟨hf, hn, hu⟩ := splitOk_all h
  unfold splitOf
  split
  · rename_i hl
    exact (hu (List.length_pos_iff.mp hl)).2
  · rename_i hl
    have e : (splitSt width ps).2.1 = [] := List.eq_nil_of_length_eq_zero (by omega)
    rw [(hn e).1]; trivial
theorem greedy_at {width : Int} : ∀ {l : List (List (Int × Int))} {i : Nat} {a : List (Int × Int)}, Greedy width l → l[i]? = some a → a ≠ [] ∧ slen a ≤ width ∧ ∀ b p, l[i + 1]? = some b → b.head? = some p → width < slen a + 1 + plen p
  | [], i, a, _, h => by simp at h
  | [c], 0, a, g, h => by
    simp at h; subst h
    exact ⟨g.1, g.2, fun b p hb => by simp at hb⟩
  | [c], i + 1, a, g, h => by simp at h
  | c :: d :: r, 0, a, g, h => by
    simp at h; subst h
    refine ⟨g.1.1, g.1.2.1, fun b p hb hp => ?_⟩
    simp at hb; subst hb
    exact g.1.2.2 p hp
  | c :: d :: r, i + 1, a, g, h => by
    simp at h
    have := greedy_at (l := d :: r) (i := i) g.2 h
    refine ⟨this.1, this.2.1, fun b p hb hp => this.2.2 b p (by simpa using hb) hp⟩
end

section
open PySem PySem.W PySem.Calls PyProof.Rows
set_option maxRecDepth 100000
set_option maxHeartbeats 8000000
theorem exc_ga (w : World) : findIn (hd.heap_39 w.params) (.ref 59) "__getattribute__" = some (some (.builtin "BaseException.__getattribute__")) := by k_is
theorem exc_no_ga (w : World) : findIn (hd.heap_39 w.params) (.ref 59) "__getattr__" = some none := by k_is
theorem exc_hasDict (w : World) : hasDictIn (hd.heap_39 w.params) 59 = true := by
  unfold hasDictIn; rw [exc_cls]; rfl
theorem find_at (w : World) {od : Obj} {v : Value} (hl : lookIn "at" od = some (some v)) : findObj (hd.heap_39 w.params) 59 (some od) "at" = some (.value v) :=
  findObj_own (exc_hasDict w) (exc_no_at w) rfl hl
section
variable {prog : Program} {w : World} {A : Around} {E : Value → Shared → Prop} {h : Heap} {g : Array GenState} {d : Drawn} {t : Nat} {os : OsState}
theorem exc_tl {M : Model} {name : Str} {r : Option Value} {Q : Option Value → Shared → Prop} (X : (hd.heap_39 w.params).In h) (e : findIn (hd.heap_39 w.params) (.ref 59) name = some r) (hq : Q r ⟨h, g, d, t, os⟩) : wpAny M A (typeLookup (.ref 59) name) Q E ⟨h, g, d, t, os⟩ := (looks_findIn X e).at hq
theorem exc_check_ga {M : Model} {a : Addr} {o : Obj} {nameV : Value} {Q : Unit → Shared → Prop} (hC : h.get? 59 = some CF) (hx : h.get? a = some o) (hc : o.cls = .ref 59) (hq : Q () ⟨h, g, d, t, os⟩) : wpAny M A (checkBuiltinCall "BaseException.__getattribute__" ⟨[.ref a, nameV], []⟩) Q E ⟨h, g, d, t, os⟩ := by
  have hk : builtinKind "BaseException.__getattribute__" = some .slot := by decide +kernel
  have hsplit : splitId "BaseException.__getattribute__" = some ("BaseException", "__getattribute__") := by decide +kernel
  have hcB : (Value.ref 59 :: BM).contains (.type "BaseException") = true := by decide +kernel
  have ha := F.args_bexc_ga (.ref a) nameV
  simp only [checkBuiltinCall, hk, hsplit]
  refine wpAny_bind ?_
  · unfold isInstance
    repeat (first | (with_reducible refine wpAny_loadPart_at hx ?_; rw [hc]) | (with_reducible refine wpAny_isSubtype_exc hC ?_; rw [hcB]) | wp_step)
    exact hq
theorem at_entry {a : Addr} {o od : Obj} {p : Int} {u tk : Tok} {Q : PySem.Fin → Shared → Prop} (X : (hd.heap_39 w.params).In h) (I : InstAt h a o 59 (some od)) (hl : lookIn "at" od = some (some (.int p u))) (hq : Q (.done (.ret (.int p u))) ⟨h, g, d, t, os⟩) :
    wpAny (model prog w) A (Builtin.«object.__getattribute__» ⟨[.ref a, .str "at" tk], []⟩) Q E ⟨h, g, d, t, os⟩ := by
  have L0 := I.type (M := model prog w)
  have L1 := looks_find (M := model prog w) X I (find_at w hl)
  refine wpAny_bind (wpAny_pure (wpAny_bind (wpAny_pure (wpAny_bind (L0.at (wpAny_bind (L1.at ?_)))))))
  exact wpAny_pure hq
theorem at_call {a : Addr} {o od : Obj} {p : Int} {u tk : Tok} {R : Result → Shared → Prop} (X : (hd.heap_39 w.params).In h) (I : InstAt h a o 59 (some od)) (hl : lookIn "at" od = some (some (.int p u))) (hq : R (.ok (.ret (.int p u))) ⟨h, g, d, t, os⟩) :
    codeAny (model prog w) A (.call (.builtin "BaseException.__getattribute__") ⟨[.ref a, .str "at" tk], []⟩) R ⟨h, g, d, t, os⟩ :=
  codeAny_call_builtin F.attrBase_Exception.ga.plain F.entry_bexc_ga (exc_check_ga (X _ _ (cf_at w)) I.at_ I.cls (at_entry X I hl hq))
theorem at_by {a : Addr} {o od : Obj} {p : Int} {u tk : Tok} {fill expr : Bool} {Q : Value → Shared → Prop} (X : (hd.heap_39 w.params).In h) (I : InstAt h a o 59 (some od)) (hl : lookIn "at" od = some (some (.int p u))) (hq : Q (.int p u) ⟨h, g, d, t, os⟩) :
    wpAny (model prog w) A (getAttrBy (.ref a) (.str "at" tk) fill expr) Q E ⟨h, g, d, t, os⟩ := by
  have f3 := F.attrBase_Exception.ga.bind (.ref a)
  have hx := I.at_
  have hc := I.cls
  have hx0 : (expr && onTheHeap (Value.builtin "BaseException.__getattribute__")) = false := by cases expr <;> rfl
  have hx2 : (Value.builtin "BaseException.__getattribute__" == Value.builtin "object.__getattribute__") = false := by decide +kernel
  have hx1 : (onTheHeap (Value.ref 59) && Value.builtin "BaseException.__getattribute__" == Value.builtin "object.__getattribute__") = false := by rw [hx2]; rfl
  repeat (any_goals (first | assumption | (with_reducible refine wpAny_loadPart_at hx ?_; rw [hc]) | with_reducible refine exc_tl X (exc_ga w) ?_ | with_reducible refine exc_tl X (exc_no_ga w) ?_ | wp_step))
  refine at_call X I hl ?_
  repeat (any_goals (first | assumption | wp_step))
theorem exc_at {a : Addr} {o od : Obj} {p : Int} {u : Tok} {expr : Bool} {Q : Value → Shared → Prop} (X : (hd.heap_39 w.params).In h) (I : InstAt h a o 59 (some od)) (hl : lookIn "at" od = some (some (.int p u))) (hq : Q (.int p u) ⟨h, g, d, t + 1, os⟩) :
    wpAny (model prog w) A (getAttr (.ref a) "at" expr) Q E ⟨h, g, d, t, os⟩ := by
  unfold getAttr
  repeat (any_goals (first | assumption | with_reducible apply at_by X I hl | wp_step))
end
end

section
open PySem PySem.W PySem.Calls PyProof.Rows
set_option maxRecDepth 100000
set_option maxHeartbeats 8000000
theorem ns_fault (w : World) : nsIn (hd.heap_39 w.params) mainGlobals (Str.ofString "SetFault") = some (some (.ref 59)) := by k_is
section
variable {prog : Program} {w : World} {A : Around} {E : Value → Shared → Prop} {s : Shared} {env : Env}
theorem fault_handle {e : Addr} {t : Expr} {n : Str} {b₀ : Stmt} {suite : List Stmt} {pos : Pos} {rest : List ExceptHandler} {Q : Flow → Shared → Prop}
    (h : wpAny (model prog w) (A.mark (some (.ref e))) (eval t env) (fun c s₁ => c = .ref 59 ∧ s₁.heap.get? 59 = some CF ∧ (∃ oe, s₁.heap.get? e = some oe ∧ oe.cls = .ref 59) ∧
      wpAny (model prog w) (A.mark (some (.ref e))) (setFlight (.ref e) none) (fun _ s₂ =>
          wpAny (model prog w) (A.mark (some (.ref e))) (storeName env n (.ref e)) (fun _ s₃ =>
            wpAny (model prog w) (A.mark (some (.ref e))) (execs (b₀ :: suite) env)
              (fun f s₄ => wpAny (model prog w) A (do bindName env n .none; unbindBehindTheSuite env n pos) (fun _ s₅ => Q f s₅) (fun _ _ => False) s₄)
              (fun _ _ => False) s₃) (fun _ _ => False) s₂) (fun _ _ => False) s₁) (fun _ _ => False) s) :
    wpAny (model prog w) A (handleBy (.ref e) env (.ExceptHandler (some t) (some n) (b₀ :: suite) pos :: rest)) Q E s := by
  refine wpAny_handleBy_cons (codeAny_handlers_test (wpAny_mono h (fun c s₁ h₁ => ?_) fun _ _ y => y.elim)) (by intro q; cases q)
  obtain ⟨rfl, hC, ⟨oe, he, hcls⟩, hk⟩ := h₁
  obtain ⟨hh, g, d, tk, os⟩ := s₁
  refine wpAny_excMatches_sub_self hC he hcls (by decide +kernel) (codeAny_handlers_suite_as ?_)
  refine wpAny_mono hk (fun _ s₂ h₂ => wpAny_mono h₂ (fun _ s₃ h₃ => wpAny_mono h₃ (fun f s₄ h₄ => ?_) fun _ _ y => y.elim) fun _ _ y => y.elim) fun _ _ y => y.elim
  exact wpAny_mono h₄ (fun _ _ z => z) fun _ _ y => y.elim
end

section
variable {prog : Program} {w : World} {dp un : Nat} {gd : Option (List Code)} {outer : List Env} {base : Heap} {mean : ExcName → Option Value} {mg mb : Str → Option Value} {s : Shared} {h₀ : Heap} {L : Addr} {m : Str → Option Value} {news : List (Addr × Obj)} {env : Env}
theorem env_mem {b : Addr} (hf : env.frame = some L) (hm : b ∈ (env :: outer).filterMap (·.frame)) : b = L ∨ b ∈ outer.filterMap (·.frame) := by
  rw [List.filterMap_cons, hf] at hm
  exact List.mem_cons.mp hm
/-- the ground behind a catch -/
theorem catch_ground {e : Addr} {p : Int} {st : Option (Option Addr)} {h' G : Heap} (B : Below (Ar dp un gd outer) base outer h₀) (F : Fr h₀ L G m) (N : News h₀ L G news) (x : Exc base G (env :: outer) e p st h') (hf : env.frame = some L) :
    ∃ g' dx vs od sl u, base.StaysIn g' ∧ Held outer h₀ g' ∧ g'.FunFrames base outer ∧ Fr g' L h' m ∧ News g' L h' ((e, ⟨.ref 59, some dx, .fields vs, sl⟩) :: (dx, od) :: news) ∧ lookIn "at" od = some (some (.int p u)) := by
  obtain ⟨hk, hn, hH, dx, vs, od, es, n, u, sl, he, hde, hdx, hod, hg, hbd, hsz, hm⟩ := x
  have inG : ∀ b o, h₀.get? b = some o → b ∉ outer.filterMap (·.frame) → h'.get? b = some o := fun b o q nm => (hH b o (F.keep b o q)).2 fun hm => by
    rcases env_mem hf hm with z | z
    · rw [z, kts_self F] at q; cases q
    · exact nm z
  obtain ⟨T, S⟩ := kts_turn_at (h := h') (fs := outer.filterMap (·.frame)) (g := h₀)
    (fun b hb => by
      obtain ⟨_, o, ho, _⟩ := B.frames.mem hb
      exact ⟨o, ho⟩)
    inG
    (fun b o q hm => (hH b o (F.keep b o q)).1)
  have nfr : ∀ b, h₀.get? b = none → b ∉ outer.filterMap (·.frame) := fun b q hb => by
    obtain ⟨_, o, ho, _⟩ := B.frames.mem hb
    rw [q] at ho; cases ho
  have nL : ∀ b, b ≠ L → h₀.get? b = none → b ∉ (env :: outer).filterMap (·.frame) := fun b hb q hm => by
    rcases env_mem hf hm with z | z
    · exact hb z
    · exact nfr b q z
  have eL : ∀ b, G.get? b = none → b ≠ L ∧ h₀.get? b = none := fun b q => ⟨fun z => (by
    obtain ⟨o, _, _, ho, _⟩ := F.ns
    rw [z, ho] at q; cases q), kts_none F.keep q⟩
  refine ⟨_, dx, vs, od, sl, u, fun b o q => T.other b o (B.stays b o q) fun hm => ?_, fun b o q => ⟨T.up q, fun nm => T.other b o q nm⟩, B.frames.of_keeps fun b o q _ => ?_, ⟨hH.slots.ns F.ns, S, by rw [T.size]; exact F.above⟩, ?_, ?_⟩
  · rw [(B.frames.mem hm).1] at q; cases q
  · obtain ⟨sl, hs⟩ := T.up q
    exact ⟨_, hs, rfl⟩
  · intro q hq
    rcases List.mem_cons.mp hq with rfl | hq
    · exact ⟨he, (eL _ hbd.2.2).1, T.none_ _ (eL _ hbd.2.2).2⟩
    · rcases List.mem_cons.mp hq with rfl | hq
      · exact ⟨hdx, (eL _ hbd.2.1).1, T.none_ _ (eL _ hbd.2.1).2⟩
      · have z := N q hq
        exact ⟨(hH _ _ z.1).2 (nL _ z.2.1 z.2.2), z.2.1, T.none_ _ z.2.2⟩
  · unfold lookIn
    rw [hod]
    exact hg

/-- what a suite leaves behind a catch -/
noncomputable def CatchEnd (s : Shared) (g' : Heap) (L : Addr) (Q : Flow → Shared → Prop) (f : Flow) (s₄ : Shared) : Prop := ∃ h4 tk4 m4, s₄ = { s with heap := h4, toks := tk4 } ∧ Fr g' L h4 m4 ∧ ∀ h5 tk5, g'.StaysIn h5 → Q f { s with heap := h5, toks := tk5 }
theorem CatchEnd.mk {s : Shared} {g' : Heap} {L : Addr} {Q : Flow → Shared → Prop} {f : Flow} {h4 : Heap} {tk4 : Nat} {m4 : Str → Option Value} (F : Fr g' L h4 m4) (k : ∀ h5 tk5, g'.StaysIn h5 → Q f { s with heap := h5, toks := tk5 }) : CatchEnd s g' L Q f { s with heap := h4, toks := tk4 } := ⟨h4, tk4, m4, rfl, F, k⟩

/-- try: body; except SetFault as n: suite -/
theorem fault_Try {body : List Stmt} {n : Str} {b₀ : Stmt} {suite : List Stmt} {pe pos pos2 : Pos} {Q : Flow → Shared → Prop} {E : Value → Shared → Prop} {Err : Int → Prop}
    (B : Below (Ar dp un gd outer) base outer h₀) (F : Fr h₀ L s.heap m) (N : News h₀ L s.heap news) (XB : (hd.heap_39 w.params).In base) (TB : Top VP LO mean mg mb base)
    (hbody : wpAny (model prog w) ((Ar dp un gd outer).deeper env) (execs body env) Q (Up base (env :: outer) s Err (InFrame L)) s)
    (hsuite : ∀ e p g' h' tk' dx vs od sl u, Err p → base.StaysIn g' → Held outer h₀ g' → g'.FunFrames base outer → Fr g' L h' (fun z => if z = n then some (.ref e) else m z) → News g' L h' ((e, ⟨.ref 59, some dx, .fields vs, sl⟩) :: (dx, od) :: news) → lookIn "at" od = some (some (.int p u)) →
      wpAny (model prog w) (((Ar dp un gd outer).deeper env).mark (some (.ref e))) (execs (b₀ :: suite) env) (CatchEnd s g' L Q) (fun _ _ => False) { s with heap := h', toks := tk' })
    (hf : env.frame = some L := by rfl) (hloc : env.locals = L := by rfl) (hgl : env.globals = mainGlobals := by rfl) (hk : env.scope.kind = .function := by rfl) (hx : env.kindOf (Str.ofString "SetFault") = some .globalImplicit := by rfl) (hn : env.kindOf n = some .local := by rfl)
    (hp : (env.scope.kind == .class || (env.scope.kind == .module && env.locals != env.globals)) = false := by rfl) :
    wpAny (model prog w) ((Ar dp un gd outer).deeper env) (exec (.Try body [.ExceptHandler (some (.Name (Str.ofString "SetFault") pe)) (some n) (b₀ :: suite) pos] [] [] pos2) env) Q E s := by
  subst hloc
  refine wpAny_Try_except (wpAny_mono hbody (fun f s₁ h₁ => ?_) fun v s₁ h₁ => ?_)
  · cases f <;> first | exact h₁ | exact wpAny_execs_nil h₁
  obtain ⟨e, p, st, h', tk', rfl, rfl, hx1, hok, hff, hp1⟩ := h₁
  refine exc_note (L := env.locals) rfl hff hf hx1 hok fun h2 hx2 hff2 => ?_
  refine exc_flight (s := { s with heap := h2, toks := tk' }) hff2 hx2 fun h3 hx3 hff3 => ?_
  have X3 := XB.keeps hx3.stays
  have T3 := TB.keeps hx3.stays
  refine fault_handle ?_
  refine Name_function_global hk hx (loadGlobal_global (env := env) (show h3.Ns env.globals mg from hgl ▸ T3.g) (mg_of X3 T3.g (ns_fault w)) ?_) (by decide)
  have he3 : ∃ oe, h3.get? e = some oe ∧ oe.cls = .ref 59 := by
    obtain ⟨_, _, _, dx, vs, od, es, n, u, sl, he, _⟩ := hx3
    exact ⟨_, he, rfl⟩
  refine ⟨rfl, X3 _ _ (cf_at w), he3, ?_⟩
  refine exc_flight (s := { s with heap := h3, toks := tk' }) hff3 hx3 fun h4 hx4 hff4 => ?_
  obtain ⟨g', dx, vs, od, sl, u, k1, k2, k3, F4, N4, hl⟩ := catch_ground B F N hx4 hf
  refine wpAny_storeName_local hn F4.ns (fun h5 hn5 hs5 => ?_) hp
  have F5 : Fr g' env.locals h5 (fun z => if z = n then some (.ref e) else m z) := F4.set hn5 hs5
  refine wpAny_mono (hsuite e p g' h5 _ dx vs od sl u hp1 k1 k2 k3 F5 (N4.set hs5) hl) (fun f s₄ h₄ => ?_) fun _ _ z => z
  obtain ⟨h6, tk6, m6, rfl, F6, kQ⟩ := h₄
  refine wpAny_nameGoes hn F6.ns hp fun h7 m7 hn7 hs7 => kQ h7 _ fun b o q => ?_
  exact (hs7.2 b fun z => by have q' : g'.get? env.locals = some o := (congrArg g'.get? z.symm).trans q; rw [kts_self F6] at q'; cases q').trans (F6.keep b o q)
end
end

section
open PySem PySem.W PySem.Calls PyProof.Rows
set_option maxRecDepth 100000
set_option maxHeartbeats 8000000
section
variable {prog : Program} {w : World} {dp un : Nat} {gd : Option (List Code)} {outer : List Env} {base : Heap} {mean : ExcName → Option Value} {mg mb : Str → Option Value} {s : Shared} {R : Result → Shared → Prop}
/-- the entry of a def with cells, that does not raise -/
theorem enterC {name qual : Str} {params : Arguments} {body : List Stmt} {scope : Scope} {dV kV doc pm cdv ct oc : Value} {an od : Option Addr} {osl : Array (Option Value)} {f : Addr} {args : Args} {binds : List (Str × Value)}
    (X : (hd.heap_39 w.params).In s.heap) (T : Top VP LO mean mg mb s.heap)
    (ho : (hd.heap_39 w.params).lookup f = some ⟨oc, od, .func (fnOf name qual params body scope dV kV doc pm an cdv ct), osl⟩) (hcd : codeIn (hd.heap_39 w.params) cdv qual = true) (hroom : dp < recursionLimit)
    (hbind : BindsTo s (fnOf name qual params body scope dV kV doc pm an cdv ct) args binds)
    (hkind : ∀ n, ∀ x ∈ binds, scope.names.lookup x.1 = some .local ∨ (scope.names.lookup x.1 = some .cell ∧ ((cellsFrom n scope.names []).lookup x.1).isSome = true))
    (hnd : ((cellsFrom 0 scope.names []).map (·.1)).Nodup)
    (h : ∀ L h₁ tk cells, Fr s.heap L h₁ (bindL (envOfC qual scope L f cdv).kindOf binds fun _ => none) → News s.heap L h₁ cells →
      CellsAre (bindC (envOfC qual scope L f cdv).kindOf binds fun _ => none) (cellsFrom (L + 1) scope.names []) cells →
      wpAny (model prog w) ((Ar dp un gd outer).deeper (envOfC qual scope L f cdv)) (execs body (envOfC qual scope L f cdv))
        (fun fl s' => R (.ok (.ret (match fl with | .ret v => v | _ => .none))) s') (fun _ _ => False)
        { s with heap := h₁, toks := tk })
    (hco : scope.isCoroutine = false := by rfl) (hgen : scope.isGenerator = false := by rfl) (hk : scope.kind = .function := by rfl) : codeAny (model prog w) (Ar dp un gd outer) (.call (.ref f) args) R s := by
  refine codeAny_call_function hroom (X _ _ ho) rfl hco hgen rfl (codeRec_of X hcd) (hbind _ _ _ _ ?_)
  refine wpAny_newFunctionEnv_cells hk (hkind _) fun env' he s' x => ?_
  subst he
  refine ⟨T.nolimit.keeps x.toInCall.keep, codeAny_func ?_⟩
  obtain ⟨h₁, tk, rfl, _⟩ := x.done
  have hk₁ := x.toInCall.keep
  obtain ⟨cells, NC, Y⟩ := Cl.news (h₀ := s.heap) (Nat.le_refl _) fun n c hm => ⟨x.cell n c (lookup_of_mem_nodup (cellsFrom_names scope.names 0 (s.heap.objs.size + 1) [] [] rfl ▸ hnd) hm), x.above n c hm⟩
  exact wpAny_mono (h s.heap.objs.size h₁ tk cells ⟨x.toInCall.ns, hk₁, Nat.le_refl _⟩ NC Y) (fun _ _ z => z) fun _ _ z => z.elim
end
section
variable {prog : Program} {w : World} {dp un : Nat} {gd : Option (List Code)} {outer : List Env} {base : Heap} {mean : ExcName → Option Value} {mg mb : Str → Option Value} {s : Shared}
/-- a call from any function's frame -/
theorem Fn.useX {f : Addr} {vs : List Value} {n : Nat} {Pre : Heap → Prop} {Post : Value → Heap → Prop} (hf : Fn prog w f vs n Pre Post)
    {h₀ : Heap} {L : Addr} {m : Str → Option Value} {news : List (Addr × Obj)} {env : Env} {Q E : Value → Shared → Prop}
    (B : Below (Ar dp un gd outer) base outer h₀) (F : Fr h₀ L s.heap m) (N : News h₀ L s.heap news) (X : (hd.heap_39 w.params).In h₀) (T : Top VP LO mean mg mb h₀)
    (hd : dp + 1 + n < recursionLimit) (hu : un + 3 + 8 * n + 8 < cLine) (pre : Pre s.heap)
    (k : ∀ v h' tk', s.heap.StaysIn h' → Fr h₀ L h' m → News h₀ L h' news → Post v h' → Q v { s with heap := h', toks := tk' })
    (hfr : env.frame = some L := by rfl) (hk : env.scope.kind = .function := by rfl) (hA : (Ar dp un gd outer).deeper env = Ar (dp + 1) (un + 3) gd (env :: outer) := by rfl) :
    wpAny (model prog w) ((Ar dp un gd outer).deeper env) (call (.ref f) vs) Q E s := by
  refine wpAny_call ?_
  have B' := pushX B F hfr hk
  rw [hA] at B' ⊢
  refine hf (dp + 1) (un + 3) gd (env :: outer) base mean mg mb s _ B' (X.keeps F.keep) (T.keeps F.keep) hd hu pre fun v h' tk' st hp => ?_
  exact k v h' tk' st (F.keeps st) (N.grown st) hp
theorem FnE.useX {f : Addr} {vs : List Value} {n : Nat} {Pre : Heap → Prop} {Post : Value → Heap → Prop} {Err : Int → Prop} (hf : FnE prog w f vs n Pre Post Err)
    {h₀ : Heap} {L : Addr} {m : Str → Option Value} {news : List (Addr × Obj)} {env : Env} {Q E : Value → Shared → Prop}
    (B : Below (Ar dp un gd outer) base outer h₀) (F : Fr h₀ L s.heap m) (N : News h₀ L s.heap news) (X : (hd.heap_39 w.params).In h₀) (T : Top VP LO mean mg mb h₀)
    (hd : dp + 1 + n < recursionLimit) (hu : un + 3 + 8 * n + 8 < cLine) (pre : Pre s.heap)
    (k : ∀ v h' tk', s.heap.StaysIn h' → Fr h₀ L h' m → News h₀ L h' news → Post v h' → Q v { s with heap := h', toks := tk' })
    (ke : ∀ v s', Up base (env :: outer) s Err OnWay v s' → E v s') (hfr : env.frame = some L := by rfl) (hk : env.scope.kind = .function := by rfl) (hA : (Ar dp un gd outer).deeper env = Ar (dp + 1) (un + 3) gd (env :: outer) := by rfl) :
    wpAny (model prog w) ((Ar dp un gd outer).deeper env) (call (.ref f) vs) Q E s := by
  refine wpAny_call ?_
  have B' := pushX B F hfr hk
  rw [hA] at B' ⊢
  refine hf (dp + 1) (un + 3) gd (env :: outer) base mean mg mb s _ B' (X.keeps F.keep) (T.keeps F.keep) hd hu pre (fun v h' tk' st hp => ?_) ke
  exact k v h' tk' st (F.keeps st) (N.grown st) hp
end
end

section
open PySem PySem.W PySem.Calls PyProof.Rows
set_option maxRecDepth 100000
set_option maxHeartbeats 8000000
open LCg LCt
section
variable {prog : Program} {w : World} {A : Around} {E : Value → Shared → Prop} {s : Shared} {h₀ : Heap} {L : Addr} {m : Str → Option Value} {env : Env}
/-- what the test of one turn leaves -/
noncomputable def LcAsk (prog : Program) (w : World) (A : Around) (h₀ : Heap) (L : Addr) (m : Str → Option Value) (cenv : Env) (elt : Expr) (s : Shared) (nw : List (Addr × Obj)) (Gy : Value → Prop) (Gn : Prop) (E' : Value → Shared → Prop) (ok : Bool) (s' : Shared) : Prop :=
  if ok = true then wpAny (model prog w) A (eval elt cenv) (LcGot h₀ L m s nw Gy) E' s' else LcGot h₀ L m s nw (fun _ => Gn) .none s'
theorem LcAsk.yes {cenv : Env} {elt : Expr} {s s' : Shared} {nw : List (Addr × Obj)} {Gy : Value → Prop} {Gn : Prop} {E' : Value → Shared → Prop} (h : wpAny (model prog w) A (eval elt cenv) (LcGot h₀ L m s nw Gy) E' s') : LcAsk prog w A h₀ L m cenv elt s nw Gy Gn E' true s' := by
  unfold LcAsk; rw [if_pos rfl]; exact h
theorem LcAsk.no {cenv : Env} {elt : Expr} {s : Shared} {nw : List (Addr × Obj)} {Gy : Value → Prop} {Gn : Prop} {E' : Value → Shared → Prop} {h' : Heap} {tk' : Nat} (F : Fr h₀ L h' m) (N : News h₀ L h' nw) (hG : Gn) : LcAsk prog w A h₀ L m cenv elt s nw Gy Gn E' false { s with heap := h', toks := tk' } := by
  unfold LcAsk; rw [if_neg (by decide)]; exact LcGot.mk F N hG
theorem LcAsk.of {c : Prop} [Decidable c] {cenv : Env} {elt : Expr} {s s' : Shared} {nw : List (Addr × Obj)} {Gy : Value → Prop} {Gn : Prop} {E' : Value → Shared → Prop} (h1 : c → LcAsk prog w A h₀ L m cenv elt s nw Gy Gn E' true s') (h2 : ¬ c → LcAsk prog w A h₀ L m cenv elt s nw Gy Gn E' false s') : LcAsk prog w A h₀ L m cenv elt s nw Gy Gn E' (decide c) s' := by
  by_cases h : c
  · rw [decide_eq_true h]; exact h1 h
  · rw [decide_eq_false h]; exact h2 h
noncomputable def LcTurnT (prog : Program) (w : World) (A : Around) (h₀ : Heap) (L : Addr) (m : Str → Option Value) (env : Env) (ct elt : Expr) (x : Str) (scope : Scope) (cl : List (Str × Addr)) (s : Shared) (P : Nat → Value → Prop) (news : List (Addr × Obj)) (G : Nat → List Value → Prop) : Prop :=
  ∀ i ys v I oI C oC D m₂ h tk (E' : Value → Shared → Prop), P i v → G i ys → NsObj oC m₂ → m₂ x = some v → Fr h₀ L h m → News h₀ L h ((I, oI) :: (C, oC) :: (D, lst ys) :: news) → ((@Ne Nat I C) ∧ (@Ne Nat I D) ∧ (@Ne Nat C D)) →
      wpAny (model prog w) A (isTrue ct (compEnvC scope cl C env) (eval ct (compEnvC scope cl C env))) (LcAsk prog w A h₀ L m (compEnvC scope cl C env) elt s ((I, oI) :: (C, oC) :: (D, lst ys) :: news) (fun y => G (i + 1) (ys ++ [y])) (G (i + 1) ys) E') E' { s with heap := h, toks := tk }
theorem lcT_rest {ct elt : Expr} {x : Str} {scope : Scope} {cl : List (Str × Addr)} {s₁ : Shared} {P : Nat → Value → Prop} {news : List (Addr × Obj)} {G : Nat → List Value → Prop} {n : Nat} {Fin : List Value → List (Addr × Obj) → Prop}
    (T : LcTurnT prog w A h₀ L m env ct elt x scope cl s₁ (fun i v => i < n ∧ P i v) news G) (fin : ∀ ys, G n ys → Fin ys news) :
    ∀ k i ys, k + i = n → G i ys → CompRestT prog w A h₀ L m env ct elt x scope cl s₁ (fun _ => True) P Fin k i ys news
  | 0, i, ys, hk, hG => CompRestT.zero (fin ys ((show i = n by omega) ▸ hG))
  | k + 1, i, ys, hk, hG => CompRestT.succ fun v I oI C oC D m₂ h tk E' hP hC hx F N off ne => by
    refine wpAny_mono (T i ys v I oI C oC D m₂ h tk E' ⟨by omega, hP⟩ hG hC hx F N ne) (fun ok s' q => ?_) fun _ _ e => e
    cases ok with
    | true =>
      rw [if_pos rfl]
      unfold LcAsk at q
      rw [if_pos rfl] at q
      refine wpAny_mono q (fun y s'' r => ?_) fun _ _ e => e
      obtain ⟨h', tk', rfl, F', N', hG'⟩ := r
      exact ⟨h', tk', news, rfl, F', N', off, trivial, lcT_rest T fin k (i + 1) (ys ++ [y]) (by omega) hG'⟩
    | false =>
      rw [if_neg (by decide)]
      unfold LcAsk at q
      rw [if_neg (by decide)] at q
      obtain ⟨h', tk', rfl, F', N', hG'⟩ := q
      exact ⟨h', tk', news, rfl, F', N', off, trivial, lcT_rest T fin k (i + 1) ys (by omega) hG'⟩
theorem comp_rangeT_assign {ct elt iter : Expr} {x y : Str} {px py : Pos} {scope : Scope} {cl : List (Str × Addr)} {pos spos : Pos} {Q : Flow → Shared → Prop} {a b : Int} {n : Nat} {news : List (Addr × Obj)} (G : Nat → List Value → Prop)
    (F₀ : Fr h₀ L s.heap m) (_N₀ : News h₀ L s.heap news)
    (hit : wpAny (model prog w) A (eval iter env) (fun v s₁ => ∃ r t u z h tk, v = .ref r ∧ s₁ = { s with heap := h, toks := tk } ∧ IsRange h r a b 1 t u z ∧ Fr h₀ L h m ∧ News h₀ L h news) E s)
    (hsm : Builtin.Range.small a b 1 = true) (hn : Builtin.Range.rangeSize a b 1 = ((n : Nat) : Int)) (hsz : n ≤ sizeLine) (hh : A.handled = none) (hG : G 0 [])
    (T : LcTurnT prog w A h₀ L m env ct elt x scope cl s (fun i v => i < n ∧ ∃ t, v = .int (a + (i : Int)) t) news G)
    (fin : ∀ D h tk ys, G n ys → Fr h₀ L h (fun z => if z = y then some (.ref D) else m z) → News h₀ L h ((D, lst ys) :: news) → Off1 D news → Q .next { s with heap := h, toks := tk })
    (hLe : env.locals = L := by rfl)
    (hsw : swapsWith (.ListComp elt [⟨.Name x px, iter, [ct], 0⟩] scope pos) (some (.Name y py)) spos.line env = pure true := by with_unfolding_all rfl)
    (hclos : closureFor scope env = pure cl := by with_unfolding_all rfl) (hcell : ∀ z ∈ scope.names, z.2 ≠ .cell := by decide) (hkind : scope.kind = .function := by rfl)
    (hnames : ∀ z ∈ scope.names, z.2 = .local → scope.names.lookup z.1 = some .local := by decide) (hx : scope.names.lookup x = some .local := by rfl)
    (hy : env.kindOf y = some .local := by rfl) (hp : (env.scope.kind == .class || (env.scope.kind == .module && env.locals != env.globals)) = false := by rfl)
    (hs : ∀ x, foldedSetIterable iter env x = pure x := by intro _; rfl) :
    wpAny (model prog w) A (exec (.Assign [.Name y py] (.ListComp elt [⟨.Name x px, iter, [ct], 0⟩] scope pos) spos) env) Q E s := by
  refine Assign_ListComp_T F₀ hLe hsw hclos hcell hkind hnames hx hy hp (wpAny_mono hit (fun v s₁ q => ?_) fun _ _ e => e) hs
  obtain ⟨r, t, u, z, h, tk, rfl, rfl, hr, F, N⟩ := q
  refine CompSrcT.range hh F N hr hsm hn hsz fun g => ?_
  exact lcT_rest (n := n) (s₁ := { s with heap := g, toks := tk }) (by exact T) (fun ys hG D h' tk' F' N' o1 => fin D h' tk' ys hG F' N' o1) _ _ _ (by omega) hG
end
end

section
open PySem PySem.W PySem.Calls PyProof.Rows PySem.Spec
set_option maxRecDepth 100000
set_option maxHeartbeats 8000000
theorem pd_canLay : ∀ ps : List (Int × Int), PyData.canLayAll0 (ps.map pairD) = true
  | [] => rfl
  | _ :: r => by simp [PyData.canLayAll0, PyData.canLay0, pairD, pd_canLay r]
theorem pd_depth : ∀ ps : List (Int × Int), PyData.depthAll (ps.map pairD) ≤ 1
  | [] => Nat.zero_le _
  | _ :: r => by
    have := pd_depth r
    simp only [List.map_cons, PyData.depthAll, pairD, PyData.depth]
    omega
theorem pd_shaped_list (ps : List (Int × Int)) : SeqAt.shaped (.list (ps.map pairD)) = true := by
  have := pd_depth ps
  simp only [SeqAt.shaped, PyData.canLay0, pd_canLay, PyData.depth, Bool.true_and]
  exact decide_eq_true (by omega)
theorem pd_shaped_tuple (ps : List (Int × Int)) : SeqAt.shaped (.tuple (ps.map pairD)) = true := by
  have := pd_depth ps
  simp only [SeqAt.shaped, PyData.canLay0, pd_canLay, PyData.depth, Bool.true_and]
  exact decide_eq_true (by omega)
theorem pd_eqvAll : ∀ ps : List (Int × Int), PyData.eqvAll (ps.map pairD) (ps.map pairD) = true
  | [] => by simp [PyData.eqvAll]
  | _ :: r => by simp [PyData.eqvAll, PyData.eqv, pairD, pd_eqvAll r]
theorem ne_lists {prog : Program} {w : World} {A : Around} {E : Value → Shared → Prop} {s : Shared} {Q : Value → Shared → Prop} {h₀ : Heap} {L D l : Addr} {nw : List (Addr × Obj)} {xs ys : List Value} {k k' : Nat} {ps : List (Int × Int)} {oD ol : Obj} (F : ∀ b o, h₀.get? b = some o → s.heap.get? b = some o) (N : News h₀ L s.heap nw) (hD : (D, oD) ∈ nw) (hl : (l, ol) ∈ nw) (hcD : oD.cls = .type "list") (hdD : oD.data = .seq xs.toArray k) (hcl : ol.cls = .type "list") (hdl : ol.data = .seq ys.toArray k')
    (hx : PairsAt h₀ xs ps) (hy : PairsAt h₀ ys ps) (hu : A.units + 64 < cLine) (h : Q (.bool false) s) : wpAny (model prog w) A (compareOp .NotEq (.ref D) (.ref l)) Q E s := by
  obtain ⟨as, ra⟩ := (hx.keeps F).reads
  obtain ⟨bs, rb⟩ := (hy.keeps F).reads
  have ra' : Reads s.heap (.ref D) (.list (ps.map pairD)) (D :: as) := .list (N _ hD).1 hcD hdD (by simpa using ra)
  have rb' : Reads s.heap (.ref l) (.list (ps.map pairD)) (l :: bs) := .list (N _ hl).1 hcl hdl (by simpa using rb)
  refine ne_dataH ra' rb' (pd_shaped_list ps) (pd_shaped_list ps) hu ?_
  have e : PyData.eqv (.list (ps.map pairD)) (.list (ps.map pairD)) = true := by simp [PyData.eqv, pd_eqvAll]
  rw [e]; exact h
theorem ne_sets {prog : Program} {w : World} {A : Around} {E : Value → Shared → Prop} {s : Shared} {Q : Value → Shared → Prop} {u v : Value} {ps : List (Int × Int)} (hu' : SetAt s.heap u ps) (hv : SetAt s.heap v ps) (hu : A.units + 64 < cLine) (h : Q (.bool false) s) : wpAny (model prog w) A (compareOp .NotEq u v) Q E s := by
  obtain ⟨as, ra⟩ := hu'.reads
  obtain ⟨bs, rb⟩ := hv.reads
  refine ne_dataH ra rb (pd_shaped_tuple ps) (pd_shaped_tuple ps) hu ?_
  have e : PyData.eqv (.tuple (ps.map pairD)) (.tuple (ps.map pairD)) = true := by simp [PyData.eqv, pd_eqvAll]
  rw [e]; exact h
theorem eq_set_nil {prog : Program} {w : World} {A : Around} {E : Value → Shared → Prop} {s : Shared} {Q : Value → Shared → Prop} {u v : Value} {ps : List (Int × Int)} (hu' : SetAt s.heap u ps) (hne : ps ≠ []) (hv : SetAt s.heap v []) (hu : A.units + 64 < cLine) (h : Q (.bool false) s) : wpAny (model prog w) A (compareOp .Eq u v) Q E s := by
  obtain ⟨as, ra⟩ := hu'.reads
  obtain ⟨bs, rb⟩ := hv.reads
  refine eq_dataH ra rb (pd_shaped_tuple ps) (pd_shaped_tuple []) hu ?_
  cases ps with
  | nil => exact absurd rfl hne
  | cons p r =>
    have e : PyData.eqv (.tuple ((p :: r).map pairD)) (.tuple (([] : List (Int × Int)).map pairD)) = false := by simp [PyData.eqv, PyData.eqvAll]
    rw [e]; exact h
theorem PiecesIn.get {h₀ : Heap} {led : List (Addr × Obj)} {vs : List Value} {pcs : List (List (Int × Int))} (x : PiecesIn h₀ led vs pcs) : vs.length = pcs.length ∧ ∀ (i : Nat) v, vs[i]? = some v → ∃ t tv pc k, v = Value.ref t ∧ (t, ({ cls := .type "tuple", data := .seq (List.toArray tv) k } : Obj)) ∈ led ∧ PairsAt h₀ tv pc ∧ pcs[i]? = some pc := by
  induction x with
  | nil => exact ⟨rfl, fun i v h => by simp at h⟩
  | @snoc vs pcs a tv pc k hx hm hp ih =>
    refine ⟨by simp [ih.1], fun i v h => ?_⟩
    by_cases hi : i < vs.length
    · rw [List.getElem?_append_left hi] at h
      obtain ⟨t, tv', pc', k', e, hm', hp', hpi⟩ := ih.2 i v h
      exact ⟨t, tv', pc', k', e, hm', hp', by rw [List.getElem?_append_left (by rw [← ih.1]; exact hi)]; exact hpi⟩
    · rw [List.getElem?_append_right (Nat.not_lt.mp hi)] at h
      have hz : i - vs.length = 0 := by
        cases q : i - vs.length with
        | zero => rfl
        | succ n => rw [q] at h; simp at h
      rw [hz] at h
      simp at h
      refine ⟨a, tv, pc, k, h.symm, hm, hp, ?_⟩
      have e2 : i = pcs.length := by have := ih.1; omega
      rw [e2]; simp
end

section
open PySem PySem.W PySem.Calls PyProof.Rows
set_option maxRecDepth 100000
set_option maxHeartbeats 8000000
open LCg
theorem turn_in (elt t1 i1 t2 i2 : Expr) (scope : Scope) (pos : Pos) (it acc : Value) (env : Env) :
    compTurn (.ListComp elt [⟨t1, i1, [], 0⟩, ⟨t2, i2, [], 0⟩] scope pos) 1 it acc env = (standAt i2.pos >>= fun _ => pyNext it >>= fun r => match r with
      | none => pure (.done .next)
      | some v => letOwnedTupleGo t2 it v >>= fun _ => assign t2 env v >>= fun _ =>
        (eval elt env >>= fun x => call (.builtin "list.append") [acc, x] >>= fun _ => pure ()) >>= fun _ =>
          again (.compLoop (.ListComp elt [⟨t1, i1, [], 0⟩, ⟨t2, i2, [], 0⟩] scope pos) 1 it acc env)) := by rfl
theorem turn_out (elt t1 i1 t2 i2 : Expr) (scope : Scope) (pos : Pos) (it acc : Value) (env : Env) :
    compTurn (.ListComp elt [⟨t1, i1, [], 0⟩, ⟨t2, i2, [], 0⟩] scope pos) 0 it acc env = (standAt i1.pos >>= fun _ => pyNext it >>= fun r => match r with
      | none => pure (.done .next)
      | some v => letOwnedTupleGo t1 it v >>= fun _ => assign t1 env v >>= fun _ =>
        eval i2 env >>= fun x => standAt i2.pos >>= fun _ => foldedSetIterable i2 env x >>= fun x => holding [x] (pyIter x) >>= fun j => runOwn (.compStart (.ListComp elt [⟨t1, i1, [], 0⟩, ⟨t2, i2, [], 0⟩] scope pos) 1 j acc env) env >>= fun _ =>
          again (.compLoop (.ListComp elt [⟨t1, i1, [], 0⟩, ⟨t2, i2, [], 0⟩] scope pos) 0 it acc env)) := by rfl

section
variable {prog : Program} {w : World} {A : Around} {h₀ : Heap} {L : Addr} {m : Str → Option Value} {env : Env}
/-- the inner clause of a block with two clauses -/
theorem nest_in {R : Result → Shared → Prop} {x1 x2 : Str} {q1 q2 q3 pe : Pos} {it1 : Expr} {scope : Scope} {pos : Pos} {s : Shared} {J t C D : Addr} {its : Array Value} {news : List (Addr × Obj)} {G : Nat → List Value → Prop} {ys : List Value} {mC : Str → Option Value} {bound : Nat}
    (hh : A.handled = none) (hx : (compEnvC scope [] C env).kindOf x2 = some .local) (hkd : (compEnvC scope [] C env).scope.kind = .function) (hdb : (x2 == ("__debug__" : Str)) = false)
    (hp : ((compEnvC scope [] C env).scope.kind == .class || ((compEnvC scope [] C env).scope.kind == .module && (compEnvC scope [] C env).locals != (compEnvC scope [] C env).globals)) = false)
    (hJt : t ≠ J) (hJC : J ≠ C) (hJD : J ≠ D) (hCD : C ≠ D) (hJL : J ≠ L) (hCL : C ≠ L) (hDL : D ≠ L) (hJ₀ : h₀.get? J = none) (hC₀ : h₀.get? C = none) (hD₀ : h₀.get? D = none) (htC : t ≠ C) (htD : t ≠ D)
    (hnJ : ∀ p ∈ news, p.1 ≠ J) (hnC : ∀ p ∈ news, p.1 ≠ C) (hnD : ∀ p ∈ news, p.1 ≠ D)
    (hst : s.heap.IsTupleIter J t 0 ∧ s.heap.IsTuple t its) (F : Fr h₀ L s.heap m) (hn : s.heap.Ns C mC) (N : News h₀ L s.heap ((D, lst ys) :: news)) (hG : G 0 ys)
    (step : ∀ i v zs, its[i]? = some v → G i zs → G (i + 1) (zs ++ [v])) (hlen : ∀ i zs, G i zs → i ≤ its.size → zs.length ≤ bound) (hb : bound ≤ sizeLine)
    (hR : ∀ h tk zs m', Fr h₀ L h m → h.Ns C m' → News h₀ L h ((D, lst zs) :: news) → G its.size zs → (∀ b o, b ≠ J → b ≠ C → b ≠ D → s.heap.get? b = some o → h.get? b = some o) → R (.ok .next) { s with heap := h, toks := tk }) :
    codeAny (model prog w) A (.compLoop (.ListComp (.Name x2 pe) [⟨.Name x1 q1, it1, [], 0⟩, ⟨.Name x2 q2, .Name x1 q3, [], 0⟩] scope pos) 1 (.ref J) (.ref D) (compEnvC scope [] C env)) R s := by
  have W := Walks.tuple (prog := prog) (w := w) hh J t hJt its
  refine codeAny_loop rfl (fun k s' => ∃ h tk i zs m', s' = { s with heap := h, toks := tk } ∧ i ≤ its.size ∧ k = its.size + 1 - i ∧ (h.IsTupleIter J t i ∧ h.IsTuple t its) ∧ Fr h₀ L h m ∧ h.Ns C m' ∧ News h₀ L h ((D, lst zs) :: news) ∧ G i zs ∧ (∀ b o, b ≠ J → b ≠ C → b ≠ D → s.heap.get? b = some o → h.get? b = some o)) (fun k s' hI => ?_) (its.size + 1) ⟨s.heap, s.toks, 0, ys, mC, rfl, Nat.zero_le _, rfl, hst, F, hn, N, hG, fun _ _ _ _ _ e => e⟩
  show wpAny _ A ((compTurn (.ListComp (.Name x2 pe) [⟨.Name x1 q1, it1, [], 0⟩, ⟨.Name x2 q2, .Name x1 q3, [], 0⟩] scope pos) 1 (.ref J) (.ref D) (compEnvC scope [] C env)).onRaise (fun x => do noteFrame x (compEnvC scope [] C env); theTreesLotGoes x)) _ _ s'
  refine wpAny_noted ?_
  rw [turn_in]
  obtain ⟨h, tk, i, zs, m', rfl, hi, rfl, hst', F', hn', N', hG', keep⟩ := hI
  refine wpAny_bind (wpAny_standAt (wpAny_bind ?_))
  by_cases hlt : i < its.size
  · refine W.item i _ _ _ hlt hst' fun v h₁ tk₁ hPv hst₁ hk₁ => ?_
    refine wpAny_bind (wpAny_of_eq (by rfl) ?_)
    have hn₁ : h₁.Ns C m' := hn'.at' fun o e => hk₁ _ o (by simpa using Ne.symm hJC) e
    refine wpAny_bind (wpAny_assign_Name (wpAny_storeName_local hx hn₁ (fun h₂ hn₂ hs₂ => ?_) hp))
    have F₁ : Fr h₀ L h₁ m := fr_but F' hk₁ (Ne.symm hJL) hJ₀
    have N₁ : News h₀ L h₁ ((D, lst zs) :: news) := news_but N' hk₁ fun p hp => by
      rcases List.mem_cons.mp hp with rfl | hp
      · exact Ne.symm hJD
      · exact hnJ p hp
    have F₂ : Fr h₀ L h₂ m := F₁.change hs₂ hCL hC₀
    have N₂ : News h₀ L h₂ ((D, lst zs) :: news) := fun p hp => by
      refine ⟨hs₂.extBut _ _ ?_ (N₁ p hp).1, (N₁ p hp).2⟩
      rcases List.mem_cons.mp hp with rfl | hp
      · exact Ne.symm hCD
      · exact hnC p hp
    refine wpAny_bind (wpAny_bind (wpAny_Name (wpAny_loadName_local hkd hx hn₂ (if_pos rfl) ?_) hdb))
    refine wpAny_bind (append_at (hsz := by rw [List.size_toArray]; exact Nat.le_trans (hlen _ _ hG' hi) hb) (N₂ _ (.head _)).1 fun h₅ hs₅ hD₅ => ?_)
    refine wpAny_pure (wpAny_pure ⟨rfl, its.size + 1 - (i + 1), by omega, h₅, _, i + 1, zs ++ [v], _, rfl, hlt, rfl, ?_, F₂.change hs₅ hDL hD₀, hn₂.sameBut hs₅ hCD, fun p hp => ?_, step i v zs hPv hG', fun b o b1 b2 b3 e => ?_⟩)
    · have a := W.frame _ _ h₂ hst₁ fun b hb o e => hs₂.extBut b o (fun q => by
        rcases List.mem_cons.mp hb with rfl | hb
        · exact hJC q
        · exact htC ((List.mem_singleton.mp hb) ▸ q)) e
      exact W.frame _ _ h₅ a fun b hb o e => hs₅.extBut b o (fun q => by
        rcases List.mem_cons.mp hb with rfl | hb
        · exact hJD q
        · exact htD ((List.mem_singleton.mp hb) ▸ q)) e
    · rcases List.mem_cons.mp hp with rfl | hp
      · exact ⟨hD₅.trans (congrArg some (lst_snoc zs v)), hDL, hD₀⟩
      · exact ⟨hs₅.extBut _ _ (hnD p hp) (N₂ p (.tail _ hp)).1, (N₂ p (.tail _ hp)).2⟩
    · exact hs₅.extBut b o b3 (hs₂.extBut b o b2 (hk₁ b o (by simpa using b1) (keep b o b1 b2 b3 e)))
  · obtain rfl : i = its.size := Nat.le_antisymm hi (Nat.not_lt.mp hlt)
    refine W.done _ _ _ hst' fun h₁ tk₁ hk₁ => wpAny_pure ?_
    refine hR h₁ tk₁ zs m' (fr_but F' hk₁ (Ne.symm hJL) hJ₀) (hn'.at' fun o e => hk₁ _ o (by simpa using Ne.symm hJC) e) (news_but N' hk₁ fun p hp => by
      rcases List.mem_cons.mp hp with rfl | hp
      · exact Ne.symm hJD
      · exact hnJ p hp) hG' fun b o b1 b2 b3 e => hk₁ b o (by simpa using b1) (keep b o b1 b2 b3 e)
theorem start_in {elt t1 i1 t2 i2 : Expr} {scope : Scope} {pos : Pos} {it acc : Value} {env : Env} {R : Result → Shared → Prop} {s : Shared}
    (h0 : codeAny (model prog w) A (.compLoop (.ListComp elt [⟨t1, i1, [], 0⟩, ⟨t2, i2, [], 0⟩] scope pos) 1 it acc env) R s)
    (h : wpAny (model prog w) A (pyIter it) (fun it' s' => codeAny (model prog w) A (.compLoop (.ListComp elt [⟨t1, i1, [], 0⟩, ⟨t2, i2, [], 0⟩] scope pos) 1 it' acc env) R s') (notedBy (model prog w) A env fun x s' => R (.error x) s') s) :
    codeAny (model prog w) A (.compStart (.ListComp elt [⟨t1, i1, [], 0⟩, ⟨t2, i2, [], 0⟩] scope pos) 1 it acc env) R s := by
  refine codeAny_of_tree ?_
  show wpAny _ _ ((compStart (.ListComp elt [⟨t1, i1, [], 0⟩, ⟨t2, i2, [], 0⟩] scope pos) 1 it acc env).onRaise (fun x => do noteFrame x env; standAt theWindowsPlace)) _ _ s
  refine wpAny_notedAt ?_
  unfold compStart
  show wpAny _ _ (ask >>= _) _ _ s
  refine wpAny_bind (wpAny_askSetting (wpAny_ite ?_))
  split
  · first
      | exact wpAny_bind (wpAny_pure (wpAny_pure (And.intro rfl h0)))
      | exact wpAny_pure (And.intro rfl h0)
  · first
      | exact wpAny_bind (wpAny_rule (wpAny_bind (wpAny_standAt (wpAny_bind (wpAny_mono h (fun it' s' h' => wpAny_pure (And.intro rfl h')) fun _ _ x => x)))))
      | (refine wpAny_bind (wpAny_rule ?_); show wpAny _ _ (standAt i2.pos >>= _) _ _ s; exact wpAny_bind (wpAny_standAt (wpAny_bind (wpAny_mono h (fun it' s' h' => wpAny_pure (And.intro rfl h')) fun _ _ x => x))))
theorem flat_take_le {pcs : List (List (Int × Int))} {i j : Nat} {pc : List (Int × Int)} (h : pcs[i]? = some pc) : ((pcs.take i).flatten ++ pc.take j).length ≤ pcs.flatten.length := by
  have e : pcs.flatten = (pcs.take (i + 1)).flatten ++ (pcs.drop (i + 1)).flatten := by rw [← List.flatten_append, List.take_append_drop]
  have e2 : (pcs.take (i + 1)).flatten = (pcs.take i).flatten ++ pc := by rw [List.take_add_one, h]; simp
  rw [e, e2]
  simp only [List.length_append, List.length_take]
  omega
/-- [x2 for x1 in a list of tuples for x2 in x1] -/
theorem comp_nest {E : Value → Shared → Prop} {s : Shared} {x1 x2 : Str} {q1 q2 q3 pe : Pos} {it1 : Expr} {scope : Scope} {pos : Pos} {Q : Value → Shared → Prop} {ax : Addr} {pv : List Value} {pcs : List (List (Int × Int))} {news : List (Addr × Obj)}
    (F : Fr h₀ L s.heap m) (N : News h₀ L s.heap news) (hh : A.handled = none)
    (hsrc : ∀ h, (∀ b o, h₀.get? b = some o → h.get? b = some o) → News h₀ L h news → h.IsList ax pv.toArray)
    (hpc : ∀ (i : Nat) v, pv[i]? = some v → ∃ t tv pc, v = Value.ref t ∧ (∀ h, (∀ b o, h₀.get? b = some o → h.get? b = some o) → News h₀ L h news → h.IsTuple t (List.toArray tv)) ∧ PairsAt h₀ tv pc ∧ pcs[i]? = some pc)
    (hlen : pv.length = pcs.length) (hsz : pcs.flatten.length ≤ sizeLine)
    (hit : ∀ (Q' : Value → Shared → Prop), Q' (.ref ax) s → wpAny (model prog w) A (eval it1 env) Q' E s)
    (fin : ∀ D h tk zs, PairsAt h₀ zs pcs.flatten → Fr h₀ L h m → News h₀ L h ((D, lst zs) :: news) → Q (.ref D) { s with heap := h, toks := tk })
    (hclos : closureFor scope env = pure [] := by with_unfolding_all rfl) (hcell : ∀ y ∈ scope.names, y.2 ≠ .cell := by decide) (hkind : scope.kind = .function := by rfl)
    (hnames : ∀ y ∈ scope.names, y.2 = .local → scope.names.lookup y.1 = some .local := by decide)
    (hx1 : ∀ C, (compEnvC scope [] C env).kindOf x1 = some .local := by intro _; rfl) (hx2 : ∀ C, (compEnvC scope [] C env).kindOf x2 = some .local := by intro _; rfl)
    (hkd : ∀ C, (compEnvC scope [] C env).scope.kind = .function := by intro _; rfl) (hdb1 : (x1 == ("__debug__" : Str)) = false := by decide) (hdb2 : (x2 == ("__debug__" : Str)) = false := by decide)
    (hp : ∀ C, ((compEnvC scope [] C env).scope.kind == .class || ((compEnvC scope [] C env).scope.kind == .module && (compEnvC scope [] C env).locals != (compEnvC scope [] C env).globals)) = false := by intro _; rfl)
    (hs : ∀ x, foldedSetIterable it1 env x = pure x := by intro _; rfl) :
    wpAny (model prog w) A (eval (.ListComp (.Name x2 pe) [⟨.Name x1 q1, it1, [], 0⟩, ⟨.Name x2 q2, .Name x1 q3, [], 0⟩] scope pos) env) Q E s := by
  rw [eval_ListComp]
  refine wpAny_comprehension_free (use := none) rfl hs hclos hkind hnames (hit _ ?_)
  have hl : s.heap.IsList ax pv.toArray := hsrc _ F.keep N
  have hlt : ax < s.heap.objs.size := by obtain ⟨_, e, _⟩ := hl; exact Heap.lt_size e
  refine wpAny_pyIter_list hl ?_
  generalize hI : s.heap.objs.size = I
  generalize hH1 : s.heap.push { cls := .type "list_iterator", data := .fields #[.ref ax, .int 0 0] } = H1
  have up1 : ∀ b o, s.heap.get? b = some o → H1.get? b = some o := fun b o e => hH1 ▸ Heap.get?_push_of_some _ e
  have hsI : H1.objs.size = I + 1 := by rw [← hH1, Heap.size_push, hI]
  refine wpAny_newObj_type (wpAny_newFunctionEnv hcell (by intro y hy; simp at hy) (fun h₁ hns₁ hsb₁ => ?_) hkind)
  dsimp only at hns₁ hsb₁ ⊢
  generalize hH2 : H1.push { cls := .type "list", dict := none, data := .seq ([] : List Value).toArray } = H2 at hns₁ hsb₁ ⊢
  have hD : H1.objs.size = I + 1 := hsI
  have hC : H2.objs.size = I + 2 := by rw [← hH2, Heap.size_push, hsI]
  rw [hD]
  rw [hC] at hns₁ hsb₁ ⊢
  have up2 : ∀ b o, H1.get? b = some o → H2.get? b = some o := fun b o e => hH2 ▸ Heap.get?_push_of_some _ e
  have below : ∀ b : Nat, b < I → b ≠ I ∧ b ≠ I + 1 ∧ b ≠ I + 2 := fun b hb => ⟨by omega, by omega, by omega⟩
  have ltI : ∀ b o, s.heap.get? b = some o → (b : Nat) < I := fun b o e => hI ▸ Heap.lt_size e
  have old : ∀ b o, s.heap.get? b = some o → h₁.get? b = some o := fun b o e => hsb₁.extBut b o (below b (ltI b o e)).2.2 (Heap.get?_push_of_some _ (up2 _ _ (up1 _ _ e)))
  have freshS : ∀ a : Nat, I ≤ a → h₀.get? a = none := fun a ha => by
    cases e : h₀.get? a with
    | none => rfl
    | some o' => have := ltI a _ (F.keep a o' e); exact absurd this (Nat.not_lt.mpr ha)
  have hLlt : (L : Nat) < I := hI ▸ F.ns.lt
  have hnew : ∀ p ∈ news, (p.1 : Nat) < I := fun p hp => hI ▸ Heap.lt_size (N p hp).1
  have n01 : I ≠ I + 1 := by omega
  have n02 : I ≠ I + 2 := by omega
  have n12 : I + 1 ≠ I + 2 := by omega
  have F1 : Fr h₀ L h₁ m := F.keeps old
  have gD : H2.get? (I + 1) = some (lst []) := by rw [← hH2, ← hD]; exact Heap.get?_push_size _ rfl
  have gI : H2.get? I = some { cls := .type "list_iterator", data := .fields #[.ref ax, .int 0 0] } := by
    refine up2 _ _ ?_
    rw [← hH1, ← hI]; exact Heap.get?_push_size _ rfl
  have N1 : News h₀ L h₁ ((I + 1, lst []) :: news) := fun p hp => by
    rcases List.mem_cons.mp hp with rfl | hp
    · exact ⟨hsb₁.extBut _ _ n12 (Heap.get?_push_of_some _ gD), Ne.symm (below L hLlt).2.1, freshS _ (Nat.le_succ _)⟩
    · exact N.grown old p hp
  have hst1 : h₁.IsListIter I ax 0 ∧ h₁.IsList ax pv.toArray :=
    ⟨⟨_, hsb₁.extBut _ _ n02 (Heap.get?_push_of_some _ gI), rfl, rfl⟩, hsrc _ F1.keep (N.grown old)⟩
  have loop : ∀ s₃ : Shared, s₃ = { s with heap := h₁, toks := s.toks + ([] : List (Str × Value)).length } →
      codeAny (model prog w) A (.compLoop (.ListComp (.Name x2 pe) [⟨.Name x1 q1, it1, [], 0⟩, ⟨.Name x2 q2, .Name x1 q3, [], 0⟩] scope pos) 0 (.ref I) (.ref (I + 1)) (compEnvC scope [] (I + 2) env)) (compPost (model prog w) A E none Q (.ref (I + 1)) (I + 2)) s₃ := by
    rintro _ rfl
    have hax : (ax : Nat) < I := hI ▸ hlt
    have W := Walks.list (prog := prog) (w := w) hh I ax (below ax hax).1 pv.toArray
    refine codeAny_loop rfl (fun k s' => ∃ h tk i zs m', s' = { s with heap := h, toks := tk } ∧ i ≤ pv.toArray.size ∧ k = pv.toArray.size + 1 - i ∧ (h.IsListIter I ax i ∧ h.IsList ax pv.toArray) ∧ Fr h₀ L h m ∧ h.Ns (I + 2) m' ∧ News h₀ L h ((I + 1, lst zs) :: news) ∧ PairsAt h₀ zs ((pcs.take i).flatten)) (fun k s' hInv => ?_) (pv.toArray.size + 1) ⟨h₁, _, 0, [], _, rfl, Nat.zero_le _, rfl, hst1, F1, hns₁, N1, .nil⟩
    show wpAny _ A ((compTurn (.ListComp (.Name x2 pe) [⟨.Name x1 q1, it1, [], 0⟩, ⟨.Name x2 q2, .Name x1 q3, [], 0⟩] scope pos) 0 (.ref I) (.ref (I + 1)) (compEnvC scope [] (I + 2) env)).onRaise (fun x => do noteFrame x (compEnvC scope [] (I + 2) env); theTreesLotGoes x)) _ _ s'
    refine wpAny_noted ?_
    rw [turn_out]
    obtain ⟨h, tk, i, zs, m', rfl, hi, rfl, hst', F', hn', N', hG'⟩ := hInv
    refine wpAny_bind (wpAny_standAt (wpAny_bind ?_))
    by_cases hlti : i < pv.toArray.size
    · refine W.item i _ _ _ hlti hst' fun v h₂ tk₂ hPv hst₂ hk₂ => ?_
      rw [List.getElem?_toArray] at hPv
      obtain ⟨t, tv, pc, rfl, htup, hpairs, hpci⟩ := hpc i v hPv
      refine wpAny_bind (wpAny_of_eq (by rfl) ?_)
      have hn₂ : h₂.Ns (I + 2) m' := hn'.at' fun o e => hk₂ _ o (by simpa using Ne.symm n02) e
      refine wpAny_bind (wpAny_assign_Name (wpAny_storeName_local (hx1 _) hn₂ (fun h₃ hn₃ hs₃ => ?_) (hp _)))
      have hIL : L ≠ I := (below L hLlt).1
      have F₂ : Fr h₀ L h₂ m := fr_but F' hk₂ hIL (freshS _ (Nat.le_refl _))
      have N₂ : News h₀ L h₂ ((I + 1, lst zs) :: news) := news_but N' hk₂ fun p hp => by
        rcases List.mem_cons.mp hp with rfl | hp
        · exact Ne.symm n01
        · exact (below _ (hnew p hp)).1
      have F₃ : Fr h₀ L h₃ m := F₂.change hs₃ (Ne.symm (below L hLlt).2.2) (freshS _ (Nat.le_add_right _ _))
      have N₃ : News h₀ L h₃ ((I + 1, lst zs) :: news) := fun p hp => by
        refine ⟨hs₃.extBut _ _ ?_ (N₂ p hp).1, (N₂ p hp).2⟩
        rcases List.mem_cons.mp hp with rfl | hp
        · exact n12
        · exact (below _ (hnew p hp)).2.2
      refine wpAny_bind (wpAny_Name (wpAny_loadName_local (hkd _) (hx1 _) hn₃ (if_pos rfl) ?_) hdb1)
      refine wpAny_bind (wpAny_standAt (wpAny_bind (wpAny_of_eq (by rfl) ?_)))
      have ht3 : h₃.IsTuple t tv.toArray := htup h₃ F₃.keep fun p hp => N₃ p (.tail _ hp)
      refine wpAny_bind (wpAny_holding (wpAny_pyIter_tuple ht3 ?_))
      generalize hJ : h₃.objs.size = J
      generalize hH4 : h₃.push { cls := .type "tuple_iterator", data := .fields #[.ref t, .int 0 0] } = h₄
      have up4 : ∀ b o, h₃.get? b = some o → h₄.get? b = some o := fun b o e => hH4 ▸ Heap.get?_push_of_some _ e
      have ltJ : ∀ b o, h₃.get? b = some o → (b : Nat) < J := fun b o e => hJ ▸ Heap.lt_size e
      obtain ⟨oI, hoI, rI⟩ := hst₂.1
      have hoI3 : h₃.get? I = some oI := hs₃.extBut _ _ n02 hoI
      obtain ⟨oC, _, _, hoC, _⟩ := id hn₃
      have hJI : I ≠ J := Nat.ne_of_lt (ltJ _ _ hoI3)
      have hJC : I + 2 ≠ J := Nat.ne_of_lt (ltJ _ _ hoC)
      have hJD : I + 1 ≠ J := Nat.ne_of_lt (ltJ _ _ (N₃ _ (.head _)).1)
      obtain ⟨ot, hot, _⟩ := id ht3
      have hJt : t ≠ J := Nat.ne_of_lt (ltJ _ _ hot)
      have hJL : L ≠ J := by obtain ⟨oL, _, _, hoL, _⟩ := F₃.ns; exact Nat.ne_of_lt (ltJ _ _ hoL)
      have htI : (t : Nat) < I := by
        obtain ⟨o, ho, _⟩ := htup s.heap F.keep N
        exact ltI _ _ ho
      have hgJ : h₀.get? J = none := hJ ▸ next_is_new F₃
      have gJ : h₄.get? J = some { cls := .type "tuple_iterator", data := .fields #[.ref t, .int 0 0] } := by rw [← hH4, ← hJ]; exact Heap.get?_push_size _ rfl
      have inner : ∀ s₅ : Shared, (∃ tk, s₅ = { s with heap := h₄, toks := tk }) → codeAny (model prog w) A (.compLoop (.ListComp (.Name x2 pe) [⟨.Name x1 q1, it1, [], 0⟩, ⟨.Name x2 q2, .Name x1 q3, [], 0⟩] scope pos) 1 (.ref J) (.ref (I + 1)) (compEnvC scope [] (I + 2) env)) (fun r s' => match r with
          | .ok _ => ∃ h tk zs m', s' = { s with heap := h, toks := tk } ∧ (h.IsListIter I ax (i + 1) ∧ h.IsList ax pv.toArray) ∧ Fr h₀ L h m ∧ h.Ns (I + 2) m' ∧ News h₀ L h ((I + 1, lst zs) :: news) ∧ PairsAt h₀ zs ((pcs.take (i + 1)).flatten)
          | .error _ => False) s₅ := by
        rintro _ ⟨tk5, rfl⟩
        refine nest_in (t := t) (its := tv.toArray) (news := news) (G := fun j qs => PairsAt h₀ qs ((pcs.take i).flatten ++ pc.take j)) (ys := zs) (bound := pcs.flatten.length) hh (hx2 _) (hkd _) hdb2 (hp _) hJt (Ne.symm hJC) (Ne.symm hJD) (Ne.symm n12) (Ne.symm hJL) (Ne.symm (below L hLlt).2.2) (Ne.symm (below L hLlt).2.1) hgJ (freshS _ (Nat.le_add_right _ _)) (freshS _ (Nat.le_succ _)) (below t htI).2.2 (below t htI).2.1 ?_ (fun p hp => (below _ (hnew p hp)).2.2) (fun p hp => (below _ (hnew p hp)).2.1) ⟨⟨_, gJ, rfl, rfl⟩, IsTup.keeps ht3 up4⟩ (F₃.keeps up4) (hn₃.at' fun o e => up4 _ o e) (N₃.grown up4) ?_ ?_ ?_ hsz ?_
        · intro p hp
          exact Nat.ne_of_lt (ltJ _ _ (N₃ p (.tail _ hp)).1)
        · simpa using hG'
        · intro j v qs hv hq
          rw [List.getElem?_toArray] at hv
          obtain ⟨a, p, t', u', rfl, hpj, hpt⟩ := hpairs.get hv
          have := hq.snoc hpt
          rw [List.take_add_one, hpj]
          simpa using this
        · intro j qs hq _
          rw [hq.length]
          exact flat_take_le hpci
        · intro h6 tk6 qs m6 F6 hn6 N6 hG6 keep6
          refine ⟨h6, tk6, qs, m6, rfl, ⟨⟨oI, keep6 I oI hJI n02 n01 (up4 _ _ hoI3), rI⟩, hsrc _ F6.keep fun p hp => N6 p (.tail _ hp)⟩, F6, hn6, N6, ?_⟩
          rw [List.size_toArray, hpairs.length, List.take_length] at hG6
          rw [List.take_add_one, hpci]
          simpa using hG6
      refine wpAny_bind (wpAny_runOwn (codeAny_mono (start_in (inner _ ⟨_, rfl⟩) (wpAny_pyIter_tupleiter ⟨_, gJ, rfl, rfl⟩ (inner _ ⟨_, rfl⟩))) fun r s' hr => ?_))
      cases r with
      | error e => exact hr.elim
      | ok f =>
        obtain ⟨h6, tk6, qs, m6, rfl, hst6, F6, hn6, N6, hG6⟩ := hr
        exact wpAny_pure ⟨rfl, pv.toArray.size + 1 - (i + 1), by omega, h6, tk6, i + 1, qs, m6, rfl, hlti, rfl, hst6, F6, hn6, N6, hG6⟩
    · obtain rfl : i = pv.toArray.size := Nat.le_antisymm hi (Nat.not_lt.mp hlti)
      refine W.done _ _ _ hst' fun h₂ tk₂ hk₂ => wpAny_pure ?_
      have F₂ : Fr h₀ L h₂ m := fr_but F' hk₂ (below L hLlt).1 (freshS _ (Nat.le_refl _))
      have N₂ : News h₀ L h₂ ((I + 1, lst zs) :: news) := news_but N' hk₂ fun p hp => by
        rcases List.mem_cons.mp hp with rfl | hp
        · exact Ne.symm n01
        · exact (below _ (hnew p hp)).1
      refine ⟨m', hn'.at' fun o e => hk₂ _ o (by simpa using Ne.symm n02) e, fun h'' hs'' => ?_⟩
      refine fin (I + 1) h'' tk₂ zs ?_ (F₂.change hs'' (Ne.symm (below L hLlt).2.2) (freshS _ (Nat.le_add_right _ _))) fun p hp => ⟨hs''.extBut _ _ ?_ (N₂ p hp).1, (N₂ p hp).2⟩
      · rw [List.size_toArray, hlen, List.take_length] at hG'
        exact hG'
      · rcases List.mem_cons.mp hp with rfl | hp
        · exact n12
        · exact (below _ (hnew p hp)).2.2
  exact codeAny_compStart_list (loop _ rfl) ((Walks.list (prog := prog) (w := w) hh I ax (below ax (hI ▸ hlt)).1 pv.toArray).self 0 _ _ _ hst1 (loop _ rfl))
end
end

section
open PySem PySem.W PySem.Calls PyProof.Rows
set_option maxRecDepth 100000
set_option maxHeartbeats 8000000

/-- the places of the pairs that are too wide, so far -/
noncomputable def WideG (ps : List (Int × Int)) (width : Int) (i : Nat) (ys : List Value) : Prop := ((ys = [] ∧ ∀ (j : Nat) p, j < i → ps[j]? = some p → plen p ≤ width) ∨ ∃ (f : Nat) (u : Tok) (r : List Value), ys = Value.int ((f : Nat) : Int) u :: r ∧ WideAt width ps f) ∧ ys.length ≤ i ∧ (∀ v ∈ ys, ∃ (n : Int) (t : Tok), v = Value.int n t)
theorem wideG_yes {ps : List (Int × Int)} {width : Int} {i : Nat} {ys : List Value} {p : Int × Int} {z : Int} {t : Tok} (h : WideG ps width i ys) (hp : ps[i]? = some p) (hw : width < plen p) (hz : z = i) : WideG ps width (i + 1) (ys ++ [.int z t]) := by
  subst hz
  obtain ⟨h, hl, hi⟩ := h
  refine ⟨.inr ?_, by simp; omega, fun v hv => ?_⟩
  rotate_left
  · rcases List.mem_append.mp hv with hv | hv
    · exact hi v hv
    · exact ⟨_, _, List.mem_singleton.mp hv⟩
  rcases h with ⟨rfl, h⟩ | ⟨f, u, r, rfl, h⟩
  · exact ⟨i, t, [], rfl, ⟨p, hp, hw⟩, h⟩
  · exact ⟨f, u, r ++ [.int i t], rfl, h⟩
theorem wideG_no {ps : List (Int × Int)} {width : Int} {i : Nat} {ys : List Value} {p : Int × Int} (h : WideG ps width i ys) (hp : ps[i]? = some p) (hw : ¬ width < plen p) : WideG ps width (i + 1) ys := by
  obtain ⟨h, hl, hi⟩ := h
  refine ⟨?_, by omega, hi⟩
  rcases h with ⟨rfl, h⟩ | h
  · refine .inl ⟨rfl, fun j q hj hq => ?_⟩
    by_cases hji : j = i
    · subst hji; rw [hp] at hq; cases hq; omega
    · exact h j q (by omega) hq
  · exact .inr h
theorem reads_ints {h : Heap} : ∀ {ys : List Value}, (∀ v ∈ ys, ∃ (n : Int) (t : Tok), v = Value.int n t) → ∃ (ns : List Int) (as : List Addr), ReadsAll h ys (ns.map PyData.int) as
  | [], _ => ⟨[], _, .nil⟩
  | v :: ys, hi => by
    obtain ⟨n, t, rfl⟩ := hi v (.head _)
    obtain ⟨ns, as, r⟩ := reads_ints (ys := ys) fun v hv => hi v (.tail _ hv)
    exact ⟨n :: ns, _, .cons (.int n t) r⟩
theorem ne_nil_list {prog : Program} {w : World} {A : Around} {E : Value → Shared → Prop} {s : Shared} {Q : Value → Shared → Prop} {h₀ : Heap} {L D l : Addr} {nw : List (Addr × Obj)} {v : Value} {ys : List Value} {k k' : Nat} (N : News h₀ L s.heap nw) (hD : (D, ({ cls := .type "list", data := .seq (v :: ys).toArray k } : Obj)) ∈ nw) (hl : (l, ({ cls := .type "list", data := .seq #[] k' } : Obj)) ∈ nw)
    (hi : ∀ u ∈ v :: ys, ∃ (n : Int) (t : Tok), u = Value.int n t) (hu : A.units + 64 < cLine) (h : Q (.bool true) s) : wpAny (model prog w) A (compareOp .NotEq (.ref D) (.ref l)) Q E s := by
  obtain ⟨ns, as, r⟩ := reads_ints (h := s.heap) hi
  have ra : Reads s.heap (.ref D) (.list (ns.map PyData.int)) (D :: as) := .list (N _ hD).1 rfl rfl (by simpa using r)
  have rb : Reads s.heap (.ref l) (.list (([] : List Int).map PyData.int)) (l :: []) := .list (N _ hl).1 rfl rfl (by simpa using ReadsAll.nil)
  refine ne_dataH ra rb (ke_shaped_ints ns) (ke_shaped_ints []) hu ?_
  cases ns with
  | nil => cases r
  | cons n ns => exact h
theorem wideAt_uniq {ps : List (Int × Int)} {width : Int} {i j : Nat} (h : WideAt width ps i) (k : WideAt width ps j) : i = j := by
  obtain ⟨⟨p, hp, hw⟩, ha⟩ := h
  obtain ⟨⟨q, hq, hx⟩, hb⟩ := k
  rcases Nat.lt_trichotomy i j with z | z | z
  · have := hb i p z hp; omega
  · exact z
  · have := ha j q z hq; omega
theorem Held.stays {l : List Env} {h h₁ h' : Heap} (x : Held l h h₁) (k : h₁.StaysIn h') : Held l h h' := x.then fun b o q _ => ⟨⟨o.slots, k b o q⟩, fun _ => k b o q⟩
theorem PiecesIn.tuples {h₀ : Heap} {led : List (Addr × Obj)} {vs : List Value} {pcs : List (List (Int × Int))} (x : PiecesIn h₀ led vs pcs) : ∃ led', (∀ p ∈ led', p ∈ led) ∧ (∀ p ∈ led', ∀ fs, p.2.data ≠ .fields fs) ∧ PiecesIn h₀ led' vs pcs := by
  induction x with
  | nil => exact ⟨[], fun _ h => (nomatch h), fun _ h => (nomatch h), .nil⟩
  | @snoc vs pcs a tv pc k hx hm hp ih =>
    obtain ⟨led', h1, h2, h3⟩ := ih
    refine ⟨(a, { cls := .type "tuple", data := .seq tv.toArray k }) :: led', fun p hp => ?_, fun p hp => ?_, .snoc (h3.mono fun p hp => .tail _ hp) (.head _) hp⟩
    · rcases List.mem_cons.mp hp with rfl | hp
      · exact hm
      · exact h1 p hp
    · rcases List.mem_cons.mp hp with rfl | hp
      · intro fs z; cases z
      · exact h2 p hp
theorem item_tupleR {prog : Program} {w : World} {A : Around} {E : Value → Shared → Prop} {s : Shared} {value slice : Expr} {t : Addr} {items : Array Value} {k : Int} {u : Tok} {j : Nat} {x : Value} {Q : Value → Shared → Prop} (ht : IsTup s.heap t items)
    (hlo : -(2 ^ 63) ≤ k) (hhi : k < 2 ^ 63) (hj : seqIndex? k items.size = some j) (hx : items[j]? = some x) (h : Q x s)
    (hs : subscripted slice false (.ref t) (.int k u) = operate [.ref t, .int k u] (getItem (.ref t) (.int k u)) := by with_unfolding_all rfl) :
    wpAny (model prog w) A (subscriptTail value slice (.ref t) (.int k u)) Q E s := tail_any ht.typeIs slot_tuple_getitem.lookup (getItem_tuple ht hlo hhi hj hx h) hs
theorem seq_zero {n : Nat} (h : 0 < n) : seqIndex? 0 n = some 0 := by simpa using seq_idx (i := 0) h
theorem fr1 {h₀ h : Heap} {L : Addr} {m : Str → Option Value} {a : Str} {x : Option Value} (F : Fr h₀ L h m) (ha : m a = x) : Fr h₀ L h (fun s => if s = a then x else m s) := by
  have e : (fun s => if s = a then x else m s) = m := by
    funext s
    split
    · rename_i h; rw [h, ha]
    · rfl
  rw [e]; exact F
theorem greedy_len {width : Int} : ∀ {l : List (List (Int × Int))}, Greedy width l → l.length ≤ l.flatten.length
  | [], _ => Nat.le_refl _
  | [a], g => by
    have := List.length_pos_iff.mpr g.1
    simp; omega
  | a :: b :: r, g => by
    have := List.length_pos_iff.mpr g.1.1
    have ih := greedy_len (l := b :: r) g.2
    simp only [List.flatten_cons, List.length_append, List.length_cons] at ih ⊢
    omega
/-- a call of a def that catches: what stands is kept up to the slots of the frames -/
noncomputable def FnU (prog : Program) (w : World) (f : Addr) (vs : List Value) (n : Nat) (Pre : Heap → Prop) (Post : Value → Prop) : Prop :=
  ∀ (dp un : Nat) (gd : Option (List Code)) (outer : List Env) (base : Heap) (mean : ExcName → Option Value) (mg mb : Str → Option Value) (s : Shared) (R : Result → Shared → Prop),
    Below (Ar dp un gd outer) base outer s.heap → (hd.heap_39 w.params).In base → Top VP LO mean mg mb base → (hd.heap_39 w.params).In s.heap → Top VP LO mean mg mb s.heap → dp + n < recursionLimit → un + 8 * n + 8 < cLine → Pre s.heap →
    (∀ v h' tk', base.StaysIn h' → Held outer s.heap h' → Post v → R (.ok (.ret v)) { s with heap := h', toks := tk' }) →
    codeAny (model prog w) (Ar dp un gd outer) (.call (.ref f) ⟨vs, []⟩) R s
theorem law_split_ok {prog : Program} {w : World} (ps : List (Int × Int)) (v : Value) (width : Int) (tw : Tok) : FnU prog w 139 [v, .int width tw] 9 (fun h => SetAt h v ps ∧ (∀ p ∈ ps, GoodP p) ∧ ps.length ≤ 1001 ∧ 0 ≤ width ∧ width ≤ 30) (fun v => v = .bool true) := by
  intro dp un gd outer base mean mg mb s R B XB TB X T hdp hu ⟨⟨b, vs, hv, hT, hP⟩, hg, hn, hw0, hw1⟩ k
  subst hv
  refine' enterC (binds := [(Str.ofString "some", .ref b), (Str.ofString "width", .int width tw)]) X T ?k3 ?k4 (by omega) ?k6 ?k7 ?k8 ?_ ?c1 ?c2 ?c3
  case k3 => k_is
  case k4 => k_is
  case k6 => exact BindsTo.of_eq rfl
  case k7 =>
    intro n x hx
    rcases List.mem_cons.mp hx with rfl | hx
    · exact .inl rfl
    · rcases List.mem_cons.mp hx with rfl | hx
      · exact .inr ⟨rfl, rfl⟩
      · cases hx
  case k8 => decide
  case c1 => exact rfl
  case c2 => exact rfl
  case c3 => exact rfl
  intro L h₁ tk₀ cells F N hcs
  have hvl := hP.length
  obtain ⟨o1, o2, rfl, hd1, hd2⟩ := CellsAre.two hcs
  have hd1' : o1.data = .cell none := hd1
  have hd2' : o2.data = .cell (some (.int width tw)) := hd2
  have F' : Fr s.heap L h₁ (fun y => if y = Str.ofString "some" then some (.ref b) else none) := F
  clear hcs hd1 hd2 F
  (repeat' ((fail_if_success (with_reducible first | refine atWhile ?_ | refine atRaise ?_ | refine atFor ?_ | refine atAssignComp ?_ | refine atComp ?_ | refine atTry ?_ | refine atAppend ?_ | refine atList ?_ | refine atTwo ?_)); first | (k_unfold; (try dsimp only)) | (k_end; wrow_close) | walk1 | (dsimp only; walk1) | (leave1; try dsimp only)))
  walk1
  refine comp_tup (L := L) (ShownG ps) F' N (fun h k _ => hT.keeps k) (by rw [List.size_toArray, sizeLine_eq]; omega) rfl (shownG_zero ps) (fun Q' hq => ?_) ?_ ?_
  · (repeat' ((fail_if_success (with_reducible first | refine atWhile ?_ | refine atRaise ?_ | refine atFor ?_ | refine atAssignComp ?_ | refine atComp ?_ | refine atTry ?_ | refine atAppend ?_ | refine atList ?_ | refine atTwo ?_)); first | (k_unfold; (try dsimp only)) | (k_end; wrow_close) | walk1 | (dsimp only; walk1) | (leave1; try dsimp only)))
    exact hq
  · rintro i ys v I oI C oC D m₂ h tk E' ⟨hi', hv⟩ hG hC hx F₁ N₁ ⟨ne1, ne2, ne3⟩
    rw [List.getElem?_toArray] at hv
    obtain ⟨a, p, t, u, rfl, hp, hpt⟩ := hP.get hv
    have hgp := hg p (List.mem_of_getElem? hp)
    (repeat' ((fail_if_success (with_reducible first | refine atWhile ?_ | refine atRaise ?_ | refine atFor ?_ | refine atAssignComp ?_ | refine atComp ?_ | refine atTry ?_ | refine atAppend ?_ | refine atList ?_ | refine atTwo ?_)); first | (k_unfold; (try dsimp only)) | (k_end; wrow_close) | walk1 | (dsimp only; walk1) | (leave1; try dsimp only)))
    refine' Fn.useX (law_shown_ok a p.1 p.2 t u) ?k1 ?k2 ?k3 ?k4 ?k5 ?k6 ?k7 ⟨hpt.keeps (Fr.keep (by assumption)), hgp⟩ ?_ ?k9
    ((case k1 | k2 | k3 | k4 | k5 => k_asm); (case k6 | k7 => omega); (case k9 => exact rfl))
    rintro v' h' tk' st' F' N' ⟨t', rfl, _⟩
    exact LcGot.mk F' N' (shownG_snoc hG hp)
  · intro D h tk ys hG F₁ N₁ o1'
    obtain ⟨l, rfl, hl⟩ := hG
    rw [List.size_toArray, hvl, List.take_length] at hl
    (repeat' ((fail_if_success (with_reducible first | refine atWhile ?_ | refine atRaise ?_ | refine atFor ?_ | refine atAssignComp ?_ | refine atComp ?_ | refine atTry ?_ | refine atAppend ?_ | refine atList ?_ | refine atTwo ?_)); first | (k_unfold; (try dsimp only)) | (k_end; wrow_close) | walk1 | (dsimp only; walk1) | (leave1; try dsimp only)))
    rename_i h9 o9 F9 N9 hd9
    have hlx := hl
    have hll : l.length = ps.length := by have := congrArg List.length hl; simpa using this
    have hsl : (strValues l).toArray.size = ps.length := by rw [List.size_toArray, strValues, List.length_map, hll]
    refine comp_rangeT_assign (L := L) (a := 0) (b := (ps.length : Int)) (n := ps.length) (news := [(D, LCg.lst (strValues l)), (L + 1 + 1, o9), (L + 1, o2)]) (WideG ps width) F9 N9 ?_ ?_ ?_ (by rw [sizeLine_eq]; omega) rfl ⟨.inl ⟨rfl, fun j p h => absurd h (Nat.not_lt_zero j)⟩, Nat.le_refl _, fun _ h => nomatch h⟩ ?_ ?_
    · (repeat' ((fail_if_success (with_reducible first | refine atWhile ?_ | refine atRaise ?_ | refine atFor ?_ | refine atAssignComp ?_ | refine atComp ?_ | refine atTry ?_ | refine atAppend ?_ | refine atList ?_ | refine atTwo ?_)); first | (k_unfold; (try dsimp only)) | (k_end; wrow_close) | walk1 | (dsimp only; walk1) | (leave1; try dsimp only)))
      all_goals assumption
    · exact small_nat (by omega)
    · exact size_nat _
    · rintro i ys v I oI C oC D' m₂ h tk E' ⟨hi', t, rfl⟩ hG hC hx F₁ N₁ ⟨ne1, ne2, ne3⟩
      (repeat' ((fail_if_success (with_reducible first | refine atWhile ?_ | refine atRaise ?_ | refine atFor ?_ | refine atAssignComp ?_ | refine atComp ?_ | refine atTry ?_ | refine atAppend ?_ | refine atList ?_ | refine atTwo ?_)); first | (k_unfold; (try dsimp only)) | (k_end; wrow_close) | walk1 | (dsimp only; walk1) | (leave1; try dsimp only)))
      rename_i y ty hy
      obtain ⟨p, hpi⟩ : ∃ p, ps[i]? = some p := ⟨_, List.getElem?_eq_getElem hi'⟩
      obtain rfl : y = S (showPair p) := by
        have hlx : List.map (fun x => x.fst) l = List.map (fun p => S (showPair p)) ps := by assumption
        rw [hlx, show ((0 : Int) + (i : Int)).toNat = i by omega, List.getElem?_map, hpi] at hy
        simpa using hy.symm
      have hgp := hg p (List.mem_of_getElem? hpi)
      have hlen := showPair_len hgp.1.1 hgp.1.2 hgp.2.1 hgp.2.2
      have hplen : plen p = ((S (showPair p)).length : Int) := rfl
      (repeat' ((fail_if_success (with_reducible first | refine atWhile ?_ | refine atRaise ?_ | refine atFor ?_ | refine atAssignComp ?_ | refine atComp ?_ | refine atTry ?_ | refine atAppend ?_ | refine atList ?_ | refine atTwo ?_)); first | (k_unfold; (try dsimp only)) | (k_end; wrow_close) | walk1 | (dsimp only; walk1) | (leave1; try dsimp only)))
      refine LcAsk.of (fun hw => ?_) (fun hw => ?_)
      · refine LcAsk.yes ?_
        (repeat' ((fail_if_success (with_reducible first | refine atWhile ?_ | refine atRaise ?_ | refine atFor ?_ | refine atAssignComp ?_ | refine atComp ?_ | refine atTry ?_ | refine atAppend ?_ | refine atList ?_ | refine atTwo ?_)); first | (k_unfold; (try dsimp only)) | (k_end; wrow_close) | walk1 | (dsimp only; walk1) | (leave1; try dsimp only)))
        exact LcGot.mk (by assumption) (by assumption) (wideG_yes hG hpi (by omega) (by omega))
      · exact LcAsk.no (by assumption) (by assumption) (wideG_no hG hpi (by omega))
    · intro D2 h tk ys hG2 F₁ N₁ o2'
      obtain ⟨hwide, hyl, hyi⟩ := hG2
      have hwr : (∃ f, WideAt width ps f) ∨ (∀ (j : Nat) p, ps[j]? = some p → plen p ≤ width) := by
        rcases hwide with ⟨_, h⟩ | ⟨f, _, _, _, h⟩
        · exact .inr fun j p hj => h j p (List.getElem?_eq_some_iff.mp hj).1 hj
        · exact .inl ⟨f, h⟩
      (repeat' ((fail_if_success (with_reducible first | refine atWhile ?_ | refine atRaise ?_ | refine atFor ?_ | refine atAssignComp ?_ | refine atComp ?_ | refine atTry ?_ | refine atAppend ?_ | refine atList ?_ | refine atTwo ?_)); first | (k_unfold; (try dsimp only)) | (k_end; wrow_close) | walk1 | (dsimp only; walk1) | (leave1; try dsimp only)))
      refine fault_Try (L := L) (n := Str.ofString "fault") (Err := fun q => ∃ i : Nat, q = i ∧ WideAt width ps i) B F₁ N₁ XB TB ?_ ?_
      · (repeat' ((fail_if_success (with_reducible first | refine atWhile ?_ | refine atRaise ?_ | refine atFor ?_ | refine atAssignComp ?_ | refine atComp ?_ | refine atTry ?_ | refine atAppend ?_ | refine atList ?_ | refine atTwo ?_)); first | (k_unfold; (try dsimp only)) | (k_end; wrow_close) | walk1 | (dsimp only; walk1) | (leave1; try dsimp only)))
        refine' FnE.useX (split_set_ok s.heap h ps (.ref b) width tw) ?k1 ?k2 ?k3 ?k4 ?k5 ?k6 ?k7 ⟨rfl, F₁.keep, ⟨b, vs, rfl, hT, hP⟩, hg, hn, hw0, hw1⟩ ?_ ?_ ?k9
        ((case k1 | k2 | k3 | k4 | k5 => k_asm); (case k6 | k7 => omega); (case k9 => exact rfl))
        · rintro v' h' tk' st' F' N' ⟨hall, a, pv, k9, led, rfl, hfr, hpin⟩
          have N8 := news_sub (hfr.news F₁ N') (l' := (D2, LCg.lst ys) :: (D, LCg.lst (strValues l)) :: (L + 1 + 1, o9) :: (L + 1, o2) :: (a, listOf pv.toArray k9) :: led) (by
            intro p hp
            simp only [List.mem_cons, List.mem_append] at hp ⊢
            rcases hp with hp | hp | hp | hp | hp | hp <;> simp [hp])
          clear N'
          (repeat' ((fail_if_success (with_reducible first | refine atWhile ?_ | refine atRaise ?_ | refine atFor ?_ | refine atAssignComp ?_ | refine atComp ?_ | refine atTry ?_ | refine atAppend ?_ | refine atList ?_ | refine atTwo ?_)); first | (k_unfold; (try dsimp only)) | (k_end; wrow_close) | walk1 | (dsimp only; walk1) | (leave1; try dsimp only)))
          rename_i l8 h8 F8 N9 q8
          have hys : ys = [] := by
            rcases hwide with ⟨z, _⟩ | ⟨f, u, r, _, ⟨⟨q, hq, hx⟩, _⟩⟩
            · exact z
            · have := hall f q hq; omega
          subst hys
          refine ne_lists (k := 0) (k' := 0) (xs := []) (ys := []) (ps := []) F8.keep N9 (List.Mem.tail _ (List.Mem.head _)) (List.Mem.head _) rfl rfl rfl rfl .nil .nil (by show un + 3 + 64 < cLine; omega) ?_
          have hallp : ∀ p ∈ ps, plen p ≤ width := fun p hp => by
            obtain ⟨j, hj⟩ := List.getElem?_of_mem hp
            exact hall j p hj
          have hflat := splitOf_flat hallp
          have hgre := splitOf_greedy hallp
          (repeat' ((fail_if_success (with_reducible first | refine atWhile ?_ | refine atRaise ?_ | refine atFor ?_ | refine atAssignComp ?_ | refine atComp ?_ | refine atTry ?_ | refine atAppend ?_ | refine atList ?_ | refine atTwo ?_)); first | (k_unfold; (try dsimp only)) | (k_end; wrow_close) | walk1 | (dsimp only; walk1) | (leave1; try dsimp only)))
          refine comp_nest (pcs := splitOf width ps) F8 N9 rfl (fun h _ N => ⟨_, (N (a, listOf pv.toArray k9) (by simp)).1, rfl, _, rfl⟩) (fun i v hv => ?_) hpin.get.1 (by rw [hflat, sizeLine_eq]; omega) (fun Q' hq => ?_) ?_
          · obtain ⟨t, tv, pc, k0, e, hm, hp, hpi⟩ := hpin.get.2 i v hv
            exact ⟨t, tv, pc, e, fun h _ N => ⟨_, (N (t, { cls := .type "tuple", data := .seq (List.toArray tv) k0 }) (by simp [hm])).1, rfl, _, rfl⟩, hp, hpi⟩
          · (repeat' ((fail_if_success (with_reducible first | refine atWhile ?_ | refine atRaise ?_ | refine atFor ?_ | refine atAssignComp ?_ | refine atComp ?_ | refine atTry ?_ | refine atAppend ?_ | refine atList ?_ | refine atTwo ?_)); first | (k_unfold; (try dsimp only)) | (k_end; wrow_close) | walk1 | (dsimp only; walk1) | (leave1; try dsimp only)))
            exact hq
          rw [hflat]
          intro D5 h5 tk5 zs hz F5 N5
          (repeat' ((fail_if_success (with_reducible first | refine atWhile ?_ | refine atRaise ?_ | refine atFor ?_ | refine atAssignComp ?_ | refine atComp ?_ | refine atTry ?_ | refine atAppend ?_ | refine atList ?_ | refine atTwo ?_)); first | (k_unfold; (try dsimp only)) | (k_end; wrow_close) | walk1 | (dsimp only; walk1) | (leave1; try dsimp only)))
          refine list_copyKT F5 N5 (hT.keeps F5.keep) (fun D6 c6 h6 F6 N6 lt6 => ?_) (by rw [List.size_toArray, sizeLine_eq]; omega)
          refine ne_lists (ps := ps) F6.keep N6 (List.Mem.tail _ (List.Mem.head _)) (List.Mem.head _) rfl rfl rfl rfl hz hP (by show un + 3 + 64 < cLine; omega) ?_
          (repeat' ((fail_if_success (with_reducible first | refine atWhile ?_ | refine atRaise ?_ | refine atFor ?_ | refine atAssignComp ?_ | refine atComp ?_ | refine atTry ?_ | refine atAppend ?_ | refine atList ?_ | refine atTwo ?_)); first | (k_unfold; (try dsimp only)) | (k_end; wrow_close) | walk1 | (dsimp only; walk1) | (leave1; try dsimp only)))
          obtain ⟨led', hsub, hcls, hpin'⟩ := hpin.tuples
          have N7 := news_sub N6 (l' := (L + 1 + 1, o9) :: (L + 1, o2) :: (a, listOf pv.toArray k9) :: led') (by
            intro p hp
            simp only [List.mem_cons] at hp ⊢
            rcases hp with hp | hp | hp | hp
            · simp [hp]
            · simp [hp]
            · simp [hp]
            · simp [hsub p hp])
          have hpl := hpin'.get.1
          have hpn : pv.length ≤ 1001 := by
            have := greedy_len hgre
            rw [hflat] at this
            omega
          clear N6 N5 N9 hpin hfr lt6 q8 hsub
          refine For_range (L := L) (a := 0) (b := (pv.length : Int)) (n := pv.length) (fun i m nw => nw = (L + 1 + 1, o9) :: (L + 1, o2) :: (a, listOf pv.toArray k9) :: led' ∧ m (Str.ofString "pieces") = some (.ref a)) F6 N7 rfl rfl ?_ ⟨rfl, rfl⟩ (small_nat (by omega)) (size_nat _) ?_ ?_ ?_ (by rintro _ _ ⟨⟩)
          · (repeat' ((fail_if_success (with_reducible first | refine atWhile ?_ | refine atRaise ?_ | refine atFor ?_ | refine atAssignComp ?_ | refine atComp ?_ | refine atTry ?_ | refine atAppend ?_ | refine atList ?_ | refine atTwo ?_ | refine atCall ?_ | refine atLen ?_ | refine atItem ?_)); first | (k_unfold; (try dsimp only)) | (k_end; wrow_close) | walk1 | (dsimp only; walk1) | (leave1; try dsimp only)))
            refine PyProof.Rows.len_list (items := pv.toArray) ⟨_, (N7 (a, listOf pv.toArray k9) (by simp)).1, rfl, _, rfl⟩ (by rw [List.size_toArray]; omega) ?_
            rw [List.size_toArray]
            (repeat' ((fail_if_success (with_reducible first | refine atWhile ?_ | refine atRaise ?_ | refine atFor ?_ | refine atAssignComp ?_ | refine atComp ?_ | refine atTry ?_ | refine atAppend ?_ | refine atList ?_ | refine atTwo ?_ | refine atCall ?_ | refine atLen ?_ | refine atItem ?_)); first | (k_unfold; (try dsimp only)) | (k_end; wrow_close) | walk1 | (dsimp only; walk1) | (leave1; try dsimp only)))
            all_goals assumption
          · rintro i m nw ⟨rfl, _⟩ p hp _ fs
            rcases List.mem_cons.mp hp with rfl | hp
            · intro z; rw [hd9] at z; cases z
            · rcases List.mem_cons.mp hp with rfl | hp
              · intro z; rw [hd2'] at z; cases z
              · rcases List.mem_cons.mp hp with rfl | hp
                · intro z; cases z
                · exact hcls p hp fs
          · rintro i I oI t m₁ news₁ h tk hi ⟨rfl, hm1⟩ hcI F₁ N₁
            have F₂ := fr1 F₁ (a := Str.ofString "pieces") hm1
            clear F₁
            obtain ⟨t0, tv, pc, k0, hpv, hm0, hp0, hpi⟩ : ∃ t0 tv pc k0, pv[i]? = some (Value.ref t0) ∧ (t0, ({ cls := .type "tuple", data := .seq (List.toArray tv) k0 } : Obj)) ∈ led' ∧ PairsAt s.heap tv pc ∧ (splitOf width ps)[i]? = some pc := by
              obtain ⟨t0, tv, pc, k0, e, r⟩ := hpin'.get.2 i _ (List.getElem?_eq_getElem hi)
              exact ⟨t0, tv, pc, k0, by rw [List.getElem?_eq_getElem hi, e], r⟩
            have hgr := greedy_at hgre hpi
            have hpvz : pv[((0 : Int) + (i : Int)).toNat]? = some (Value.ref t0) := by rw [show ((0 : Int) + (i : Int)).toNat = i by omega]; exact hpv
            have goodpc : ∀ p ∈ pc, GoodP p := fun p hp => hg p (hflat ▸ List.mem_flatten.mpr ⟨pc, List.mem_of_getElem? hpi, hp⟩)
            have hpcn : pc.length ≤ 1001 := by
              have := flat_take_le (j := pc.length) hpi
              rw [hflat, List.length_append, List.take_length] at this
              omega
            have hslen : slen pc = ((S (showSet pc)).length : Int) := rfl
            have hsl30 : (S (showSet pc)).length ≤ 30 := by omega
            (repeat' ((fail_if_success (with_reducible first | refine atWhile ?_ | refine atRaise ?_ | refine atFor ?_ | refine atAssignComp ?_ | refine atComp ?_ | refine atTry ?_ | refine atAppend ?_ | refine atList ?_ | refine atTwo ?_ | refine atCall ?_ | refine atLen ?_ | refine atItem ?_)); first | (k_unfold; (try dsimp only)) | (k_end; wrow_close) | walk1 | (dsimp only; walk1) | (leave1; try dsimp only)))
            refine item_listL (l := pv) ⟨_, (N₁ (a, listOf pv.toArray k9) (by simp)).1, rfl, _, rfl⟩ (by omega) (by omega) hpvz ?_
            (repeat' ((fail_if_success (with_reducible first | refine atWhile ?_ | refine atRaise ?_ | refine atFor ?_ | refine atAssignComp ?_ | refine atComp ?_ | refine atTry ?_ | refine atAppend ?_ | refine atList ?_ | refine atTwo ?_ | refine atCall ?_ | refine atLen ?_ | refine atItem ?_)); first | (k_unfold; (try dsimp only)) | (k_end; wrow_close) | walk1 | (dsimp only; walk1) | (leave1; try dsimp only)))
            refine' Fn.useX (show_set_ok pc (.ref t0)) ?k1 ?k2 ?k3 ?k4 ?k5 ?k6 ?k7 ⟨⟨t0, tv, rfl, ⟨_, (N₁ (t0, { cls := .type "tuple", data := .seq (List.toArray tv) k0 }) (by simp [hm0])).1, rfl, _, rfl⟩, hp0.keeps F₂.keep⟩, goodpc, hpcn⟩ ?_ ?k9
            ((case k1 | k2 | k3 | k4 | k5 => k_asm); (case k6 | k7 => omega); (case k9 => exact rfl))
            rintro v' h' tk' st' F' N' ⟨t', rfl⟩
            (repeat' ((fail_if_success (with_reducible first | refine atWhile ?_ | refine atRaise ?_ | refine atFor ?_ | refine atAssignComp ?_ | refine atComp ?_ | refine atTry ?_ | refine atAppend ?_ | refine atList ?_ | refine atTwo ?_ | refine atCall ?_ | refine atLen ?_ | refine atItem ?_)); first | (k_unfold; (try dsimp only)) | (k_end; wrow_close) | walk1 | (dsimp only; walk1) | (leave1; try dsimp only)))
            rename_i h4 F4 N4
            refine item_listL (l := pv) ⟨_, (N4 (a, listOf pv.toArray k9) (by simp)).1, rfl, _, rfl⟩ (by omega) (by omega) hpvz ?_
            (repeat' ((fail_if_success (with_reducible first | refine atWhile ?_ | refine atRaise ?_ | refine atFor ?_ | refine atAssignComp ?_ | refine atComp ?_ | refine atTry ?_ | refine atAppend ?_ | refine atList ?_ | refine atTwo ?_ | refine atCall ?_ | refine atLen ?_ | refine atItem ?_)); first | (k_unfold; (try dsimp only)) | (k_end; wrow_close) | walk1 | (dsimp only; walk1) | (leave1; try dsimp only)))
            rename_i D7 h7 F7 N8 q7
            refine eq_set_nil ⟨t0, tv, rfl, ⟨_, (N8 (t0, { cls := .type "tuple", data := .seq (List.toArray tv) k0 }) (by simp [hm0])).1, rfl, _, rfl⟩, hp0.keeps F7.keep⟩ hgr.1 ⟨D7, [], rfl, ⟨_, (N8 _ (List.Mem.head _)).1, rfl, _, rfl⟩, .nil⟩ (by show un + 3 + 64 < cLine; omega) ?_
            (repeat' ((fail_if_success (with_reducible first | refine atWhile ?_ | refine atRaise ?_ | refine atFor ?_ | refine atAssignComp ?_ | refine atComp ?_ | refine atTry ?_ | refine atAppend ?_ | refine atList ?_ | refine atTwo ?_ | refine atCall ?_ | refine atLen ?_ | refine atItem ?_)); first | (k_unfold; (try dsimp only)) | (k_end; wrow_close) | walk1 | (dsimp only; walk1) | (leave1; try dsimp only)))
            refine PyProof.Rows.len_list (items := pv.toArray) ⟨_, (N8 (a, listOf pv.toArray k9) (by simp)).1, rfl, _, rfl⟩ (by rw [List.size_toArray]; omega) ?_
            rw [List.size_toArray]
            (repeat' ((fail_if_success (with_reducible first | refine atWhile ?_ | refine atRaise ?_ | refine atFor ?_ | refine atAssignComp ?_ | refine atComp ?_ | refine atTry ?_ | refine atAppend ?_ | refine atList ?_ | refine atTwo ?_ | refine atCall ?_ | refine atLen ?_ | refine atItem ?_)); first | (k_unfold; (try dsimp only)) | (k_end; wrow_close) | walk1 | (dsimp only; walk1) | (leave1; try dsimp only)))
            · rename News _ _ _ _ => N5
              have hi1 : i + 1 < pv.length := by omega
              obtain ⟨t1, tv1, pc1, k1, hpv1, hmem1, hp1, hpi1⟩ : ∃ t1 tv1 pc1 k1, pv[i + 1]? = some (Value.ref t1) ∧ (t1, ({ cls := .type "tuple", data := .seq (List.toArray tv1) k1 } : Obj)) ∈ led' ∧ PairsAt s.heap tv1 pc1 ∧ (splitOf width ps)[i + 1]? = some pc1 := by
                obtain ⟨t1, tv1, pc1, k1, e, r⟩ := hpin'.get.2 (i + 1) _ (List.getElem?_eq_getElem hi1)
                exact ⟨t1, tv1, pc1, k1, by rw [List.getElem?_eq_getElem hi1, e], r⟩
              have hgr1 := greedy_at hgre hpi1
              obtain ⟨p1, r1, rfl⟩ : ∃ p1 r1, pc1 = p1 :: r1 := by
                cases pc1 with
                | nil => exact absurd rfl hgr1.1
                | cons p r => exact ⟨p, r, rfl⟩
              have hwid := hgr.2.2 _ _ hpi1 rfl
              have good1 : GoodP p1 := hg p1 (hflat ▸ List.mem_flatten.mpr ⟨_, List.mem_of_getElem? hpi1, .head _⟩)
              have htv1 : 0 < tv1.length := by rw [hp1.length]; simp
              obtain ⟨v0, hv0⟩ : ∃ v0, tv1[0]? = some v0 := ⟨_, List.getElem?_eq_getElem htv1⟩
              obtain ⟨a1, p1', tq, uq, rfl, hpq, hpt1⟩ := hp1.get hv0
              obtain rfl : p1 = p1' := by simpa using hpq
              refine item_listL (l := pv) ⟨_, (N5 (a, listOf pv.toArray k9) (by simp)).1, rfl, _, rfl⟩ (by omega) (by omega) (x := .ref t1) (by rw [show ((0 : Int) + (i : Int) + 1).toNat = i + 1 by omega]; exact hpv1) ?_
              (repeat' ((fail_if_success (with_reducible first | refine atWhile ?_ | refine atRaise ?_ | refine atFor ?_ | refine atAssignComp ?_ | refine atComp ?_ | refine atTry ?_ | refine atAppend ?_ | refine atList ?_ | refine atTwo ?_ | refine atCall ?_ | refine atLen ?_ | refine atItem ?_)); first | (k_unfold; (try dsimp only)) | (k_end; wrow_close) | walk1 | (dsimp only; walk1) | (leave1; try dsimp only)))
              refine item_tupleR (items := tv1.toArray) ⟨_, (N5 (t1, { cls := .type "tuple", data := .seq (List.toArray tv1) k1 }) (by simp [hmem1])).1, rfl, _, rfl⟩ (by omega) (by omega) (seq_zero (by rw [List.size_toArray]; exact htv1)) (by simpa using hv0) ?_
              (repeat' ((fail_if_success (with_reducible first | refine atWhile ?_ | refine atRaise ?_ | refine atFor ?_ | refine atAssignComp ?_ | refine atComp ?_ | refine atTry ?_ | refine atAppend ?_ | refine atList ?_ | refine atTwo ?_ | refine atCall ?_ | refine atLen ?_ | refine atItem ?_)); first | (k_unfold; (try dsimp only)) | (k_end; wrow_close) | walk1 | (dsimp only; walk1) | (leave1; try dsimp only)))
              refine' Fn.useX (law_shown_ok a1 p1.1 p1.2 tq uq) ?k1 ?k2 ?k3 ?k4 ?k5 ?k6 ?k7 ⟨hpt1.keeps (Fr.keep (by assumption)), good1⟩ ?_ ?k9
              ((case k1 | k2 | k3 | k4 | k5 => k_asm); (case k6 | k7 => omega); (case k9 => exact rfl))
              rintro v' h' tk' st' F' N' ⟨t', rfl, hl21⟩
              have hplen1 : plen p1 = ((S (showPair (p1.1, p1.2))).length : Int) := rfl
              (repeat' ((fail_if_success (with_reducible first | refine atWhile ?_ | refine atRaise ?_ | refine atFor ?_ | refine atAssignComp ?_ | refine atComp ?_ | refine atTry ?_ | refine atAppend ?_ | refine atList ?_ | refine atTwo ?_ | refine atCall ?_ | refine atLen ?_ | refine atItem ?_)); first | (k_unfold; (try dsimp only)) | (k_end; wrow_close) | walk1 | (dsimp only; walk1) | (leave1; try dsimp only)))
              rename News _ _ _ _ => N5
              rename Fr _ _ _ _ => F5
              exact ForStep.mk F5 (news_sub N5 (fun p hp => by simp only [List.mem_cons] at hp ⊢; rcases hp with hp | hp | hp | hp | hp <;> simp [hp])) ⟨rfl, rfl⟩
            · rename News _ _ _ _ => N5
              rename Fr _ _ _ _ => F5
              exact ForStep.mk F5 (news_sub N5 (fun p hp => by simp only [List.mem_cons] at hp ⊢; rcases hp with hp | hp | hp | hp | hp <;> simp [hp])) ⟨rfl, rfl⟩
          · rintro h' tk m' news' F₁ N₁ ⟨rfl, _⟩
            (repeat' ((fail_if_success (with_reducible first | refine atWhile ?_ | refine atRaise ?_ | refine atFor ?_ | refine atAssignComp ?_ | refine atComp ?_ | refine atTry ?_ | refine atAppend ?_ | refine atList ?_ | refine atTwo ?_ | refine atCall ?_ | refine atLen ?_ | refine atItem ?_)); first | (k_unfold; (try dsimp only)) | (k_end; wrow_close) | walk1 | (dsimp only; walk1) | (leave1; try dsimp only)))
            exact k _ h' tk (fun b o q => F₁.keep b o (B.stays b o q)) (Held.of_keeps F₁.keep) rfl
        · intro v' s' hup
          exact Up.over hup (fun _ _ q => q) (fun _ q => q) (fun st q => .inr (.inl q))
      · rintro e p g' h' tk' dx vs' od sl u ⟨i, rfl, hWi⟩ hbs hHeld hff F' N' hat
        rcases hwide with ⟨_, hno⟩ | ⟨f, uf, r, rfl, hWf⟩
        · obtain ⟨⟨q, hq, hw⟩, _⟩ := hWi
          have := hno i q (List.getElem?_eq_some_iff.mp hq).1 hq
          omega
        obtain rfl := wideAt_uniq hWi hWf
        have X' := XB.keeps hbs
        have T' := TB.keeps hbs
        (repeat' ((fail_if_success (with_reducible first | refine atWhile ?_ | refine atRaise ?_ | refine atFor ?_ | refine atAssignComp ?_ | refine atComp ?_ | refine atTry ?_ | refine atAppend ?_ | refine atList ?_ | refine atTwo ?_)); first | (k_unfold; (try dsimp only)) | (k_end; wrow_close) | walk1 | (dsimp only; walk1) | (leave1; try dsimp only)))
        rename_i l7 h7 F7 N7 q7
        refine ne_nil_list N7 (List.Mem.tail _ (List.Mem.tail _ (List.Mem.tail _ (List.Mem.head _)))) (List.Mem.head _) hyi (by show un + 3 + 64 < cLine; omega) ?_
        (repeat' ((fail_if_success (with_reducible first | refine atWhile ?_ | refine atRaise ?_ | refine atFor ?_ | refine atAssignComp ?_ | refine atComp ?_ | refine atTry ?_ | refine atAppend ?_ | refine atList ?_ | refine atTwo ?_)); first | (k_unfold; (try dsimp only)) | (k_end; wrow_close) | walk1 | (dsimp only; walk1) | (leave1; try dsimp only)))
        refine exc_at (X'.keeps F7.keep) (I := ⟨(N7 _ (List.Mem.tail _ (List.Mem.head _))).1, rfl, rfl, (N7 _ (List.Mem.tail _ (List.Mem.tail _ (List.Mem.head _)))).1⟩) hat ?_
        (repeat' ((fail_if_success (with_reducible first | refine atWhile ?_ | refine atRaise ?_ | refine atFor ?_ | refine atAssignComp ?_ | refine atComp ?_ | refine atTry ?_ | refine atAppend ?_ | refine atList ?_ | refine atTwo ?_)); first | (k_unfold; (try dsimp only)) | (k_end; wrow_close) | walk1 | (dsimp only; walk1) | (leave1; try dsimp only)))
        refine CatchEnd.mk F7 (fun h5 tk5 st5 => ?_)
        refine k _ h5 tk5 (fun b o q => st5 b o (hbs b o q)) (hHeld.stays st5) ?_
        simp
end

section
open PySem PySem.W PySem.Calls PyProof.Rows
theorem digits_lt : ∀ (cs : List Nat) (a : Nat), (∀ c ∈ cs, isD c = true) → cs.foldl (fun acc c => acc * 10 + (c - 48)) a < (a + 1) * 10 ^ cs.length
  | [], a, _ => by simp
  | c :: cs, a, h => by
    rw [List.foldl_cons]
    have hc := h c (.head _)
    have hc9 : c ≤ 57 := by
      unfold isD at hc
      rw [Bool.and_eq_true] at hc
      exact of_decide_eq_true hc.2
    refine Nat.lt_of_lt_of_le (digits_lt cs (a * 10 + (c - 48)) fun d hd => h d (.tail _ hd)) ?_
    rw [List.length_cons, Nat.pow_succ, Nat.mul_comm (10 ^ cs.length) 10, ← Nat.mul_assoc]
    exact Nat.mul_le_mul_right _ (by omega)
theorem dig_val_len (cs : List Nat) (h : ∀ c ∈ cs, isD c = true) (hne : cs ≠ []) : (dig ((PySem.NumText.digitsVal cs : Nat) : Int)).length ≤ cs.length := by
  rw [dig_nat, List.length_map]
  have := digits_lt cs 0 h
  rw [Nat.zero_add, Nat.one_mul] at this
  exact (Nat.length_toDigits_le_iff (by decide) (List.length_pos_iff.mpr hne)).mpr this
theorem readEnd_show_len {l : List Nat} {i j : Nat} {n : Int} (h : readEnd l i = some (n, j)) : i + (showEnd n).length ≤ j := by
  unfold readEnd at h
  split at h
  · cases h; simp [showEnd]
  · split at h
    · cases h
    · rename_i h2
      cases h
      have hne : (l.drop i).takeWhile isD ≠ [] := fun e => h2 (.inl e)
      have := dig_val_len ((l.drop i).takeWhile isD) (fun c hc => all_takeWhile c hc) hne
      have hp := List.length_pos_iff.mpr hne
      unfold showEnd
      split
      · simp; omega
      · omega
theorem readPair_show_len {l : List Nat} {i j : Nat} {p : Int × Int} (h : readPair l i = .ok (p, j)) : i + (showPair p).length ≤ j := by
  unfold readPair at h
  split at h
  · cases h
  · rename_i lo j1 h1
    have a := readEnd_show_len h1
    split at h
    · split at h
      · cases h
      · rename_i hi k h2
        have b := readEnd_show_len h2
        cases h
        unfold showPair
        split
        · simp only [] at *; omega
        · simp only [List.length_append, List.length_cons, List.length_nil]; omega
    · cases h
      unfold showPair
      rw [if_pos rfl]; exact a
theorem showSet_snoc_len : ∀ (ps : List (Int × Int)) (p : Int × Int), ps ≠ [] → (showSet (ps ++ [p])).length = (showSet ps).length + 1 + (showPair p).length
  | [], _, h => absurd rfl h
  | [a], p, _ => by simp [showSet]; omega
  | a :: b :: r, p, _ => by
    have ih := showSet_snoc_len (b :: r) p (by simp)
    have e1 : showSet ((a :: b :: r) ++ [p]) = showPair a ++ (44 :: showSet ((b :: r) ++ [p])) := by simp [showSet]
    have e2 : showSet (a :: b :: r) = showPair a ++ (44 :: showSet (b :: r)) := by simp [showSet]
    rw [e1, e2, List.length_append, List.length_append, List.length_cons, List.length_cons, ih]
    omega
theorem readFrom_show_len {l : List Nat} : ∀ (n i : Nat) (acc ps : List (Int × Int)), (acc = [] ∨ (acc ≠ [] ∧ (showSet acc).length + 1 ≤ i)) → readFrom l n i acc = .ok ps → (showSet ps).length ≤ l.length
  | 0, _, _, _, _, h => by cases h
  | n + 1, i, acc, ps, ha, h => by
    rw [readFrom] at h
    split at h
    · cases h
    · rename_i p j hp
      have a := readPair_show_len hp
      have b := (readPair_le hp).2.1
      have c : (showSet (acc ++ [p])).length ≤ j := by
        rcases ha with rfl | ⟨h1, h2⟩
        · simp only [List.nil_append, showSet]; omega
        · rw [showSet_snoc_len acc p h1]; omega
      split at h
      · cases h; omega
      · split at h
        · exact readFrom_show_len n (j + 1) (acc ++ [p]) ps (.inr ⟨by simp, by omega⟩) h
        · cases h
theorem readSet_show_len {l : List Nat} {ps : List (Int × Int)} (h : readSet l = .ok ps) : (showSet ps).length ≤ l.length := readFrom_show_len _ _ _ _ (.inl rfl) h
end

section
open PySem PySem.W PySem.Calls PyProof.Rows
set_option maxRecDepth 100000
set_option maxHeartbeats 8000000

theorem fr4 {h₀ h : Heap} {L : Addr} {m : Str → Option Value} {a b c d : Str} {x y z q : Option Value} (F : Fr h₀ L h m) (ha : m a = x) (hb : m b = y) (hc : m c = z) (hd : m d = q) : Fr h₀ L h (fun s => if s = a then x else if s = b then y else if s = c then z else if s = d then q else m s) := by
  have e : (fun s => if s = a then x else if s = b then y else if s = c then z else if s = d then q else m s) = m := by
    funext s
    split
    · rename_i h; rw [h, ha]
    · split
      · rename_i h; rw [h, hb]
      · split
        · rename_i h; rw [h, hc]
        · split
          · rename_i h; rw [h, hd]
          · rfl
  rw [e]; exact F

noncomputable def runVal (l : List Nat) (i q : Nat) : Nat := PySem.NumText.digitsVal ((l.drop i).take q)
noncomputable def EndJ (l : List Nat) (i : Nat) (t1 t2 : Tok) (k : Nat) (m : Str → Option Value) (nx : List (Addr × Obj)) : Prop :=
  ∃ (q : Nat) (u1 u2 : Tok) (num : Int), nx = [] ∧ m (Str.ofString "text") = some (.str (S l) t1) ∧ m (Str.ofString "at") = some (.int ((i : Nat) : Int) t2) ∧ m (Str.ofString "end") = some (.int (((i + q : Nat)) : Int) u1) ∧ m (Str.ofString "number") = some (.int num u2) ∧
    num = min ((runVal l i q : Nat) : Int) 4294967296 ∧ i + q ≤ l.length ∧ k = l.length - i - q ∧ (∀ c ∈ (l.drop i).take q, isD c = true)

theorem isD_iff (c : Nat) : isD c = true ↔ 48 ≤ c ∧ c ≤ 57 := by
  unfold isD
  rw [Bool.and_eq_true, decide_eq_true_eq, decide_eq_true_eq]
theorem takeWhile_stop {p : Nat → Bool} : ∀ {r : List Nat} {q : Nat}, q ≤ r.length → (∀ c ∈ r.take q, p c = true) → (∀ c, r[q]? = some c → p c = false) → r.takeWhile p = r.take q
  | [], q, _, _, _ => by simp
  | a :: r, 0, _, _, hs => by
    rw [List.takeWhile_cons, hs a rfl]; rfl
  | a :: r, q + 1, hq, hD, hs => by
    rw [List.takeWhile_cons, hD a (by simp), if_pos rfl, List.take_succ_cons]
    rw [takeWhile_stop (r := r) (q := q) (by simpa using hq) (fun c hc => hD c (by rw [List.take_succ_cons]; exact .tail _ hc)) (fun c hc => hs c (by simpa using hc))]
theorem run_end {l : List Nat} {i q : Nat} (hq : i + q ≤ l.length) (hD : ∀ c ∈ (l.drop i).take q, isD c = true) (hs : ∀ c, l[i + q]? = some c → isD c = false) : (l.drop i).takeWhile isD = (l.drop i).take q :=
  takeWhile_stop (by rw [List.length_drop]; omega) hD fun c hc => hs c (by rw [List.getElem?_drop] at hc; exact hc)
theorem run_more {l : List Nat} {i q c : Nat} (hc : l[i + q]? = some c) : (l.drop i).take (q + 1) = (l.drop i).take q ++ [c] := by
  rw [List.take_add_one, List.getElem?_drop, hc]
  rfl
theorem val_more {l : List Nat} {i q c : Nat} (hc : l[i + q]? = some c) : runVal l i (q + 1) = runVal l i q * 10 + (c - 48) := by
  unfold runVal PySem.NumText.digitsVal
  rw [run_more hc, List.foldl_append]
  rfl
theorem re_none {l : List Nat} {i q : Nat} (hns : ¬ l[i]? = some 42) (hx : (l.drop i).takeWhile isD = (l.drop i).take q) (h : q = 0 ∨ l[i]? = some 48 ∨ 4294967295 < runVal l i q) : readEnd l i = none := by
  unfold readEnd
  rw [if_neg hns, if_pos]
  rw [hx]
  rcases h with h | h | h
  · left; rw [h]; rfl
  · right; left; exact h
  · right; right; exact h
theorem re_some {l : List Nat} {i q : Nat} {n : Int} (hns : ¬ l[i]? = some 42) (hx : (l.drop i).takeWhile isD = (l.drop i).take q) (hq : i + q ≤ l.length) (h1 : q ≠ 0) (h2 : ¬ l[i]? = some 48) (h3 : ¬ 4294967295 < runVal l i q) (hn : n = ((runVal l i q : Nat) : Int)) : readEnd l i = some (n, i + q) := by
  unfold readEnd
  have hl : ((l.drop i).take q).length = q := by rw [List.length_take, List.length_drop]; omega
  rw [if_neg hns, if_neg, hx, hl, hn]
  · rfl
  · rw [hx]
    rintro (h | h | h)
    · rw [h] at hl; exact h1 hl.symm
    · exact h2 h
    · exact h3 h
theorem lt_zero (c : Nat) : ((S [c]).cps.toList < (Str.ofString "0").cps.toList) ↔ c < 48 := by
  rw [S_zero, S_cps, S_cps]
  simp [List.cons_lt_cons_iff]
theorem gt_nine (c : Nat) : ((Str.ofString "9").cps.toList < (S [c]).cps.toList) ↔ 57 < c := by
  have e : Str.ofString "9" = S [57] := by decide +kernel
  rw [e, S_cps, S_cps]
  simp [List.cons_lt_cons_iff]

theorem endJ_next {l : List Nat} {i q c : Nat} {t1 t2 u1 u2 : Tok} {z num num' : Int} {x : Str} {m : Str → Option Value} (h1 : m (Str.ofString "text") = some (.str (S l) t1)) (h2 : m (Str.ofString "at") = some (.int ((i : Nat) : Int) t2)) (h3 : m (Str.ofString "end") = some (.int z u1)) (hz : z = ((i + q : Nat) : Int) + 1)
    (h4 : m (Str.ofString "number") = some (.int num' u2)) (hx : x = S [c]) (hn : num' = if 4294967295 + 1 < num * 10 + ((x.cps.getD 0 0 : Nat) : Int) - 48 then 4294967295 + 1 else num * 10 + ((x.cps.getD 0 0 : Nat) : Int) - 48) (hnum : num = min ((runVal l i q : Nat) : Int) 4294967296)
    (hc : l[i + q]? = some c) (hcD : 48 ≤ c ∧ c ≤ 57) (hlt : i + q < l.length) (hD : ∀ c ∈ (l.drop i).take q, isD c = true) : EndJ l i t1 t2 (l.length - i - (q + 1)) m [] := by
  have e8 : x.cps.getD 0 0 = c := by rw [hx]; rfl
  have e7 := val_more hc
  have e9 : ((i + (q + 1) : Nat) : Int) = z := by omega
  refine ⟨q + 1, u1, u2, num', rfl, h1, h2, ?_, h4, ?_, by omega, rfl, ?_⟩
  · rw [e9]; exact h3
  · rw [e8] at hn
    rw [hn]
    split <;> omega
  · intro c' hc'
    rw [run_more hc] at hc'
    rcases List.mem_append.mp hc' with h | h
    · exact hD c' h
    · rw [List.mem_singleton.mp h]; exact (isD_iff c).mpr hcD
theorem read_end_ok {prog : Program} {w : World} (l : List Nat) (i : Nat) (z : Int) (t1 t2 : Tok) (hz : z = i) : FnE prog w 68 [.str (S l) t1, .int z t2] 4 (fun _ => i ≤ l.length ∧ (S l).length ≤ 1000)
    (fun v h => ∃ a n j u1 u2, v = .ref a ∧ IsTup h a #[.int n u1, .int (j : Nat) u2] ∧ readEnd l i = some (n, j)) (fun p => p = i ∧ readEnd l i = none) := by
  subst hz
  intro dp un gd outer base mean mg mb s R B X T hdp hu ⟨h1, h2⟩ k ke
  refine' enterE (binds := [(Str.ofString "text", .str (S l) t1), (Str.ofString "at", .int i t2)]) B ?k1 ?k2 ke ?k3 ?k4 ?k5 ?k6 ?k7 ?_ ?c1 ?c2 ?c3 ?c
  k_dflt (((case k1 | k2 => k_asm); (case k3 | k4 => k_is); (case k5 => omega); (case k6 => exact BindsTo.of_eq rfl); (case k7 => exact locs rfl); (case c => decide); (case c1 | c2 | c3 => exact rfl)))
  intro L h₁ F N
  have hlen : (S l).length = l.length := S_len l
  (repeat' ((fail_if_success (with_reducible first | refine atWhile ?_ | refine atRaise ?_ | refine atFor ?_ | refine atAssignComp ?_ | refine atComp ?_ | refine atTry ?_)); first | (k_unfold; (try dsimp only)) | (k_end; wrow_close) | walk1 | (dsimp only; walk1) | (leave1; try dsimp only)))
  · have hs : l[i]? = some 42 := by
      have q := item_is (l := l) (i := i) (d := 42) (by omega)
      rw [← S_star] at q
      simp_all
    refine k _ _ _ (Fr.keep (by assumption)) ⟨_, _, i + 1, _, _, rfl, news_tup (by assumption) (List.Mem.head _), ?_⟩
    rw [readEnd, if_pos hs]
  all_goals
    have hns : ¬ l[i]? = some 42 := by
      by_cases hi : i < l.length
      · have q := item_is (l := l) (i := i) (d := 42) hi
        rw [← S_star] at q
        simp_all
      · rw [List.getElem?_eq_none (by omega)]; simp
    rename_i F' N'
    refine While_inv2 (EndJ l i t1 t2) F' N' ⟨0, _, _, 0, rfl, rfl, rfl, rfl, rfl, (by show (0 : Int) = min 0 4294967296; omega), by omega, rfl, by simp⟩ ?_ (up_passes rfl rfl)
    rintro n m₁ nx h₁' tk₁ F₁ N₁ ⟨q, u1, u2, num, rfl, hm1, hm2, hm3, hm4, hnum, hq, rfl, hD⟩
    have F₂ := fr4 F₁ hm1 hm2 hm3 hm4
    clear F₁
    have hz48 : i < l.length → ((Txt.item (S l) (i : Int) == Str.ofString "0") = decide (l[i]? = some 48)) := fun hi => by rw [S_zero, item_is hi]
    have hstop : ((∀ c, l[i + q]? = some c → isD c = false) ∧ (i + q < l.length → ∃ c, Txt.item (S l) ((i + q : Nat) : Int) = S [c] ∧ ¬ (48 ≤ c ∧ c ≤ 57))) ∨ ∃ c, l[i + q]? = some c ∧ (48 ≤ c ∧ c ≤ 57) ∧ i + q < l.length ∧ Txt.item (S l) ((i + q : Nat) : Int) = S [c] := by
      cases hc : l[i + q]? with
      | none => left; exact ⟨fun c h => (by cases h), fun h => absurd (List.getElem?_eq_none_iff.mp hc) (by omega)⟩
      | some c =>
        cases hd : isD c with
        | false => left; exact ⟨fun c' h => (by cases h; exact hd), fun _ => ⟨c, item_at hc, fun q => by rw [(isD_iff c).mpr q] at hd; cases hd⟩⟩
        | true => exact .inr ⟨c, rfl, (isD_iff c).mp hd, (List.getElem?_eq_some_iff.mp hc).1, item_at hc⟩
    rcases hstop with ⟨hst, hno⟩ | ⟨c, hc, hcD, hlt, hit⟩
  · have hx := run_end hq hD hst
    (repeat' ((fail_if_success (with_reducible first | refine atWhile ?_ | refine atRaise ?_ | refine atFor ?_ | refine atAssignComp ?_ | refine atComp ?_ | refine atTry ?_)); first | (k_unfold; (try dsimp only)) | (k_end; wrow_close) | walk1 | (dsimp only; walk1) | (leave1; try dsimp only)))
    all_goals
      first
      | (clear hno
         refine fault_Raise rfl ?_
         (repeat' ((fail_if_success (with_reducible first | refine atWhile ?_ | refine atRaise ?_ | refine atFor ?_ | refine atAssignComp ?_ | refine atComp ?_ | refine atTry ?_)); first | (k_unfold; (try dsimp only)) | (k_end; wrow_close) | walk1 | (dsimp only; walk1) | (leave1; try dsimp only)))
         refine fault_call (X.keeps (Fr.keep (by assumption))) (T.keeps (Fr.keep (by assumption))) (by show dp + 1 + 3 < recursionLimit; omega) (by show un + 3 + 30 < cLine; omega) ?_
         intro h' e tk hF
         have hF2 := hF
         obtain ⟨t, dx, es, n, u, hg, hdx, _⟩ := hF2.at_
         refine ⟨e, t, dx, rfl, (X.keeps (Fr.keep (by assumption))).keeps hF.keeps, hg, up_raised B (by assumption) hF ⟨rfl, ?_⟩⟩
         refine re_none hns hx ?_
         first | (left; omega) | (right; right; omega) | (right; left; exact of_decide_eq_true ((hz48 (by omega)).symm.trans (by assumption))))
      | (have hA : ¬ ((Txt.item (S l) ((i + q : Nat) : Int)).cps.toList < (Str.ofString "0").cps.toList) := by assumption
         have hB : ¬ ((Str.ofString "9").cps.toList < (Txt.item (S l) ((i + q : Nat) : Int)).cps.toList) := by assumption
         exfalso
         obtain ⟨c, hit, hcD⟩ := hno (by omega)
         rw [hit, lt_zero] at hA
         rw [hit, gt_nine] at hB
         omega)
      | (clear hno
         refine k _ _ _ (Fr.keep (by assumption)) ⟨_, num, i + q, _, _, rfl, news_tup (by assumption) (List.Mem.head _), ?_⟩
         refine re_some hns hx hq (by omega) ?_ (by omega) (by omega)
         exact of_decide_eq_false ((hz48 (by omega)).symm.trans (by assumption)))
      | skip
  · (repeat' ((fail_if_success (with_reducible first | refine atWhile ?_ | refine atRaise ?_ | refine atFor ?_ | refine atAssignComp ?_ | refine atComp ?_ | refine atTry ?_)); first | (k_unfold; (try dsimp only)) | (k_end; wrow_close) | walk1 | (dsimp only; walk1) | (leave1; try dsimp only)))
    all_goals
      first
      | (exfalso; omega)
      | (exfalso
         have hA : ((Txt.item (S l) ((i + q : Nat) : Int)).cps.toList < (Str.ofString "0").cps.toList) := by assumption
         rw [hit, lt_zero] at hA
         omega)
      | (exfalso
         have hB : ((Str.ofString "9").cps.toList < (Txt.item (S l) ((i + q : Nat) : Int)).cps.toList) := by assumption
         rw [hit, gt_nine] at hB
         omega)
      | (exact ⟨_, _, _, _, l.length - i - (q + 1), rfl, by assumption, by assumption, by omega, endJ_next rfl rfl rfl rfl rfl hit rfl hnum hc hcD hlt hD⟩)
      | skip
  · have hx := run_end hq hD hst
    (repeat' ((fail_if_success (with_reducible first | refine atWhile ?_ | refine atRaise ?_ | refine atFor ?_ | refine atAssignComp ?_ | refine atComp ?_ | refine atTry ?_)); first | (k_unfold; (try dsimp only)) | (k_end; wrow_close) | walk1 | (dsimp only; walk1) | (leave1; try dsimp only)))
    all_goals
      first
      | (clear hno
         refine fault_Raise rfl ?_
         (repeat' ((fail_if_success (with_reducible first | refine atWhile ?_ | refine atRaise ?_ | refine atFor ?_ | refine atAssignComp ?_ | refine atComp ?_ | refine atTry ?_)); first | (k_unfold; (try dsimp only)) | (k_end; wrow_close) | walk1 | (dsimp only; walk1) | (leave1; try dsimp only)))
         refine fault_call (X.keeps (Fr.keep (by assumption))) (T.keeps (Fr.keep (by assumption))) (by show dp + 1 + 3 < recursionLimit; omega) (by show un + 3 + 30 < cLine; omega) ?_
         intro h' e tk hF
         have hF2 := hF
         obtain ⟨t, dx, es, n, u, hg, hdx, _⟩ := hF2.at_
         refine ⟨e, t, dx, rfl, (X.keeps (Fr.keep (by assumption))).keeps hF.keeps, hg, up_raised B (by assumption) hF ⟨rfl, ?_⟩⟩
         refine re_none hns hx ?_
         first | (left; omega) | (right; right; omega) | (right; left; exact of_decide_eq_true ((hz48 (by omega)).symm.trans (by assumption))))
      | (have hA : ¬ ((Txt.item (S l) ((i + q : Nat) : Int)).cps.toList < (Str.ofString "0").cps.toList) := by assumption
         have hB : ¬ ((Str.ofString "9").cps.toList < (Txt.item (S l) ((i + q : Nat) : Int)).cps.toList) := by assumption
         exfalso
         obtain ⟨c, hit, hcD⟩ := hno (by omega)
         rw [hit, lt_zero] at hA
         rw [hit, gt_nine] at hB
         omega)
      | (clear hno
         refine k _ _ _ (Fr.keep (by assumption)) ⟨_, num, i + q, _, _, rfl, news_tup (by assumption) (List.Mem.head _), ?_⟩
         refine re_some hns hx hq (by omega) ?_ (by omega) (by omega)
         exact of_decide_eq_false ((hz48 (by omega)).symm.trans (by assumption)))
      | skip
  · (repeat' ((fail_if_success (with_reducible first | refine atWhile ?_ | refine atRaise ?_ | refine atFor ?_ | refine atAssignComp ?_ | refine atComp ?_ | refine atTry ?_)); first | (k_unfold; (try dsimp only)) | (k_end; wrow_close) | walk1 | (dsimp only; walk1) | (leave1; try dsimp only)))
    all_goals
      first
      | (exfalso; omega)
      | (exfalso
         have hA : ((Txt.item (S l) ((i + q : Nat) : Int)).cps.toList < (Str.ofString "0").cps.toList) := by assumption
         rw [hit, lt_zero] at hA
         omega)
      | (exfalso
         have hB : ((Str.ofString "9").cps.toList < (Txt.item (S l) ((i + q : Nat) : Int)).cps.toList) := by assumption
         rw [hit, gt_nine] at hB
         omega)
      | (exact ⟨_, _, _, _, l.length - i - (q + 1), rfl, by assumption, by assumption, by omega, endJ_next rfl rfl rfl rfl rfl hit rfl hnum hc hcD hlt hD⟩)
      | skip
end

section
open PySem PySem.W PySem.Calls PyProof.Rows
set_option maxRecDepth 100000
set_option maxHeartbeats 8000000

theorem read_end_some {prog : Program} {w : World} {l : List Nat} {i j : Nat} {n z : Int} {t1 t2 : Tok} (h : readEnd l i = some (n, j)) (hz : z = i) : Fn prog w 68 [.str (S l) t1, .int z t2] 4 (fun _ => i ≤ l.length ∧ (S l).length ≤ 1000) (fun v h => ∃ a u1 u2, v = .ref a ∧ IsTup h a #[.int n u1, .int (j : Nat) u2]) := by
  intro dp un gd outer base mean mg mb s R B X T hd hu p k
  refine read_end_ok l i z t1 t2 hz dp un gd outer base mean mg mb s R B X T hd hu p (fun v h' tk' st q => k v h' tk' st ?_) fun v s' q => ?_
  · obtain ⟨a, n', j', u1, u2, e, ht, he⟩ := q
    rw [h] at he
    cases he
    exact ⟨a, u1, u2, e, ht⟩
  · obtain ⟨_, _, _, _, _, _, _, _, _, _, _, hn⟩ := q
    rw [h] at hn
    cases hn
theorem read_end_none {prog : Program} {w : World} {l : List Nat} {i : Nat} {z : Int} {t1 t2 : Tok} (h : readEnd l i = none) (hz : z = i) : FnE prog w 68 [.str (S l) t1, .int z t2] 4 (fun _ => i ≤ l.length ∧ (S l).length ≤ 1000) (fun _ _ => False) (fun p => p = i) := by
  intro dp un gd outer base mean mg mb s R B X T hd hu p k ke
  refine read_end_ok l i z t1 t2 hz dp un gd outer base mean mg mb s R B X T hd hu p (fun v h' tk' st q => ?_) fun v s' q => ke v s' ?_
  · obtain ⟨a, n', j', u1, u2, e, ht, he⟩ := q
    rw [h] at he
    cases he
  · obtain ⟨e, p, st, h', tk', h1, h2, h3, h4, h5, h7⟩ := q
    exact ⟨e, p, st, h', tk', h1, h2, h3, h4, h5, h7.1⟩
noncomputable def ErrSet (l : List Nat) (p : Int) : Prop := ∃ q : Nat, p = q ∧ readSet l = .error q
theorem read_set_ok {prog : Program} {w : World} (H : Heap) (l : List Nat) (t1 : Tok) : FnE prog w 75 [.str (S l) t1] 6 (fun h => h = H ∧ (S l).length ≤ 1000) (fun v h => ∃ ps led, readSet l = .ok ps ∧ FreshIn H h led ∧ SetIn led v ps) (ErrSet l) := by
  intro dp un gd outer base mean mg mb s R B X T hdp hu ⟨hH, h2⟩ k ke
  subst hH
  refine' enterE (binds := [(Str.ofString "text", .str (S l) t1)]) B ?k1 ?k2 ke ?k3 ?k4 ?k5 ?k6 ?k7 ?_ ?c1 ?c2 ?c3 ?c
  k_dflt (((case k1 | k2 => k_asm); (case k3 | k4 => k_is); (case k5 => omega); (case k6 => exact BindsTo.of_eq rfl); (case k7 => exact locs rfl); (case c => decide); (case c1 | c2 | c3 => exact rfl)))
  intro L h₁ F N
  (repeat' ((fail_if_success (with_reducible first | refine atWhile ?_ | refine atRaise ?_ | refine atFor ?_ | refine atAssignComp ?_ | refine atComp ?_ | refine atTry ?_)); first | (k_unfold; (try dsimp only)) | (k_end; wrow_close) | walk1 | (dsimp only; walk1) | (leave1; try dsimp only)))
  rename_i F' N'
  refine While_inv2 (ReadJ l t1 "some") F' N' (readJ_start rfl rfl rfl) ?_ (up_passes rfl rfl)
  rintro n m₁ nx h₁' tk₁ F₁ N₁ ⟨a, rest, vs, ps, kk, i, u, rfl, hoff, hP, hm1, hm2, hm3, hi, hn, hr, hv⟩
  have F₂ := fr3 F₁ hm1 hm2 hm3
  clear F₁
  have hlen : (S l).length = l.length := S_len l
  rcases hE : readEnd l i with _ | ⟨n1, j1⟩
  · (repeat' ((fail_if_success (with_reducible first | refine atWhile ?_ | refine atRaise ?_ | refine atFor ?_ | refine atAssignComp ?_ | refine atComp ?_ | refine atTry ?_)); first | (k_unfold; (try dsimp only)) | (k_end; wrow_close) | walk1 | (dsimp only; walk1) | (leave1; try dsimp only)))
    refine' FnE.use (read_end_none hE rfl) ?k1 ?k2 ?k3 ?k4 ?k5 ?k6 ?k7 ⟨hi, h2⟩ ?_ ?_ ?k9
    ((case k1 | k2 | k3 | k4 | k5 => k_asm); (case k6 | k7 => omega); (case k9 => exact rfl))
    · rintro v' h' tk' st' F' N' ⟨⟩
    · intro v' s' hup
      refine Up.over hup (Fr.keep (by assumption)) (fun p hp => ⟨i, hp, ?_⟩) (fun st h => .inr (.inl h))
      rw [← hr, rf_none (by omega) hE]
  · have hj1 := readEnd_le hE
    have hcol : j1 < l.length → ((Txt.item (S l) (j1 : Int) == Str.ofString ":") = decide (l[j1]? = some 58)) := fun hi => by rw [S_colon, item_is hi]
    (repeat' ((fail_if_success (with_reducible first | refine atWhile ?_ | refine atRaise ?_ | refine atFor ?_ | refine atAssignComp ?_ | refine atComp ?_ | refine atTry ?_)); first | (k_unfold; (try dsimp only)) | (k_end; wrow_close) | walk1 | (dsimp only; walk1) | (leave1; try dsimp only)))
    refine' Fn.use (read_end_some hE rfl) ?k1 ?k2 ?k3 ?k4 ?k5 ?k6 ?k7 ⟨hi, h2⟩ ?_ ?k9
    ((case k1 | k2 | k3 | k4 | k5 => k_asm); (case k6 | k7 => omega); (case k9 => exact rfl))
    rintro v' h' tk' st' F' N' ⟨aT, u1, u2, rfl, hT⟩
    (repeat' ((fail_if_success (with_reducible first | refine atWhile ?_ | refine atRaise ?_ | refine atFor ?_ | refine atAssignComp ?_ | refine atComp ?_ | refine atTry ?_)); first | (k_unfold; (try dsimp only)) | (k_end; wrow_close) | walk1 | (dsimp only; walk1) | (leave1; try dsimp only)))
    · have hc58 : l[j1]? = some 58 := of_decide_eq_true ((hcol (by omega)).symm.trans (by assumption))
      have hj58 : j1 < l.length := by omega
      rcases hE2 : readEnd l (j1 + 1) with _ | ⟨n2, j2⟩
      · refine' FnE.use (read_end_none hE2 (by omega)) ?k1 ?k2 ?k3 ?k4 ?k5 ?k6 ?k7 ⟨by omega, h2⟩ ?_ ?_ ?k9
        ((case k1 | k2 | k3 | k4 | k5 => k_asm); (case k6 | k7 => omega); (case k9 => exact rfl))
        · rintro v' h' tk' st' F' N' ⟨⟩
        · intro v' s' hup
          refine Up.over hup (Fr.keep (by assumption)) (fun p hp => ⟨j1 + 1, hp, ?_⟩) (fun st h => .inr (.inl h))
          rw [← hr, rf_none2 (by omega) hE hc58 hE2]
      · have hj2 := readEnd_le hE2
        have hRP := rp_two hE hc58 hE2
        refine' Fn.use (read_end_some hE2 (by omega)) ?k1 ?k2 ?k3 ?k4 ?k5 ?k6 ?k7 ⟨by omega, h2⟩ ?_ ?k9
        ((case k1 | k2 | k3 | k4 | k5 => k_asm); (case k6 | k7 => omega); (case k9 => exact rfl))
        rintro v' h' tk' st' F' N' ⟨aT, u1, u2, rfl, hT⟩
        (repeat' ((fail_if_success (with_reducible first | refine atWhile ?_ | refine atRaise ?_ | refine atFor ?_ | refine atAssignComp ?_ | refine atComp ?_ | refine atTry ?_)); first | (k_unfold; (try dsimp only)) | (k_end; wrow_close) | walk1 | (dsimp only; walk1) | (leave1; try dsimp only)))
        refine append_K (by assumption) (by assumption) (Upd.tail (by k_ne) (Upd.head hoff)) ?_ (by rw [sizeLine_eq, List.size_toArray]; omega)
        intro h' F' N'
        (repeat' ((fail_if_success (with_reducible first | refine atWhile ?_ | refine atRaise ?_ | refine atFor ?_ | refine atAssignComp ?_ | refine atComp ?_ | refine atTry ?_)); first | (k_unfold; (try dsimp only)) | (k_end; wrow_close) | walk1 | (dsimp only; walk1) | (leave1; try dsimp only)))
        all_goals
          first
          | (refine fault_Raise rfl ?_
             (repeat' ((fail_if_success (with_reducible first | refine atWhile ?_ | refine atRaise ?_ | refine atFor ?_ | refine atAssignComp ?_ | refine atComp ?_ | refine atTry ?_)); first | (k_unfold; (try dsimp only)) | (k_end; wrow_close) | walk1 | (dsimp only; walk1) | (leave1; try dsimp only)))
             refine fault_call (X.keeps (Fr.keep (by assumption))) (T.keeps (Fr.keep (by assumption))) (by show dp + 1 + 3 < recursionLimit; omega) (by show un + 3 + 30 < cLine; omega) ?_
             intro h' e tk hF
             have hF2 := hF
             obtain ⟨t, dx, es, n, u, hg, hdx, _⟩ := hF2.at_
             have hc := comma_of (l := l) (j := j2) (by omega) (by assumption)
             refine ⟨e, t, dx, rfl, (X.keeps (Fr.keep (by assumption))).keeps hF.keeps, hg, up_raised B (by assumption) hF ⟨j2, rfl, ?_⟩⟩
             rw [← hr, rf_bad (by omega) hRP (by omega) hc])
          | (refine kde_tupleOf (by assumption) (by assumption) (News.isList (by assumption) (List.Mem.tail _ (List.Mem.head _))) (by rw [Array.size_push, List.size_toArray]; omega) rfl ?_
             intro D h' F' N' lD
             (repeat' ((fail_if_success (with_reducible first | refine atWhile ?_ | refine atRaise ?_ | refine atFor ?_ | refine atAssignComp ?_ | refine atComp ?_ | refine atTry ?_)); first | (k_unfold; (try dsimp only)) | (k_end; wrow_close) | walk1 | (dsimp only; walk1) | (leave1; try dsimp only)))
             refine k _ _ _ (Fr.keep (by assumption)) ⟨_, _, ?_, FreshIn.of_news (by assumption), set_in (List.Mem.head _) (List.Mem.tail _ (List.Mem.head _)) (fun p hp => List.Mem.tail _ (List.Mem.tail _ (List.Mem.tail _ hp))) (by simp) hP⟩
             rw [← hr, rf_end (by omega) hRP (by omega)])
          | (have hc := comma_is (l := l) (j := j2) (by omega) (by assumption)
             exact ⟨_, _, _, _, n - 1, rfl, by assumption, news_swap (by assumption), by omega, readJ_next rfl rfl rfl (by omega) hoff hP (by k_ne) hRP (by omega) hc hn hr hv⟩)
          | (exfalso; omega)
          | skip
    · have hRP := rp_one hE (of_decide_eq_false ((hcol (by omega)).symm.trans (by assumption)))
      refine append_K (by assumption) (by assumption) (Upd.tail (by k_ne) (Upd.head hoff)) ?_ (by rw [sizeLine_eq, List.size_toArray]; omega)
      intro h' F' N'
      (repeat' ((fail_if_success (with_reducible first | refine atWhile ?_ | refine atRaise ?_ | refine atFor ?_ | refine atAssignComp ?_ | refine atComp ?_ | refine atTry ?_)); first | (k_unfold; (try dsimp only)) | (k_end; wrow_close) | walk1 | (dsimp only; walk1) | (leave1; try dsimp only)))
      all_goals
        first
        | (refine fault_Raise rfl ?_
           (repeat' ((fail_if_success (with_reducible first | refine atWhile ?_ | refine atRaise ?_ | refine atFor ?_ | refine atAssignComp ?_ | refine atComp ?_ | refine atTry ?_)); first | (k_unfold; (try dsimp only)) | (k_end; wrow_close) | walk1 | (dsimp only; walk1) | (leave1; try dsimp only)))
           refine fault_call (X.keeps (Fr.keep (by assumption))) (T.keeps (Fr.keep (by assumption))) (by show dp + 1 + 3 < recursionLimit; omega) (by show un + 3 + 30 < cLine; omega) ?_
           intro h' e tk hF
           have hF2 := hF
           obtain ⟨t, dx, es, n, u, hg, hdx, _⟩ := hF2.at_
           have hc := comma_of (l := l) (j := j1) (by omega) (by assumption)
           refine ⟨e, t, dx, rfl, (X.keeps (Fr.keep (by assumption))).keeps hF.keeps, hg, up_raised B (by assumption) hF ⟨j1, rfl, ?_⟩⟩
           rw [← hr, rf_bad (by omega) hRP (by omega) hc])
        | (refine kde_tupleOf (by assumption) (by assumption) (News.isList (by assumption) (List.Mem.tail _ (List.Mem.head _))) (by rw [Array.size_push, List.size_toArray]; omega) rfl ?_
           intro D h' F' N' lD
           (repeat' ((fail_if_success (with_reducible first | refine atWhile ?_ | refine atRaise ?_ | refine atFor ?_ | refine atAssignComp ?_ | refine atComp ?_ | refine atTry ?_)); first | (k_unfold; (try dsimp only)) | (k_end; wrow_close) | walk1 | (dsimp only; walk1) | (leave1; try dsimp only)))
           refine k _ _ _ (Fr.keep (by assumption)) ⟨_, _, ?_, FreshIn.of_news (by assumption), set_in (List.Mem.head _) (List.Mem.tail _ (List.Mem.head _)) (fun p hp => List.Mem.tail _ (List.Mem.tail _ (List.Mem.tail _ hp))) (by simp) hP⟩
           rw [← hr, rf_end (by omega) hRP (by omega)])
        | (have hc := comma_is (l := l) (j := j1) (by omega) (by assumption)
           exact ⟨_, _, _, _, n - 1, rfl, by assumption, news_swap (by assumption), by omega, readJ_next rfl rfl rfl (by omega) hoff hP (by k_ne) hRP (by omega) hc hn hr hv⟩)
        | (exfalso; omega)
        | skip
    · have hRP := rp_one hE (by rw [List.getElem?_eq_none (by omega)]; simp)
      refine append_K (by assumption) (by assumption) (Upd.tail (by k_ne) (Upd.head hoff)) ?_ (by rw [sizeLine_eq, List.size_toArray]; omega)
      intro h' F' N'
      (repeat' ((fail_if_success (with_reducible first | refine atWhile ?_ | refine atRaise ?_ | refine atFor ?_ | refine atAssignComp ?_ | refine atComp ?_ | refine atTry ?_)); first | (k_unfold; (try dsimp only)) | (k_end; wrow_close) | walk1 | (dsimp only; walk1) | (leave1; try dsimp only)))
      all_goals
        first
        | (refine fault_Raise rfl ?_
           (repeat' ((fail_if_success (with_reducible first | refine atWhile ?_ | refine atRaise ?_ | refine atFor ?_ | refine atAssignComp ?_ | refine atComp ?_ | refine atTry ?_)); first | (k_unfold; (try dsimp only)) | (k_end; wrow_close) | walk1 | (dsimp only; walk1) | (leave1; try dsimp only)))
           refine fault_call (X.keeps (Fr.keep (by assumption))) (T.keeps (Fr.keep (by assumption))) (by show dp + 1 + 3 < recursionLimit; omega) (by show un + 3 + 30 < cLine; omega) ?_
           intro h' e tk hF
           have hF2 := hF
           obtain ⟨t, dx, es, n, u, hg, hdx, _⟩ := hF2.at_
           have hc := comma_of (l := l) (j := j1) (by omega) (by assumption)
           refine ⟨e, t, dx, rfl, (X.keeps (Fr.keep (by assumption))).keeps hF.keeps, hg, up_raised B (by assumption) hF ⟨j1, rfl, ?_⟩⟩
           rw [← hr, rf_bad (by omega) hRP (by omega) hc])
        | (refine kde_tupleOf (by assumption) (by assumption) (News.isList (by assumption) (List.Mem.tail _ (List.Mem.head _))) (by rw [Array.size_push, List.size_toArray]; omega) rfl ?_
           intro D h' F' N' lD
           (repeat' ((fail_if_success (with_reducible first | refine atWhile ?_ | refine atRaise ?_ | refine atFor ?_ | refine atAssignComp ?_ | refine atComp ?_ | refine atTry ?_)); first | (k_unfold; (try dsimp only)) | (k_end; wrow_close) | walk1 | (dsimp only; walk1) | (leave1; try dsimp only)))
           refine k _ _ _ (Fr.keep (by assumption)) ⟨_, _, ?_, FreshIn.of_news (by assumption), set_in (List.Mem.head _) (List.Mem.tail _ (List.Mem.head _)) (fun p hp => List.Mem.tail _ (List.Mem.tail _ (List.Mem.tail _ hp))) (by simp) hP⟩
           rw [← hr, rf_end (by omega) hRP (by omega)])
        | (have hc := comma_is (l := l) (j := j1) (by omega) (by assumption)
           exact ⟨_, _, _, _, n - 1, rfl, by assumption, news_swap (by assumption), by omega, readJ_next rfl rfl rfl (by omega) hoff hP (by k_ne) hRP (by omega) hc hn hr hv⟩)
        | (exfalso; omega)
        | skip
end

section
open PySem PySem.W PySem.Calls PyProof.Rows
set_option maxRecDepth 100000
set_option maxHeartbeats 8000000

/-- what _law_end hands back -/
noncomputable def EndIs (l : List Nat) (i : Nat) (n j : Int) : Prop := match readEnd l i with
  | some (n', j') => n = n' ∧ j = j'
  | none => n = -1 ∧ j = i
theorem endIs_some {l : List Nat} {i j' : Nat} {n n' j : Int} (h : readEnd l i = some (n', j')) (h1 : n = n') (h2 : j = j') : EndIs l i n j := by
  unfold EndIs; rw [h]; exact ⟨h1, h2⟩
theorem endIs_none {l : List Nat} {i : Nat} {n j : Int} (h : readEnd l i = none) (h1 : n = -1) (h2 : j = i) : EndIs l i n j := by
  unfold EndIs; rw [h]; exact ⟨h1, h2⟩
theorem law_end_ok {prog : Program} {w : World} (l : List Nat) (i : Nat) (t1 t2 : Tok) : Fn prog w 122 [.str (S l) t1, .int i t2] 3 (fun _ => i ≤ l.length ∧ (S l).length ≤ 1000) (fun v h => ∃ a n j u1 u2, v = .ref a ∧ IsTup h a #[.int n u1, .int j u2] ∧ EndIs l i n j) := by
  intro dp un gd outer base mean mg mb s R B X T hd hu ⟨h1, h2⟩ k
  refine' enter (binds := [(Str.ofString "text", .str (S l) t1), (Str.ofString "at", .int i t2)]) ?k1 ?k2 ?k3 ?k4 ?k5 ?k6 ?k7 ?_ ?c1 ?c2 ?c3 ?c
  k_dflt (((case k1 | k2 => k_asm); (case k3 | k4 => k_is); (case k5 => omega); (case k6 => exact BindsTo.of_eq rfl); (case k7 => exact locs rfl); (case c => decide); (case c1 | c2 | c3 => exact rfl)))
  intro L h₁ F N
  have e1 := slice_one h1
  have e2 := slice_from h1
  have e3 := lstrip_len (l.drop i)
  have e4 : ((l.drop i).takeWhile isD).length ≤ (l.drop i).length := (List.takeWhile_prefix _).length_le
  have e5 : (((l.drop i).length : Nat) : Int) - (((l.drop i).length - ((l.drop i).takeWhile isD).length : Nat) : Int) = ((((l.drop i).takeWhile isD).length : Nat) : Int) := by omega
  have e6 := slice_to e4
  rw [take_run] at e6
  have eint : 0 < ((l.drop i).takeWhile isD).length → ((l.drop i).takeWhile isD).length ≤ 10 → PySem.intText? (Txt.slice (Txt.slice (S l) (some (i : Int)) none) none (some (((Txt.slice (S l) (some (i : Int)) none).length : Int) - ((Txt.lstripChars (Txt.slice (S l) (some (i : Int)) none) (Str.ofString "0123456789")).length : Int)))) = some ((PySem.NumText.digitsVal ((l.drop i).takeWhile isD) : Nat) : Int) := by
    intro a b
    rw [e2, e3, S_len, e5, e6]
    exact int_of (by intro e; rw [e] at a; simp at a) (by omega)
  have elen : ((l.drop i).takeWhile isD).length ≤ 10 → (Txt.slice (Txt.slice (S l) (some (i : Int)) none) none (some (((Txt.slice (S l) (some (i : Int)) none).length : Int) - ((Txt.lstripChars (Txt.slice (S l) (some (i : Int)) none) (Str.ofString "0123456789")).length : Int)))).length ≤ 640 := by
    intro b
    rw [e2, e3, S_len, e5, e6, S_len]
    omega
  have esz : ((Txt.slice (S l) (some (i : Int)) none).length : Int) - ((Txt.lstripChars (Txt.slice (S l) (some (i : Int)) none) (Str.ofString "0123456789")).length : Int) = ((((l.drop i).takeWhile isD).length : Nat) : Int) := by
    rw [e2, e3, S_len, e5]
  have eitem : 0 < ((l.drop i).takeWhile isD).length → ((Txt.item (Txt.slice (S l) (some (i : Int)) none) 0 == Str.ofString "0") = decide (l[i]? = some 48)) := by
    intro a
    rw [e2, item_zero (by intro e; rw [e] at a; simp at a), S_zero, S_beq]
    simp only [take_one_eq]
  have estar : (Txt.slice (S l) (some (i : Int)) (some ((i : Int) + 1)) == Str.ofString "*") = decide (l[i]? = some 42) := by
    rw [e1, S_star, S_beq]
    simp only [take_one_eq]
  have hnil : ((l.drop i).takeWhile isD).length = 0 → (l.drop i).takeWhile isD = [] := fun h => List.eq_nil_of_length_eq_zero h
  have hlong : 10 < ((l.drop i).takeWhile isD).length → l[i]? ≠ some 48 → 4294967295 < PySem.NumText.digitsVal ((l.drop i).takeWhile isD) := long_big
  clear e1 e2 e3 e5 e6
  k_steps
  all_goals simp only [estar, esz, decide_eq_true_eq, decide_eq_false_iff_not] at *
  · refine k _ _ _ (Fr.keep (by assumption)) ⟨_, _, _, _, _, rfl, news_tup (by assumption) (List.Mem.head _), endIs_some (j' := i + 1) (if_pos (by assumption)) rfl (by omega)⟩
  · refine k _ _ _ (Fr.keep (by assumption)) ⟨_, _, _, _, _, rfl, news_tup (by assumption) (List.Mem.head _), endIs_none ?_ rfl rfl⟩
    rw [readEnd, if_neg (by assumption), if_pos (.inl (hnil (by omega)))]
  · rw [eitem (by omega)] at *
    refine k _ _ _ (Fr.keep (by assumption)) ⟨_, _, _, _, _, rfl, news_tup (by assumption) (List.Mem.head _), endIs_none ?_ rfl rfl⟩
    simp only [decide_eq_true_eq] at *
    rw [readEnd, if_neg (by assumption), if_pos (.inr (.inl (by assumption)))]
  · rw [eitem (by omega)] at *
    refine k _ _ _ (Fr.keep (by assumption)) ⟨_, _, _, _, _, rfl, news_tup (by assumption) (List.Mem.head _), endIs_none ?_ rfl rfl⟩
    simp only [decide_eq_false_iff_not] at *
    rw [readEnd, if_neg (by assumption), if_pos (.inr (.inr (hlong (by omega) (by assumption))))]
  · refine PySem.W.KIN.call_text (eint (by omega) (by omega)) (elen (by omega)) ?_
    k_steps
    · rw [eitem (by omega)] at *
      refine k _ _ _ (Fr.keep (by assumption)) ⟨_, _, _, _, _, rfl, news_tup (by assumption) (List.Mem.head _), endIs_none ?_ rfl rfl⟩
      rw [readEnd, if_neg (by assumption), if_pos (.inr (.inr (by omega)))]
    · refine PySem.W.KIN.call_text (eint (by omega) (by omega)) (elen (by omega)) ?_
      k_steps
      rw [eitem (by omega)] at *
      simp only [decide_eq_false_iff_not] at *
      refine k _ _ _ (Fr.keep (by assumption)) ⟨_, _, _, _, _, rfl, news_tup (by assumption) (List.Mem.head _), endIs_some (j' := i + ((l.drop i).takeWhile isD).length) ?_ rfl (by omega)⟩
      rw [readEnd, if_neg (by assumption), if_neg]
      rintro (h | h | h)
      · have q : ((l.drop i).takeWhile isD).length = 0 := by rw [h]; rfl
        omega
      · exact absurd h (by assumption)
      · omega
end

section
open PySem PySem.W PySem.Calls PyProof.Rows
set_option maxRecDepth 100000
set_option maxHeartbeats 8000000

theorem law_end_some {prog : Program} {w : World} {l : List Nat} {i j : Nat} {n z : Int} {t1 t2 : Tok} (h : readEnd l i = some (n, j)) (hz : z = i) : Fn prog w 122 [.str (S l) t1, .int z t2] 3 (fun _ => i ≤ l.length ∧ (S l).length ≤ 1000) (fun v h => ∃ a u1 u2, v = .ref a ∧ IsTup h a #[.int n u1, .int j u2]) := by
  subst hz
  intro dp un gd outer base mean mg mb s R B X T hd hu p k
  refine law_end_ok l i t1 t2 dp un gd outer base mean mg mb s R B X T hd hu p fun v h' tk' st q => k v h' tk' st ?_
  obtain ⟨a, n', j', u1, u2, e, ht, he⟩ := q
  unfold EndIs at he
  rw [h] at he
  obtain ⟨rfl, rfl⟩ := he
  exact ⟨a, u1, u2, e, ht⟩
theorem law_end_none {prog : Program} {w : World} {l : List Nat} {i : Nat} {z : Int} {t1 t2 : Tok} (h : readEnd l i = none) (hz : z = i) : Fn prog w 122 [.str (S l) t1, .int z t2] 3 (fun _ => i ≤ l.length ∧ (S l).length ≤ 1000) (fun v h => ∃ a u1 u2, v = .ref a ∧ IsTup h a #[.int (-1) u1, .int i u2]) := by
  subst hz
  intro dp un gd outer base mean mg mb s R B X T hd hu p k
  refine law_end_ok l i t1 t2 dp un gd outer base mean mg mb s R B X T hd hu p fun v h' tk' st q => k v h' tk' st ?_
  obtain ⟨a, n', j', u1, u2, e, ht, he⟩ := q
  unfold EndIs at he
  rw [h] at he
  obtain ⟨rfl, rfl⟩ := he
  exact ⟨a, u1, u2, e, ht⟩
/-- what _law_read hands back -/
noncomputable def SetIs (H h : Heap) (r : Except Nat (List (Int × Int))) (v : Value) (j : Int) : Prop := match r with
  | .ok ps => (∃ led, FreshIn H h led ∧ SetIn led v ps) ∧ j = -1
  | .error p => v = .none ∧ j = p
theorem law_read_ok {prog : Program} {w : World} (H : Heap) (l : List Nat) (t1 : Tok) : Fn prog w 129 [.str (S l) t1] 5 (fun h => h = H ∧ (S l).length ≤ 1000) (fun v h => ∃ a x j u, v = .ref a ∧ IsTup h a #[x, .int j u] ∧ SetIs H h (readSet l) x j) := by
  intro dp un gd outer base mean mg mb s R B X T hd hu ⟨hH, h2⟩ k
  subst hH
  refine' enter0 (binds := [(Str.ofString "text", .str (S l) t1)]) ?k1 ?k2 ?k3 ?k4 ?k5 ?k6 ?k7 ?_ ?c1 ?c2 ?c3 ?c
  k_dflt (((case k1 | k2 => k_asm); (case k3 | k4 => k_is); (case k5 => omega); (case k6 => exact BindsTo.of_eq rfl); (case k7 => exact locs rfl); (case c => decide); (case c1 | c2 | c3 => exact rfl)))
  intro L h₁ F N
  (repeat' ((fail_if_success (with_reducible first | refine atWhile ?_ | refine atRaise ?_ | refine atFor ?_ | refine atAssignComp ?_ | refine atComp ?_ | refine atTry ?_)); first | (k_unfold; (try dsimp only)) | (k_end; wrow_close) | walk1 | (dsimp only; walk1) | (leave1; try dsimp only)))
  rename_i F' N'
  refine While_inv2 (ReadJ l t1 "pairs") F' N' (readJ_start rfl rfl rfl) ?_ PassesOwn.never
  rintro n m₁ nx h₁' tk₁ F₁ N₁ ⟨a, rest, vs, ps, kk, i, u, rfl, hoff, hP, hm1, hm2, hm3, hi, hn, hr, hv⟩
  have F₂ := fr3 F₁ hm1 hm2 hm3
  clear F₁
  have hlen : (S l).length = l.length := S_len l
  rcases hE : readEnd l i with _ | ⟨n1, j1⟩
  · (repeat' ((fail_if_success (with_reducible first | refine atWhile ?_ | refine atRaise ?_ | refine atFor ?_ | refine atAssignComp ?_ | refine atComp ?_ | refine atTry ?_)); first | (k_unfold; (try dsimp only)) | (k_end; wrow_close) | walk1 | (dsimp only; walk1) | (leave1; try dsimp only)))
    refine' Fn.use (law_end_none hE rfl) ?k1 ?k2 ?k3 ?k4 ?k5 ?k6 ?k7 ⟨hi, h2⟩ ?_ ?k9
    ((case k1 | k2 | k3 | k4 | k5 => k_asm); (case k6 | k7 => omega); (case k9 => exact rfl))
    rintro v' h' tk' st' F' N' ⟨aT, u1, u2, rfl, hT⟩
    (repeat' ((fail_if_success (with_reducible first | refine atWhile ?_ | refine atRaise ?_ | refine atFor ?_ | refine atAssignComp ?_ | refine atComp ?_ | refine atTry ?_)); first | (k_unfold; (try dsimp only)) | (k_end; wrow_close) | walk1 | (dsimp only; walk1) | (leave1; try dsimp only)))
    refine k _ _ _ (Fr.keep (by assumption)) ⟨_, _, _, _, rfl, news_tup (by assumption) (List.Mem.head _), ?_⟩
    rw [← hr, rf_none (by omega) hE]
    exact ⟨rfl, rfl⟩
  · have hj1 := readEnd_le hE
    have hcol := slice_is (l := l) (i := j1) (d := 58) (by omega)
    rw [← S_colon] at hcol
    (repeat' ((fail_if_success (with_reducible first | refine atWhile ?_ | refine atRaise ?_ | refine atFor ?_ | refine atAssignComp ?_ | refine atComp ?_ | refine atTry ?_)); first | (k_unfold; (try dsimp only)) | (k_end; wrow_close) | walk1 | (dsimp only; walk1) | (leave1; try dsimp only)))
    refine' Fn.use (law_end_some hE rfl) ?k1 ?k2 ?k3 ?k4 ?k5 ?k6 ?k7 ⟨hi, h2⟩ ?_ ?k9
    ((case k1 | k2 | k3 | k4 | k5 => k_asm); (case k6 | k7 => omega); (case k9 => exact rfl))
    rintro v' h' tk' st' F' N' ⟨aT, u1, u2, rfl, hT⟩
    (repeat' ((fail_if_success (with_reducible first | refine atWhile ?_ | refine atRaise ?_ | refine atFor ?_ | refine atAssignComp ?_ | refine atComp ?_ | refine atTry ?_)); first | (k_unfold; (try dsimp only)) | (k_end; wrow_close) | walk1 | (dsimp only; walk1) | (leave1; try dsimp only)))
    all_goals rw [hcol] at *
    all_goals simp only [decide_eq_true_eq, decide_eq_false_iff_not] at *
    · have hc58 : l[j1]? = some 58 := by assumption
      have hj58 : j1 < l.length := by
        cases Nat.lt_or_ge j1 l.length with
        | inl x => exact x
        | inr x => rw [List.getElem?_eq_none x] at hc58; cases hc58
      rcases hE2 : readEnd l (j1 + 1) with _ | ⟨n2, j2⟩
      · refine' Fn.use (law_end_none hE2 (by omega)) ?k1 ?k2 ?k3 ?k4 ?k5 ?k6 ?k7 ⟨by omega, h2⟩ ?_ ?k9
        ((case k1 | k2 | k3 | k4 | k5 => k_asm); (case k6 | k7 => omega); (case k9 => exact rfl))
        rintro v' h' tk' st' F' N' ⟨aT, u1, u2, rfl, hT⟩
        (repeat' ((fail_if_success (with_reducible first | refine atWhile ?_ | refine atRaise ?_ | refine atFor ?_ | refine atAssignComp ?_ | refine atComp ?_ | refine atTry ?_)); first | (k_unfold; (try dsimp only)) | (k_end; wrow_close) | walk1 | (dsimp only; walk1) | (leave1; try dsimp only)))
        refine k _ _ _ (Fr.keep (by assumption)) ⟨_, _, _, _, rfl, news_tup (by assumption) (List.Mem.head _), ?_⟩
        rw [← hr, rf_none2 (by omega) hE hc58 hE2]
        exact ⟨rfl, rfl⟩
      · have hj2 := readEnd_le hE2
        have hRP := rp_two hE hc58 hE2
        refine' Fn.use (law_end_some hE2 (by omega)) ?k1 ?k2 ?k3 ?k4 ?k5 ?k6 ?k7 ⟨by omega, h2⟩ ?_ ?k9
        ((case k1 | k2 | k3 | k4 | k5 => k_asm); (case k6 | k7 => omega); (case k9 => exact rfl))
        rintro v' h' tk' st' F' N' ⟨aT, u1, u2, rfl, hT⟩
        (repeat' ((fail_if_success (with_reducible first | refine atWhile ?_ | refine atRaise ?_ | refine atFor ?_ | refine atAssignComp ?_ | refine atComp ?_ | refine atTry ?_)); first | (k_unfold; (try dsimp only)) | (k_end; wrow_close) | walk1 | (dsimp only; walk1) | (leave1; try dsimp only)))
        refine append_K (by assumption) (by assumption) (Upd.tail (by k_ne) (Upd.head hoff)) ?_ (by rw [sizeLine_eq, List.size_toArray]; omega)
        intro h' F' N'
        (repeat' ((fail_if_success (with_reducible first | refine atWhile ?_ | refine atRaise ?_ | refine atFor ?_ | refine atAssignComp ?_ | refine atComp ?_ | refine atTry ?_)); first | (k_unfold; (try dsimp only)) | (k_end; wrow_close) | walk1 | (dsimp only; walk1) | (leave1; try dsimp only)))
        · refine kde_tupleOf (by assumption) (by assumption) (News.isList (by assumption) (List.Mem.tail _ (List.Mem.head _))) (by rw [Array.size_push, List.size_toArray]; omega) rfl ?_
          intro D h' F' N' lD
          (repeat' ((fail_if_success (with_reducible first | refine atWhile ?_ | refine atRaise ?_ | refine atFor ?_ | refine atAssignComp ?_ | refine atComp ?_ | refine atTry ?_)); first | (k_unfold; (try dsimp only)) | (k_end; wrow_close) | walk1 | (dsimp only; walk1) | (leave1; try dsimp only)))
          refine k _ _ _ (Fr.keep (by assumption)) ⟨_, _, _, _, rfl, news_tup (by assumption) (List.Mem.head _), ?_⟩
          rw [← hr, rf_end (by omega) hRP (by omega)]
          exact ⟨⟨_, FreshIn.of_news (news_tail (by assumption)), set_in (List.Mem.head _) (List.Mem.tail _ (List.Mem.head _)) (fun p hp => List.Mem.tail _ (List.Mem.tail _ (List.Mem.tail _ hp))) (by simp) hP⟩, rfl⟩
        · have hc := comma_of (l := l) (j := j2) (by omega) (by assumption)
          refine k _ _ _ (Fr.keep (by assumption)) ⟨_, _, _, _, rfl, news_tup (by assumption) (List.Mem.head _), ?_⟩
          rw [← hr, rf_bad (by omega) hRP (by omega) hc]
          exact ⟨rfl, rfl⟩
        · have hc := comma_is (l := l) (j := j2) (by omega) (by assumption)
          exact ⟨_, _, _, _, n - 1, rfl, by assumption, news_swap (by assumption), by omega, readJ_next rfl rfl rfl (by omega) hoff hP (by k_ne) hRP (by omega) hc hn hr hv⟩
    · have hRP := rp_one hE (by assumption)
      refine append_K (by assumption) (by assumption) (Upd.tail (by k_ne) (Upd.head hoff)) ?_ (by rw [sizeLine_eq, List.size_toArray]; omega)
      intro h' F' N'
      (repeat' ((fail_if_success (with_reducible first | refine atWhile ?_ | refine atRaise ?_ | refine atFor ?_ | refine atAssignComp ?_ | refine atComp ?_ | refine atTry ?_)); first | (k_unfold; (try dsimp only)) | (k_end; wrow_close) | walk1 | (dsimp only; walk1) | (leave1; try dsimp only)))
      · refine kde_tupleOf (by assumption) (by assumption) (News.isList (by assumption) (List.Mem.tail _ (List.Mem.head _))) (by rw [Array.size_push, List.size_toArray]; omega) rfl ?_
        intro D h' F' N' lD
        (repeat' ((fail_if_success (with_reducible first | refine atWhile ?_ | refine atRaise ?_ | refine atFor ?_ | refine atAssignComp ?_ | refine atComp ?_ | refine atTry ?_)); first | (k_unfold; (try dsimp only)) | (k_end; wrow_close) | walk1 | (dsimp only; walk1) | (leave1; try dsimp only)))
        refine k _ _ _ (Fr.keep (by assumption)) ⟨_, _, _, _, rfl, news_tup (by assumption) (List.Mem.head _), ?_⟩
        rw [← hr, rf_end (by omega) hRP (by omega)]
        exact ⟨⟨_, FreshIn.of_news (news_tail (by assumption)), set_in (List.Mem.head _) (List.Mem.tail _ (List.Mem.head _)) (fun p hp => List.Mem.tail _ (List.Mem.tail _ (List.Mem.tail _ hp))) (by simp) hP⟩, rfl⟩
      · have hc := comma_of (l := l) (j := j1) (by omega) (by assumption)
        refine k _ _ _ (Fr.keep (by assumption)) ⟨_, _, _, _, rfl, news_tup (by assumption) (List.Mem.head _), ?_⟩
        rw [← hr, rf_bad (by omega) hRP (by omega) hc]
        exact ⟨rfl, rfl⟩
      · have hc := comma_is (l := l) (j := j1) (by omega) (by assumption)
        exact ⟨_, _, _, _, n - 1, rfl, by assumption, news_swap (by assumption), by omega, readJ_next rfl rfl rfl (by omega) hoff hP (by k_ne) hRP (by omega) hc hn hr hv⟩
end

section
open PySem PySem.W PySem.Calls PyProof.Rows
set_option maxRecDepth 100000
set_option maxHeartbeats 8000000

theorem num_len {n : Int} (h0 : 0 ≤ n) (h1 : n < 4294967296) : (Str.ofString (toString n)).length ≤ 10 := by
  rw [S_dig, S_len]; exact dig_len h0 h1
theorem fmod_len {a n : Int} (hn : 0 < n) (hb : n < 10000) : (Str.ofString (toString (1 + a.fmod n))).length ≤ 10 := by
  have h1 := Int.fmod_nonneg_of_pos a hn
  have h2 := Int.fmod_lt_of_pos a hn
  exact num_len (by omega) (by omega)
theorem law_word_ok {prog : Program} {w : World} (c : Int) (t : Tok) : Fn prog w 108 [.int c t] 2 (fun _ => True) (fun v _ => ∃ x t', v = .str x t' ∧ x.length ≤ 12) := by
  intro dp un gd outer base mean mg mb s R B X T hdp hu _ k
  refine' enter0 (binds := [(Str.ofString "cell", .int c t)]) ?k1 ?k2 ?k3 ?k4 ?k5 ?k6 ?k7 ?_ ?c1 ?c2 ?c3 ?c
  k_dflt (((case k1 | k2 => k_asm); (case k3 | k4 => k_is); (case k5 => omega); (case k6 => exact BindsTo.of_eq rfl); (case k7 => exact locs rfl); (case c => decide); (case c1 | c2 | c3 => exact rfl)))
  intro L h₁ F N
  have l1 := fmod_len (a := c.fdiv 6) (n := 9999) (by decide) (by decide)
  have l2 := fmod_len (a := c.fdiv 6) (n := 12) (by decide) (by decide)
  have l3 := fmod_len (a := c.fdiv 6) (n := 500) (by decide) (by decide)
  have l4 : (Str.ofString "*").length = 1 := by decide +kernel
  have l5 : (Str.ofString "4294967295").length = 10 := by decide +kernel
  have l6 : (Str.ofString "10").length = 2 := by decide +kernel
  have l7 : (Str.ofString "7:").length = 2 := by decide +kernel
  (repeat' ((fail_if_success (with_reducible first | refine atWhile ?_ | refine atRaise ?_ | refine atFor ?_ | refine atAssignComp ?_ | refine atComp ?_ | refine atTry ?_)); first | (k_unfold; (try dsimp only)) | (k_end; wrow_close) | walk1 | (dsimp only; walk1) | (leave1; try dsimp only)))
  all_goals
    refine k _ _ _ (Fr.keep (by assumption)) ⟨_, _, rfl, ?_⟩
    first | omega | (rw [Str.length_append]; omega)
theorem fr2 {h₀ h : Heap} {L : Addr} {m : Str → Option Value} {a b : Str} {x y : Option Value} (F : Fr h₀ L h m) (ha : m a = x) (hb : m b = y) : Fr h₀ L h (fun s => if s = a then x else if s = b then y else m s) := by
  have e : (fun s => if s = a then x else if s = b then y else m s) = m := by
    funext s
    split
    · rename_i h; rw [h, ha]
    · split
      · rename_i h; rw [h, hb]
      · rfl
  rw [e]; exact F
theorem getD_len {l : List Str} {k i : Nat} (h : ∀ y ∈ l, y.length ≤ k) : (l.getD i Str.empty).length ≤ k := by
  rw [List.getD_eq_getElem?_getD]
  cases e : l[i]? with
  | none => exact Nat.zero_le _
  | some y => exact h y (List.mem_of_getElem? e)
noncomputable def DrawnJ (a : Addr) (o : Obj) (i : Nat) (m : Str → Option Value) (nw : List (Addr × Obj)) : Prop := ∃ x t, nw = [(a, o)] ∧ m (Str.ofString "text") = some (.str x t) ∧ m (Str.ofString "odd") = some (.ref a) ∧ x.length ≤ 25 * i
theorem drawnJ_next {a : Addr} {o : Obj} {i : Nat} {m : Str → Option Value} {x : Str} {t : Tok} (h1 : m (Str.ofString "text") = some (.str x t)) (h2 : m (Str.ofString "odd") = some (.ref a)) (h3 : x.length ≤ 25 * (i + 1)) : DrawnJ a o (i + 1) m [(a, o)] := ⟨x, t, rfl, h1, h2, h3⟩
theorem law_drawn_ok {prog : Program} {w : World} (b : Addr) (vs : List Value) : Fn prog w 115 [.ref b] 4 (fun h => h.IsList b vs.toArray ∧ (∀ v ∈ vs, ∃ n t, v = Value.int n t) ∧ vs.length ≤ 24) (fun v _ => ∃ x t', v = .str x t' ∧ x.length ≤ 600) := by
  intro dp un gd outer base mean mg mb s R B X T hdp hu ⟨hL, hI, hn⟩ k
  refine' enter0 (binds := [(Str.ofString "cells", .ref b)]) ?k1 ?k2 ?k3 ?k4 ?k5 ?k6 ?k7 ?_ ?c1 ?c2 ?c3 ?c
  k_dflt (((case k1 | k2 => k_asm); (case k3 | k4 => k_is); (case k5 => omega); (case k6 => exact BindsTo.of_eq rfl); (case k7 => exact locs rfl); (case c => decide); (case c1 | c2 | c3 => exact rfl)))
  intro L h₁ F N
  (repeat' ((fail_if_success (with_reducible first | refine atWhile ?_ | refine atRaise ?_ | refine atFor ?_ | refine atAssignComp ?_ | refine atComp ?_ | refine atTry ?_)); first | ((with_reducible show wpAny _ _ (call (Value.ref 108) [Value.int _ _]) _ _ _); refine' Fn.use (law_word_ok _ _) ?k1 ?k2 ?k3 ?k4 ?k5 ?k6 ?k7 trivial ?_ ?k9; ((case k1 | k2 | k3 | k4 | k5 => k_asm); (case k6 | k7 => omega); (case k9 => exact rfl)); intro v' h' tk' st' F' N' ⟨x', t', e', hl'⟩; subst e'; dsimp only) | (k_unfold; (try dsimp only)) | (k_end; wrow_close) | walk1 | (dsimp only; walk1) | (leave1; try dsimp only)))
  rename_i F' N'
  refine For_list (l := b) (vs := vs.toArray) (DrawnJ _ _) F' N' ⟨_, _, rfl, rfl, rfl, Nat.le_trans (Nat.le_of_eq (show (Str.ofString "").length = 0 by decide +kernel)) (Nat.zero_le _)⟩ rfl rfl (fun Q' hq => ?_) ?_ ?_ ?_ ?_ ?_ PassesOwn.never
  · (repeat' ((fail_if_success (with_reducible first | refine atWhile ?_ | refine atRaise ?_ | refine atFor ?_ | refine atAssignComp ?_ | refine atComp ?_ | refine atTry ?_)); first | ((with_reducible show wpAny _ _ (call (Value.ref 108) [Value.int _ _]) _ _ _); refine' Fn.use (law_word_ok _ _) ?k1 ?k2 ?k3 ?k4 ?k5 ?k6 ?k7 trivial ?_ ?k9; ((case k1 | k2 | k3 | k4 | k5 => k_asm); (case k6 | k7 => omega); (case k9 => exact rfl)); intro v' h' tk' st' F' N' ⟨x', t', e', hl'⟩; subst e'; dsimp only) | (k_unfold; (try dsimp only)) | (k_end; wrow_close) | walk1 | (dsimp only; walk1) | (leave1; try dsimp only)))
    exact hq
  · rintro i m nw ⟨x, t, rfl, _⟩ p hp
    rw [List.mem_singleton.mp hp]
    intro e
    exact absurd (Value.type.inj e) (by decide)
  · intro i m nw _ h k _
    obtain ⟨o, ho, r⟩ := hL
    exact ⟨o, k _ _ ho, r⟩
  · rintro rfl
    obtain ⟨o, ho, _⟩ := hL
    exact absurd (Heap.lt_size ho) (Nat.not_lt.mpr F'.above)
  · rintro i v I oI m₁ news₁ h tk hi hv ⟨x, t, rfl, hm1, hm2, hx⟩ hc F₁ N₁
    have hv' : v ∈ vs := by
      rw [List.getElem?_toArray] at hv
      exact List.mem_of_getElem? hv
    obtain ⟨c, tc, rfl⟩ := hI v hv'
    have F₂ := fr2 F₁ (a := Str.ofString "text") (b := Str.ofString "odd") hm1 hm2
    clear F₁ hv
    have l12 : (25 * (i + 1)) = 25 * i + 25 := by omega
    rw [List.size_toArray] at hi
    have q1 : (Str.ofString ":").length = 1 := by decide +kernel
    have q2 : (Str.ofString ",").length = 1 := by decide +kernel
    have q3 : (Str.ofString "").length = 0 := by decide +kernel
    have q4 : ∀ i, ([Str.ofString "0", Str.ofString "00", Str.ofString ",", Str.ofString ":", Str.ofString "x", Str.ofString " ", Str.ofString "４", Str.ofString "4294967296", Str.ofString "9999999999999999999999999", Str.ofString "-1", Str.ofString "012", Str.ofString "*", Str.ofString "1:0"].getD i Str.empty).length ≤ 25 :=
      fun i => getD_len (by decide +kernel)
    (repeat' ((fail_if_success (with_reducible first | refine atWhile ?_ | refine atRaise ?_ | refine atFor ?_ | refine atAssignComp ?_ | refine atComp ?_ | refine atTry ?_)); first | ((with_reducible show wpAny _ _ (call (Value.ref 108) [Value.int _ _]) _ _ _); refine' Fn.use (law_word_ok _ _) ?k1 ?k2 ?k3 ?k4 ?k5 ?k6 ?k7 trivial ?_ ?k9; ((case k1 | k2 | k3 | k4 | k5 => k_asm); (case k6 | k7 => omega); (case k9 => exact rfl)); intro v' h' tk' st' F' N' ⟨x', t', e', hl'⟩; subst e'; dsimp only) | (k_unfold; (try dsimp only)) | (k_end; wrow_close) | walk1 | (dsimp only; walk1) | (leave1; try dsimp only)))
    all_goals
      refine ForStep.mk (by assumption) (by assumption) (drawnJ_next rfl rfl ?_)
      first
      | (simp only [Str.length_append]; omega)
      | (rw [Str.length_append]; have := q4 ((c.fdiv 8).fmod 13).toNat; omega)
  · rintro h' tk m' news' F₁ N₁ ⟨x, t, rfl, hm1, hm2, hx⟩
    have F₂ := fr2 F₁ hm1 hm2
    clear F₁
    rw [List.size_toArray] at hx
    (repeat' ((fail_if_success (with_reducible first | refine atWhile ?_ | refine atRaise ?_ | refine atFor ?_ | refine atAssignComp ?_ | refine atComp ?_ | refine atTry ?_)); first | ((with_reducible show wpAny _ _ (call (Value.ref 108) [Value.int _ _]) _ _ _); refine' Fn.use (law_word_ok _ _) ?k1 ?k2 ?k3 ?k4 ?k5 ?k6 ?k7 trivial ?_ ?k9; ((case k1 | k2 | k3 | k4 | k5 => k_asm); (case k6 | k7 => omega); (case k9 => exact rfl)); intro v' h' tk' st' F' N' ⟨x', t', e', hl'⟩; subst e'; dsimp only) | (k_unfold; (try dsimp only)) | (k_end; wrow_close) | walk1 | (dsimp only; walk1) | (leave1; try dsimp only)))
    exact k _ _ _ (Fr.keep (by assumption)) ⟨_, _, rfl, by omega⟩
end

section
open PySem PySem.W PySem.Calls PyProof.Rows
set_option maxRecDepth 100000
set_option maxHeartbeats 8000000
theorem callerAr : callerA = Ar (1 + claimMargin) 4 (some []) [] := rfl
/-- the end of the law -/
noncomputable def DoneT (s1 : Shared) (f : Flow) (s' : Shared) : Prop := ∃ h' tk', s' = { s1 with heap := h', toks := tk' } ∧ s1.heap.StaysIn h' ∧ f = .ret (.bool true)
section
variable {prog : Program} {w : World} {dp un : Nat} {gd : Option (List Code)} {mean : ExcName → Option Value} {mg mb : Str → Option Value} {s : Shared}
theorem FnU.use0 {f : Addr} {vs : List Value} {n : Nat} {Pre : Heap → Prop} {Post : Value → Prop} (hf : FnU prog w f vs n Pre Post)
    {h₀ : Heap} {L a : Addr} {m : Str → Option Value} {news : List (Addr × Obj)} {name : Str} {scope : Scope} {cd : Value} {Q E : Value → Shared → Prop}
    (B : Below (Ar dp un gd []) h₀ [] h₀) (F : Fr h₀ L s.heap m) (N : News h₀ L s.heap news) (X : (hd.heap_39 w.params).In h₀) (T : Top VP LO mean mg mb h₀)
    (hd : dp + 1 + n < recursionLimit) (hu : un + 3 + 8 * n + 8 < cLine) (pre : Pre s.heap)
    (k : ∀ v h' tk', Fr h₀ L h' m → News h₀ L h' news → Post v → Q v { s with heap := h', toks := tk' }) (hk : scope.kind = .function := by rfl) :
    wpAny (model prog w) ((Ar dp un gd []).deeper (envOf name scope L a cd)) (call (.ref f) vs) Q E s := by
  refine wpAny_call ?_
  refine hf (dp + 1) (un + 3) gd [envOf name scope L a cd] h₀ mean mg mb s _ (B.push F hk) X T (X.keeps F.keep) (T.keeps F.keep) hd hu pre fun v h' tk' st hH hp => ?_
  refine k v h' tk' ⟨hH.slots.ns F.ns, st, F.above⟩ (fun p hp => ⟨(hH _ _ (N p hp).1).2 fun hm => ?_, (N p hp).2⟩) hp
  have hm' : p.1 ∈ [L] := hm
  exact (N p hp).2.1 (List.mem_singleton.mp hm')
end
theorem news_flip {h₀ h : Heap} {L : Addr} {led r : List (Addr × Obj)} {x : Addr × Obj} (N : News h₀ L h (led ++ (x :: r))) : News h₀ L h (x :: (led ++ r)) := news_sub N fun p hp => by
  simp only [List.mem_cons, List.mem_append] at hp ⊢
  rcases hp with hp | hp | hp <;> simp [hp]
theorem news_flip1 {h₀ h : Heap} {L : Addr} {led : List (Addr × Obj)} {x : Addr × Obj} (N : News h₀ L h (led ++ [x])) : News h₀ L h (x :: led) := news_sub N fun p hp => by
  simp only [List.mem_cons, List.mem_append] at hp ⊢
  rcases hp with hp | hp <;> simp [hp]
theorem ints_of {vs : List Value} {ns : List Int} (h : IntsAre vs ns) : ∀ v ∈ vs, ∃ n t, v = Value.int n t := by
  induction h with
  | nil => intro v hv; cases hv
  | cons n t _ ih =>
    intro v hv
    rcases List.mem_cons.mp hv with rfl | hv
    · exact ⟨n, t, rfl⟩
    · exact ih v hv
theorem ints_len {vs : List Value} {ns : List Int} (h : IntsAre vs ns) : vs.length = ns.length := by
  induction h with
  | nil => rfl
  | cons n t _ ih => simp [ih]
theorem holds : PySem.Challenge.rw_nz0275_01.Holds := by
  refine hd ?_
  k_go0
  rw [callerAr]
  rename Below _ _ _ _ => K0
  rename Top _ _ _ _ _ _ => T
  rename (hd.heap_39 _).In _ => KX
  rename Shared => s1
  rename List Int => ns
  have hgens : s1.gens = #[] := by assumption
  have B : Below (Ar (1 + claimMargin) 4 (some []) []) s1.heap [] s1.heap := K0
  have hroom : 1 + claimMargin + 50 < recursionLimit := by decide
  have hline : 4 + 8 * 50 < cLine := by rw [hcL]; decide
  refine wpAny_mono (Q := DoneT s1) (E := fun _ _ => False) ?_ (fun f s' hq => ?_) (fun _ _ z => z.elim)
  rotate_left
  · obtain ⟨h', tk', rfl, st, rfl⟩ := hq
    refine ⟨.inl ⟨_, .bool true, [], rfl, raisesW_false (by wrow_none_raised), .bool true, by wrow_post, unshared_nil⟩, st, rfl, hgens⟩
  generalize hdp : 1 + claimMargin = dp at *
  generalize (some [] : Option (List Code)) = gd at *
  (repeat' ((fail_if_success (with_reducible first | refine atWhile ?_ | refine atRaise ?_ | refine atFor ?_ | refine atAssignComp ?_ | refine atComp ?_ | refine atTry ?_ | refine atAppend ?_ | refine atList ?_ | refine atTwo ?_ | refine atCall ?_ | refine atSum ?_)); first | (k_unfold; (try dsimp only)) | (k_end; wrow_close) | walk1 | (dsimp only; walk1) | (leave1; try dsimp only)))
  rename IntsAre _ (List.take 24 _) => hI2
  rename List.length (List.take 24 _) = min 24 _ => hlen24
  rename News _ _ _ _ => N1
  have hwl := ints_len hI2
  refine' Fn.use (law_drawn_ok _ _) ?k1 ?k2 ?k3 ?k4 ?k5 ?k6 ?k7 ⟨⟨_, (N1 _ (.head _)).1, rfl, _, rfl⟩, ints_of hI2, by omega⟩ ?_ ?k9
  ((case k1 | k2 | k3 | k4 | k5 => k_asm); (case k6 | k7 => omega); (case k9 => exact rfl))
  rintro v' h' tk' st' F' N' ⟨x, t', rfl, hxl⟩
  obtain ⟨l, rfl⟩ : ∃ l, x = S l := ⟨_, (S_of x).symm⟩
  (repeat' ((fail_if_success (with_reducible first | refine atWhile ?_ | refine atRaise ?_ | refine atFor ?_ | refine atAssignComp ?_ | refine atComp ?_ | refine atTry ?_ | refine atAppend ?_ | refine atList ?_ | refine atTwo ?_ | refine atCall ?_ | refine atSum ?_)); first | (k_unfold; (try dsimp only)) | (k_end; wrow_close) | walk1 | (dsimp only; walk1) | (leave1; try dsimp only)))
  rename News _ _ _ _ => N3
  rename Fr _ _ _ _ => F3
  refine' Fn.use (law_read_ok _ l _) ?k1 ?k2 ?k3 ?k4 ?k5 ?k6 ?k7 ⟨rfl, by omega⟩ ?_ ?k9
  ((case k1 | k2 | k3 | k4 | k5 => k_asm); (case k6 | k7 => omega); (case k9 => exact rfl))
  rintro v' h' tk' st' F' N' ⟨a, x, j, u, rfl, hT, hS⟩
  rcases hR : readSet l with q | ps
  · obtain ⟨rfl, rfl⟩ : x = .none ∧ j = q := by rw [hR] at hS; exact hS
    clear hS
    (repeat' ((fail_if_success (with_reducible first | refine atWhile ?_ | refine atRaise ?_ | refine atFor ?_ | refine atAssignComp ?_ | refine atComp ?_ | refine atTry ?_ | refine atAppend ?_ | refine atList ?_ | refine atTwo ?_ | refine atCall ?_ | refine atSum ?_)); first | (k_unfold; (try dsimp only)) | (k_end; wrow_close) | walk1 | (dsimp only; walk1) | (leave1; try dsimp only)))
    rename News _ _ _ _ => N4
    rename Fr _ _ _ _ => F4
    refine fault_Try (n := Str.ofString "fault") (Err := ErrSet l) B F4 N4 KX T ?_ ?_
    · (repeat' ((fail_if_success (with_reducible first | refine atWhile ?_ | refine atRaise ?_ | refine atFor ?_ | refine atAssignComp ?_ | refine atComp ?_ | refine atTry ?_ | refine atAppend ?_ | refine atList ?_ | refine atTwo ?_ | refine atCall ?_ | refine atSum ?_)); first | (k_unfold; (try dsimp only)) | (k_end; wrow_close) | walk1 | (dsimp only; walk1) | (leave1; try dsimp only)))
      refine' FnE.use (read_set_ok _ l _) ?k1 ?k2 ?k3 ?k4 ?k5 ?k6 ?k7 ⟨rfl, by omega⟩ ?_ ?_ ?k9
      ((case k1 | k2 | k3 | k4 | k5 => k_asm); (case k6 | k7 => omega); (case k9 => exact rfl))
      · rintro v' h' tk' st' F' N' ⟨ps, led, hok, _⟩
        rw [hR] at hok; cases hok
      · intro v' s' hup
        exact Up.over hup (fun _ _ q => q) (fun _ q => q) (fun st q => .inr (.inl q))
    · rintro e p g' h' tk' dx vs' od sl u ⟨q', rfl, hq'⟩ hbs hHeld hff F' N' hat
      rw [hR] at hq'
      cases hq'
      have X' := KX.keeps hbs
      have T' := T.keeps hbs
      (repeat' ((fail_if_success (with_reducible first | refine atWhile ?_ | refine atRaise ?_ | refine atFor ?_ | refine atAssignComp ?_ | refine atComp ?_ | refine atTry ?_ | refine atAppend ?_ | refine atList ?_ | refine atTwo ?_ | refine atCall ?_ | refine atSum ?_)); first | (k_unfold; (try dsimp only)) | (k_end; wrow_close) | walk1 | (dsimp only; walk1) | (leave1; try dsimp only)))
      rename News _ _ _ _ => N7
      rename Fr _ _ _ _ => F7
      refine exc_at (X'.keeps F7.keep) (I := ⟨(N7 _ (List.Mem.head _)).1, rfl, rfl, (N7 _ (List.Mem.tail _ (List.Mem.head _))).1⟩) hat ?_
      (repeat' ((fail_if_success (with_reducible first | refine atWhile ?_ | refine atRaise ?_ | refine atFor ?_ | refine atAssignComp ?_ | refine atComp ?_ | refine atTry ?_ | refine atAppend ?_ | refine atList ?_ | refine atTwo ?_ | refine atCall ?_ | refine atSum ?_)); first | (k_unfold; (try dsimp only)) | (k_end; wrow_close) | walk1 | (dsimp only; walk1) | (leave1; try dsimp only)))
      rename Fr _ _ _ _ => F8
      refine CatchEnd.mk F8 (fun h5 tk5 st5 => ?_)
      exact ⟨h5, tk5, rfl, fun b o q => st5 b o (hbs b o q), by simp⟩
  · obtain ⟨⟨led, hfr, hin⟩, rfl⟩ : (∃ led, FreshIn _ h' led ∧ SetIn led x ps) ∧ j = -1 := by rw [hR] at hS; exact hS
    obtain ⟨b, vs, k, rfl, hm, hPI⟩ := id hin
    have N4 := news_flip1 (hfr.news F3 N')
    clear hS N' hfr
    (repeat' ((fail_if_success (with_reducible first | refine atWhile ?_ | refine atRaise ?_ | refine atFor ?_ | refine atAssignComp ?_ | refine atComp ?_ | refine atTry ?_ | refine atAppend ?_ | refine atList ?_ | refine atTwo ?_ | refine atCall ?_ | refine atSum ?_)); first | (k_unfold; (try dsimp only)) | (k_end; wrow_close) | walk1 | (dsimp only; walk1) | (leave1; try dsimp only)))
    rename News _ _ _ _ => N4
    rename Fr _ _ _ _ => F4
    refine fault_Try (n := Str.ofString "fault") (Err := ErrSet l) B F4 N4 KX T ?_ ?_
    rotate_left
    · rintro e p g' h' tk' dx vs' od sl u ⟨q', rfl, hq'⟩
      rw [hR] at hq'; cases hq'
    (repeat' ((fail_if_success (with_reducible first | refine atWhile ?_ | refine atRaise ?_ | refine atFor ?_ | refine atAssignComp ?_ | refine atComp ?_ | refine atTry ?_ | refine atAppend ?_ | refine atList ?_ | refine atTwo ?_ | refine atCall ?_ | refine atSum ?_)); first | (k_unfold; (try dsimp only)) | (k_end; wrow_close) | walk1 | (dsimp only; walk1) | (leave1; try dsimp only)))
    refine' FnE.use (read_set_ok _ l _) ?k1 ?k2 ?k3 ?k4 ?k5 ?k6 ?k7 ⟨rfl, by omega⟩ ?_ ?_ ?k9
    ((case k1 | k2 | k3 | k4 | k5 => k_asm); (case k6 | k7 => omega); (case k9 => exact rfl))
    rotate_left
    · intro v' s' hup
      exact Up.over hup (fun _ _ q => q) (fun _ q => q) (fun st q => .inr (.inl q))
    rintro v' h' tk' st' F' N' ⟨ps', led2, hok, hfr2, hin2⟩
    rw [hR] at hok
    cases hok
    obtain ⟨b2, vs2, k2, rfl, hm2, hPI2⟩ := id hin2
    have N6 := news_flip (hfr2.news F4 N')
    clear N' hfr2
    have hSs := (hin2.mono (led' := led2 ++ led) (fun p hp => List.mem_append_left _ hp))
    have hSd := (hin.mono (led' := led2 ++ led) (fun p hp => List.mem_append_right _ hp))
    have hgood := (readFrom_good (l.length + 1) 0 [] ps (fun _ h => nomatch h) hR).1
    have hne := (readFrom_good (l.length + 1) 0 [] ps (fun _ h => nomatch h) hR).2
    have hlen := readFrom_len (l.length + 1) 0 [] ps hR
    have hl600 : l.length ≤ 600 := by rw [← S_len]; exact hxl
    have hps : ps.length ≤ 1001 := by simp only [List.length_nil] at hlen; omega
    have hshow := readSet_show_len hR
    have hvl := hPI.length
    (repeat' ((fail_if_success (with_reducible first | refine atWhile ?_ | refine atRaise ?_ | refine atFor ?_ | refine atAssignComp ?_ | refine atComp ?_ | refine atTry ?_ | refine atAppend ?_ | refine atList ?_ | refine atTwo ?_ | refine atCall ?_ | refine atSum ?_)); first | (k_unfold; (try dsimp only)) | (k_end; wrow_close) | walk1 | (dsimp only; walk1) | (leave1; try dsimp only)))
    rename News _ _ _ _ => N8
    rename Fr _ _ _ _ => F8
    refine ne_sets (hSs.at (news_sub N8 fun p hp => List.mem_cons_of_mem _ hp)) (hSd.at (news_sub N8 fun p hp => List.mem_cons_of_mem _ hp)) (by show 4 + 3 + 64 < cLine; omega) ?_
    (repeat' ((fail_if_success (with_reducible first | refine atWhile ?_ | refine atRaise ?_ | refine atFor ?_ | refine atAssignComp ?_ | refine atComp ?_ | refine atTry ?_ | refine atAppend ?_ | refine atList ?_ | refine atTwo ?_ | refine atCall ?_ | refine atSum ?_)); first | (k_unfold; (try dsimp only)) | (k_end; wrow_close) | walk1 | (dsimp only; walk1) | (leave1; try dsimp only)))
    refine' Fn.use (show_set_ok ps (.ref b2)) ?k1 ?k2 ?k3 ?k4 ?k5 ?k6 ?k7 ⟨hSs.at (news_sub N8 fun p hp => List.mem_cons_of_mem _ hp), hgood, hps⟩ ?_ ?k9
    ((case k1 | k2 | k3 | k4 | k5 => k_asm); (case k6 | k7 => omega); (case k9 => exact rfl))
    rintro v' h' tk' st' F' N' ⟨t8, rfl⟩
    (repeat' ((fail_if_success (with_reducible first | refine atWhile ?_ | refine atRaise ?_ | refine atFor ?_ | refine atAssignComp ?_ | refine atComp ?_ | refine atTry ?_ | refine atAppend ?_ | refine atList ?_ | refine atTwo ?_ | refine atCall ?_ | refine atSum ?_)); first | (k_unfold; (try dsimp only)) | (k_end; wrow_close) | walk1 | (dsimp only; walk1) | (leave1; try dsimp only)))
    refine comp_tup (ax := b) (its := vs.toArray) (ShownG ps) F' N' (fun h k N => ⟨_, (N _ (List.mem_cons_of_mem _ (List.mem_append_right _ hm))).1, rfl, _, rfl⟩) (by rw [List.size_toArray, sizeLine_eq]; omega) rfl (shownG_zero ps) (fun Q' hq => ?_) ?_ ?_
    · (repeat' ((fail_if_success (with_reducible first | refine atWhile ?_ | refine atRaise ?_ | refine atFor ?_ | refine atAssignComp ?_ | refine atComp ?_ | refine atTry ?_ | refine atAppend ?_ | refine atList ?_ | refine atTwo ?_ | refine atCall ?_ | refine atSum ?_)); first | (k_unfold; (try dsimp only)) | (k_end; wrow_close) | walk1 | (dsimp only; walk1) | (leave1; try dsimp only)))
      exact hq
    · rintro i ys v I oI C oC D m₂ h tk E' ⟨hi', hv⟩ hG hC hx F₁ N₁ ⟨ne1, ne2, ne3⟩
      rw [List.getElem?_toArray] at hv
      have hP : PairsAt h vs ps := hPI.at (news_sub N₁ fun p hp => by simp [hp])
      obtain ⟨a, p, t, u, rfl, hp, hpt⟩ := hP.get hv
      have hgp := hgood p (List.mem_of_getElem? hp)
      (repeat' ((fail_if_success (with_reducible first | refine atWhile ?_ | refine atRaise ?_ | refine atFor ?_ | refine atAssignComp ?_ | refine atComp ?_ | refine atTry ?_ | refine atAppend ?_ | refine atList ?_ | refine atTwo ?_ | refine atCall ?_ | refine atSum ?_)); first | (k_unfold; (try dsimp only)) | (k_end; wrow_close) | walk1 | (dsimp only; walk1) | (leave1; try dsimp only)))
      refine' Fn.use (law_shown_ok a p.1 p.2 t u) ?k1 ?k2 ?k3 ?k4 ?k5 ?k6 ?k7 ⟨hpt, hgp⟩ ?_ ?k9
      ((case k1 | k2 | k3 | k4 | k5 => k_asm); (case k6 | k7 => omega); (case k9 => exact rfl))
      rintro v' h' tk' st' F' N' ⟨t', rfl, _⟩
      exact LcGot.mk F' N' (shownG_snoc hG hp)
    · intro D h tk ys hG F₁ N₁ _
      obtain ⟨lx, rfl, hlx⟩ := hG
      rw [List.size_toArray, hvl, List.take_length] at hlx
      have hIL : h.IsList D (strValues lx).toArray := ⟨LCg.lst (strValues lx), (N₁ _ (List.Mem.head _)).1, rfl, _, rfl⟩
      (repeat' ((fail_if_success (with_reducible first | refine atWhile ?_ | refine atRaise ?_ | refine atFor ?_ | refine atAssignComp ?_ | refine atComp ?_ | refine atTry ?_ | refine atAppend ?_ | refine atList ?_ | refine atTwo ?_ | refine atCall ?_ | refine atSum ?_)); first | (k_unfold; (try dsimp only)) | (k_end; wrow_close) | walk1 | (dsimp only; walk1) | (leave1; try dsimp only)))
      refine SC.join hIL hlx (join_ok hgood hps) ?_
      intro t9
      rw [txt_join_show]
      (repeat' ((fail_if_success (with_reducible first | refine atWhile ?_ | refine atRaise ?_ | refine atFor ?_ | refine atAssignComp ?_ | refine atComp ?_ | refine atTry ?_ | refine atAppend ?_ | refine atList ?_ | refine atTwo ?_ | refine atCall ?_ | refine atSum ?_)); first | (k_unfold; (try dsimp only)) | (k_end; wrow_close) | walk1 | (dsimp only; walk1) | (leave1; try dsimp only)))
      · rename (_ != _) = true => hz
        simp at hz
      refine' Fn.use (show_set_ok ps (.ref b2)) ?k1 ?k2 ?k3 ?k4 ?k5 ?k6 ?k7 ⟨hSs.at (news_sub N₁ fun p hp => List.mem_cons_of_mem _ (List.mem_cons_of_mem _ hp)), hgood, hps⟩ ?_ ?k9
      ((case k1 | k2 | k3 | k4 | k5 => k_asm); (case k6 | k7 => omega); (case k9 => exact rfl))
      rintro v' h' tk' st' F' N' ⟨t10, rfl⟩
      (repeat' ((fail_if_success (with_reducible first | refine atWhile ?_ | refine atRaise ?_ | refine atFor ?_ | refine atAssignComp ?_ | refine atComp ?_ | refine atTry ?_ | refine atAppend ?_ | refine atList ?_ | refine atTwo ?_ | refine atCall ?_ | refine atSum ?_)); first | (k_unfold; (try dsimp only)) | (k_end; wrow_close) | walk1 | (dsimp only; walk1) | (leave1; try dsimp only)))
      rename News _ _ _ _ => N10
      rename Fr _ _ _ _ => F10
      refine' FnE.use (read_set_ok _ (showSet ps) _) ?k1 ?k2 ?k3 ?k4 ?k5 ?k6 ?k7 ⟨rfl, by rw [S_len]; omega⟩ ?_ ?_ ?k9
      ((case k1 | k2 | k3 | k4 | k5 => k_asm); (case k6 | k7 => omega); (case k9 => exact rfl))
      rotate_left
      · rintro v' s' ⟨e, p, st, h', tk', _, _, _, _, _, ⟨q, _, hq⟩⟩
        rw [readSet_show hne hgood] at hq
        cases hq
      rintro v' h' tk' st' F' N' ⟨ps', led3, hok, hfr3, hin3⟩
      rw [readSet_show hne hgood] at hok
      cases hok
      obtain ⟨b3, vs3, k3, rfl, hm3, hPI3⟩ := id hin3
      have hN3 := hfr3.news F10 N'
      clear N' N10 hfr3
      (repeat' ((fail_if_success (with_reducible first | refine atWhile ?_ | refine atRaise ?_ | refine atFor ?_ | refine atAssignComp ?_ | refine atComp ?_ | refine atTry ?_ | refine atAppend ?_ | refine atList ?_ | refine atTwo ?_ | refine atCall ?_ | refine atSum ?_)); first | (k_unfold; (try dsimp only)) | (k_end; wrow_close) | walk1 | (dsimp only; walk1) | (leave1; try dsimp only)))
      rename News _ _ _ _ => N12
      refine ne_sets (hin3.at (news_sub N12 fun p hp => List.mem_append_left _ hp)) (hSd.at (news_sub N12 fun p hp => List.mem_append_right _ (List.mem_cons_of_mem _ (List.mem_cons_of_mem _ hp)))) (by show 4 + 3 + 64 < cLine; omega) ?_
      have N13 := news_sub N12 (fun p hp => List.mem_append_right _ (List.mem_cons_of_mem _ hp))
      clear N12
      (repeat' ((fail_if_success (with_reducible first | refine atWhile ?_ | refine atRaise ?_ | refine atFor ?_ | refine atAssignComp ?_ | refine atComp ?_ | refine atTry ?_ | refine atAppend ?_ | refine atList ?_ | refine atTwo ?_ | refine atCall ?_ | refine atSum ?_)); first | (k_unfold; (try dsimp only)) | (k_end; wrow_close) | walk1 | (dsimp only; walk1) | (leave1; try dsimp only)))
      rename News _ _ _ _ => N14
      rename Fr _ _ _ _ => F14
      refine LSm.sum_ints F14 N14 rfl ⟨_, (N14 _ (List.Mem.head _)).1, rfl, _, rfl⟩ hI2 (fun h15 tk15 t15 F15 N15 => ?_)
      (repeat' ((fail_if_success (with_reducible first | refine atWhile ?_ | refine atRaise ?_ | refine atFor ?_ | refine atAssignComp ?_ | refine atComp ?_ | refine atTry ?_ | refine atAppend ?_ | refine atList ?_ | refine atTwo ?_ | refine atCall ?_ | refine atSum ?_)); first | (k_unfold; (try dsimp only)) | (k_end; wrow_close) | walk1 | (dsimp only; walk1) | (leave1; try dsimp only)))
      have hw0 : 0 ≤ (List.take 24 ns).sum.fmod 30 := Int.fmod_nonneg_of_pos _ (by decide)
      have hw1 : (List.take 24 ns).sum.fmod 30 < 30 := Int.fmod_lt_of_pos _ (by decide)
      refine FnU.use0 (law_split_ok ps (.ref b2) _ _) B F15 N15 KX T (by omega) (by show 4 + 3 + 8 * 9 + 8 < cLine; omega) ⟨hSs.at (news_sub N15 fun p hp => List.mem_cons_of_mem _ hp), hgood, hps, hw0, by omega⟩ ?_
      rintro _ h16 tk16 F16 N16 rfl
      clear F15 N15
      (repeat' ((fail_if_success (with_reducible first | refine atWhile ?_ | refine atRaise ?_ | refine atFor ?_ | refine atAssignComp ?_ | refine atComp ?_ | refine atTry ?_ | refine atAppend ?_ | refine atList ?_ | refine atTwo ?_ | refine atCall ?_ | refine atSum ?_)); first | (k_unfold; (try dsimp only)) | (k_end; wrow_close) | walk1 | (dsimp only; walk1) | (leave1; try dsimp only)))
      refine FnU.use0 (law_split_ok ps (.ref b2) _ _) B F16 N16 KX T (by omega) (by show 4 + 3 + 8 * 9 + 8 < cLine; omega) ⟨hSs.at (news_sub N16 fun p hp => List.mem_cons_of_mem _ hp), hgood, hps, by omega, by omega⟩ ?_
      rintro _ h17 tk17 F17 N17 rfl
      clear F16 N16
      (repeat' ((fail_if_success (with_reducible first | refine atWhile ?_ | refine atRaise ?_ | refine atFor ?_ | refine atAssignComp ?_ | refine atComp ?_ | refine atTry ?_ | refine atAppend ?_ | refine atList ?_ | refine atTwo ?_ | refine atCall ?_ | refine atSum ?_)); first | (k_unfold; (try dsimp only)) | (k_end; wrow_close) | walk1 | (dsimp only; walk1) | (leave1; try dsimp only)))
      exact ⟨h17, tk17, rfl, F17.keep, rfl⟩
end

end
end Nz

theorem PySem.Challenge.cw_nz0275_01_holds : PySem.Challenge.rw_nz0275_01.Holds :=
  Nz.holds
