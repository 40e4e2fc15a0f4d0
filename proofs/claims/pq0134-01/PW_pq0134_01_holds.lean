import PyProof.Rows.All
import Wide.All
import OpenK.AllK
import Wide.FinOn
import Lean
import PySem.Challenge.RW_pq0134_01
open PySem PySem.W PyProof.Rows PySem.Calls PySem.Spec
set_option Elab.async false
set_option maxRecDepth 100000
set_option maxHeartbeats 8000000
namespace Mine
-- part HeadA
open_top hd for PySem.Challenge.rw_pq0134_01

-- part StrB
/-- a text from its signs -/
abbrev S (l : List Nat) : Str := ⟨l.toArray⟩
theorem S_len (l : List Nat) : (S l).length = l.length := by simp [Str.length]
theorem S_app (a b : List Nat) : S a ++ S b = S (a ++ b) := Str.ext' (by simp [Str.cps_append])
theorem S_inj {a b : List Nat} (h : S a = S b) : a = b := by simpa [S] using h
theorem S_eq_iff {a b : List Nat} : S a = S b ↔ a = b := ⟨S_inj, fun h => h ▸ rfl⟩
theorem S_beq (a b : List Nat) : (S a == S b) = decide (a = b) := by
  by_cases h : a = b
  · subst h; simp
  · rw [decide_eq_false h]; exact beq_eq_false_iff_ne.mpr fun e => h (S_inj e)
theorem S_cps (l : List Nat) : (S l).cps.toList = l := rfl

theorem item_S {l : List Nat} {k : Nat} (h : k < l.length) : Txt.item (S l) (k : Int) = S [l[k]] := by
  have e : seqIndex? (k : Int) l.length = some k := by
    unfold seqIndex?
    have h1 : ¬ ((k : Int) < 0) := by omega
    simp only [h1, if_false]
    rw [if_pos (by simp; omega)]; rfl
  simp [Txt.item, Txt.charAt, Str.length, e, h]
theorem noOcc_S (y : List Nat) (c : Nat) : (Builtin.Str.occurrences (S y) (S [c]) 0 (S y).length 1).isEmpty = !decide (c ∈ y) := by
  have h := StrLaws.found_one (S y) c
  rw [← h, Bool.not_not]

/-- where a sign stands first from `i` on, or the end -/
def idxFrom (l : List Nat) (c i : Nat) : Nat := i + ((l.drop i).takeWhile (· != c)).length
theorem takeWhile_ne_len {l : List Nat} {c k : Nat} (hk : l[k]? = some c) (hn : ∀ v, v < k → l[v]? ≠ some c) : (l.takeWhile (· != c)).length = k := by
  induction l generalizing k with
  | nil => simp at hk
  | cons a r ih =>
    cases k with
    | zero =>
      simp at hk; subst hk; simp
    | succ k =>
      have h0 := hn 0 (by omega)
      simp at h0
      simp at hk
      have := ih hk (fun v hv => by have := hn (v + 1) (by omega); simpa using this)
      simp [h0, this]
theorem find3_S (l : List Nat) (c i : Nat) : Txt.find3 (S l) (S [c]) (i : Int) = if c ∈ l.drop i then ((idxFrom l c i : Nat) : Int) else -1 := by
  have hf : fromIndex (S l).length (i : Int) = i := by
    unfold fromIndex
    have : ¬ ((i : Int) < 0) := by omega
    simp only [this, if_false]; omega
  have gd : ∀ k, k < l.length → (S l).cps.getD k 0 = l[k]?.getD 0 := fun k hk => by simp [Array.getD, hk]
  rcases StrLaws.find3_spec (S l) c (i : Int) with ⟨h, hn⟩ | ⟨k, h, h1, h2, h3, h4⟩
  · rw [h, if_neg]
    intro hm
    obtain ⟨v, hv, e⟩ := List.getElem_of_mem hm
    rw [List.getElem_drop] at e
    have hv' : i + v < l.length := by simp at hv; omega
    refine hn (i + v) (by rw [hf]; omega) (by rw [S_len]; exact hv') ?_
    rw [gd _ hv', List.getElem?_eq_getElem hv']; exact e
  · rw [hf] at h1 h4
    rw [S_len] at h2
    rw [gd _ h2, List.getElem?_eq_getElem h2] at h3
    have hk : (l.drop i)[k - i]? = some c := by
      rw [List.getElem?_drop, show i + (k - i) = k by omega, List.getElem?_eq_getElem h2]; exact congrArg some h3
    rw [h, if_pos (List.mem_of_getElem? hk)]
    have := takeWhile_ne_len hk (fun v hv e => by
      rw [List.getElem?_drop] at e
      have hl : i + v < l.length := (List.getElem?_eq_some_iff.mp e).1
      refine h4 (i + v) (by omega) (by omega) ?_
      rw [gd _ hl, e]; rfl)
    rw [idxFrom, this]; omega
theorem idxFrom_lt {l : List Nat} {c i : Nat} (h : c ∈ l.drop i) : idxFrom l c i < l.length := by
  obtain ⟨v, hv, e⟩ := List.getElem_of_mem h
  have : ((l.drop i).takeWhile (· != c)).length < (l.drop i).length := by
    refine Nat.lt_of_not_le fun hle => ?_
    have he : (l.drop i).takeWhile (· != c) = l.drop i := (List.takeWhile_prefix _).eq_of_length_le hle
    rw [← he] at h
    have := List.all_takeWhile (p := (· != c)) (l := l.drop i)
    rw [List.all_eq_true] at this
    have := this c h
    simp at this
  rw [List.length_drop] at this
  unfold idxFrom; omega

theorem clip_lo (i n : Nat) : max (0 : Int) (min (if ((i : Int) < 0) then (i : Int) + n else i) n) = ((min i n : Nat) : Int) := by
  have : ¬ ((i : Int) < 0) := by omega
  simp only [this, if_false]; omega
theorem sl_any (x : Str) (a b : Option Int) (i j : Nat) (hi : i ≤ j) (hj : j ≤ x.length) (e : Builtin.Str.strSliceIndices a b 1 x.length = (List.range (j - i)).map fun k => i + k) : Txt.slice x a b = S ((x.cps.toList.take j).drop i) := by
  have hp := StrLaws.picks x.cps.toList (j - i) i (by simp [Str.length] at hj ⊢; omega)
  have hp' : ((List.range (j - i)).map fun k => i + k).filterMap (x.cps[·]?) = (x.cps.toList.drop i).take (j - i) := by
    rw [← hp]; simp
  unfold Txt.slice
  rw [e]
  split
  · rename_i h
    simp at h
    have h1 : i = 0 := by omega
    have h2 : j = x.length := by omega
    subst h1; subst h2
    refine Str.ext' ?_
    show x.cps = (List.drop 0 (List.take x.length x.cps.toList)).toArray
    rw [List.take_of_length_le (by simp [Str.length])]
    simp
  · rw [hp', List.drop_take]
theorem slice_from (l : List Nat) (i : Nat) (a : Int) (ha : a = (i : Int)) : Txt.slice (S l) (some a) none = S (l.drop i) := by
  subst ha
  by_cases h : i ≤ l.length
  · rw [sl_any (S l) _ _ i l.length h (by rw [S_len]; exact Nat.le_refl _)]
    · simp
    · have := StrLaws.strSliceIndices_plain (a := i) (b := l.length) (len := l.length) h (Nat.le_refl _)
      rw [S_len]
      rw [← this]
      unfold Builtin.Str.strSliceIndices
      simp
      congr 1
      omega
  · have h' : l.length ≤ i := by omega
    rw [sl_any (S l) _ _ l.length l.length (Nat.le_refl _) (by rw [S_len]; exact Nat.le_refl _)]
    · simp [List.drop_eq_nil_of_le h']
    · rw [S_len]
      unfold Builtin.Str.strSliceIndices sliceRange
      have : ¬ ((i : Int) < 0) := by omega
      simp [this]
      omega
theorem slice_mid (l : List Nat) (i j : Nat) (a b : Int) (ha : a = (i : Int)) (hb : b = (j : Int)) : Txt.slice (S l) (some a) (some b) = S ((l.take j).drop i) := by
  subst ha; subst hb
  by_cases h : min i l.length ≤ min j l.length
  · rw [sl_any (S l) _ _ (min i l.length) (min j l.length) h (by rw [S_len]; omega)]
    · have e1 : l.take (min j l.length) = l.take j := by simp [← List.take_eq_take_min]
      rw [S_cps, e1]
      by_cases hi : i ≤ l.length
      · rw [Nat.min_eq_left hi]
      · rw [Nat.min_eq_right (by omega), List.drop_eq_nil_of_le (by simp; omega), List.drop_eq_nil_of_le (by simp; omega)]
    · have := StrLaws.strSliceIndices_plain (a := min i l.length) (b := min j l.length) (len := l.length) h (by omega)
      rw [S_len, ← this]
      unfold Builtin.Str.strSliceIndices
      have h1 : ¬ ((i : Int) < 0) := by omega
      have h2 : ¬ ((j : Int) < 0) := by omega
      have h3 : ¬ (((min i l.length : Nat) : Int) < 0) := by omega
      have h4 : ¬ (((min j l.length : Nat) : Int) < 0) := by omega
      simp only [h1, h2, h3, h4, if_false]
      congr 1
      · simp; omega
      · simp; omega
  · rw [sl_any (S l) _ _ 0 0 (Nat.le_refl _) (Nat.zero_le _)]
    · have : (l.take j).drop i = [] := List.drop_eq_nil_of_le (by simp; omega)
      simp [this]
    · rw [S_len]
      unfold Builtin.Str.strSliceIndices sliceRange
      have h1 : ¬ ((i : Int) < 0) := by omega
      have h2 : ¬ ((j : Int) < 0) := by omega
      simp [h1, h2]
      omega
theorem slice_to (l : List Nat) (j : Nat) (b : Int) (hb : b = (j : Int)) : Txt.slice (S l) none (some b) = S (l.take j) := by
  subst hb
  rw [sl_any (S l) _ _ 0 (min j l.length) (Nat.zero_le _) (by rw [S_len]; omega)]
  · simp [← List.take_eq_take_min]
  · have := StrLaws.strSliceIndices_plain (a := 0) (b := min j l.length) (len := l.length) (Nat.zero_le _) (by omega)
    rw [S_len, ← this]
    unfold Builtin.Str.strSliceIndices
    have h2 : ¬ ((j : Int) < 0) := by omega
    have h4 : ¬ (((min j l.length : Nat) : Int) < 0) := by omega
    simp only [h2, h4, if_false]
    congr 1
    simp; omega

/-- strip at the end -/
def rstripL (p : Nat → Bool) (l : List Nat) : List Nat := (l.reverse.dropWhile p).reverse
def stripL (p : Nat → Bool) (l : List Nat) : List Nat := rstripL p (l.dropWhile p)
theorem takeWhile_length_add (p : Nat → Bool) (l : List Nat) : (l.takeWhile p).length + (l.dropWhile p).length = l.length := by
  rw [← List.length_append, List.takeWhile_append_dropWhile]
theorem drop_takeWhile (p : Nat → Bool) (l : List Nat) : l.drop (l.takeWhile p).length = l.dropWhile p := by
  induction l with
  | nil => rfl
  | cons a r ih => by_cases h : p a <;> simp [h, ih]
theorem rstripL_take (p : Nat → Bool) (l : List Nat) : rstripL p l = l.take (l.length - (l.reverse.takeWhile p).length) := by
  unfold rstripL
  rw [← drop_takeWhile, List.drop_reverse, List.reverse_reverse]
theorem rstrip_S (l b : List Nat) : Txt.rstripChars (S l) (S b) = S (rstripL b.contains l) := by
  have e : PySem.stripped (S b).cps.contains false true (S l) = S (rstripL b.contains l) := by
    unfold PySem.stripped stripLo stripHi
    refine Str.ext' (Array.toList_inj.mp ?_)
    rw [StrLaws.strSub_toList, rstripL_take]
    have hc : (S b).cps.contains = b.contains := by funext c; simp
    rw [hc]
    simp [Str.length]
  unfold Txt.rstripChars Txt.stripBy
  split
  · rename_i h
    rw [← e]
    unfold stripSame at h
    simp only [Bool.and_eq_true, beq_iff_eq] at h
    unfold PySem.stripped
    refine Str.ext' (Array.toList_inj.mp ?_)
    rw [StrLaws.strSub_toList, h.2, h.1]
    simp [Str.length]
  · exact e
theorem strip_S (l b : List Nat) : Txt.stripChars (S l) (S b) = S (stripL b.contains l) := by
  have e : PySem.stripped (S b).cps.contains true true (S l) = S (stripL b.contains l) := by
    unfold PySem.stripped stripLo stripHi stripL
    refine Str.ext' (Array.toList_inj.mp ?_)
    rw [StrLaws.strSub_toList, rstripL_take]
    have hc : (S b).cps.contains = b.contains := by funext c; simp
    simp only [if_true, S_cps, hc, drop_takeWhile, S_len]
    congr 1
    have := takeWhile_length_add b.contains l
    omega
  unfold Txt.stripChars Txt.stripBy
  split
  · rename_i h
    rw [← e]
    unfold stripSame at h
    simp only [Bool.and_eq_true, beq_iff_eq] at h
    unfold PySem.stripped
    refine Str.ext' (Array.toList_inj.mp ?_)
    rw [StrLaws.strSub_toList, h.2, h.1]
    simp [Str.length]
  · exact e
theorem join_S (sep : List Nat) : ∀ xs : List (List Nat), Str.join (S sep) (xs.map S) = S (List.intercalate sep xs)
  | [] => by simp [Str.join, Str.empty]
  | [x] => by simp [Str.join]
  | x :: y :: r => by
    have ih := join_S sep (y :: r)
    rw [List.map_cons, List.map_cons]
    show S x ++ S sep ++ Str.join (S sep) ((y :: r).map S) = _
    rw [ih, S_app, S_app]
    congr 1
    simp [List.intercalate, List.intersperse]
theorem mul_S (c : Nat) (n : Nat) (a : Int) (ha : a = (n : Int)) : Txt.mul (S [c]) a = S (List.replicate n c) := by
  subst ha
  unfold Txt.mul
  cases n with
  | zero => simp [Str.empty]
  | succ n =>
    rw [if_neg (by omega)]
    split
    · rename_i h
      simp [Str.length] at h
      have : n = 0 := by omega
      subst this; rfl
    · refine Str.ext' (Array.toList_inj.mp ?_)
      have : ∀ (k : Nat) (acc : Array Nat), ((List.replicate k (#[c] : Array Nat)).foldl (· ++ ·) acc).toList = acc.toList ++ List.replicate k c := by
        intro k
        induction k with
        | zero => intro acc; simp
        | succ k ih => intro acc; rw [List.replicate_succ, List.foldl_cons, ih]; simp [List.replicate_succ]
      have h2 := this (n + 1) #[]
      simpa using h2
theorem occ_from_S {l : List Nat} {c i : Nat} (h : c ∈ l.drop i) : ∃ rest, Builtin.Str.occurrences (S l) (S [c]) (fromIndex (S l).length (i : Int)) (S l).length 1 = idxFrom l c i :: rest := by
  have h3 := find3_S l c i
  rw [if_pos h] at h3
  unfold Txt.find3 at h3
  split at h3
  · rename_i k r he; rw [he]; exact ⟨r, by rw [Int.ofNat.inj h3]⟩
  · rename_i he; omega
theorem occ_S {l : List Nat} {c : Nat} (h : c ∈ l) : ∃ rest, Builtin.Str.occurrences (S l) (S [c]) 0 (S l).length 1 = idxFrom l c 0 :: rest := by
  have hf : fromIndex (S l).length ((0 : Nat) : Int) = 0 := by unfold fromIndex; simp
  have := occ_from_S (l := l) (c := c) (i := 0) (by simpa using h)
  rwa [hf] at this
theorem gives_index_from (x y : Str) (i : Int) (t u v : Tok) (k : Nat) (rest : List Nat) (ho : Builtin.Str.occurrences x y (fromIndex x.length i) x.length 1 = k :: rest) : Gives (Builtin.«str.index» ⟨[.str x t, .str y u, .int i v], []⟩) (.int (k : Int)) := by
  show Gives (match Builtin.Str.occurrences x y (fromIndex x.length i) (min x.length x.length) 1 with | i :: _ => retInt i | [] => (do rule "str.index.not-found"; raiseError "ValueError" "substring not found")) _
  rw [Nat.min_self, ho]
  exact .of_eq rfl
section
variable {prog : Program} {w : World} {A : Around} {E : Value → Shared → Prop} {s : Shared} {l : List Nat} {c : Nat} {t u v : Tok} {Q : Value → Shared → Prop}
theorem index_own (h : c ∈ l) (hq : Q (.int (idxFrom l c 0 : Int) s.toks) { s with toks := s.toks + 1 }) : wpAny (model prog w) A (call (.builtin "str.index") [.str (S l) t, .str (S [c]) u]) Q E s := by
  obtain ⟨r, hr⟩ := occ_S h
  exact SC.index hr hq
theorem index_own3 {i : Nat} {a : Int} (ha : a = (i : Int)) (h : c ∈ l.drop i) (hq : Q (.int (idxFrom l c i : Int) s.toks) { s with toks := s.toks + 1 }) : wpAny (model prog w) A (call (.builtin "str.index") [.str (S l) t, .str (S [c]) u, .int a v]) Q E s := by
  subst ha
  obtain ⟨r, hr⟩ := occ_from_S h
  exact call_gives F.slot_str_index (typeIs_str _ _ _) F.entry_str_index (F.args_str_index_3 _ _ _) (gives_index_from _ _ _ t u v _ _ hr) hq
end

-- part BaseA


/-- what a call of `f` with `vs` hands back, whatever the caller's frame -/
def Says (w : World) (need : Nat) (f : Addr) (vs : List Value) (Pre : Heap → Prop) (Post : Heap → Heap → Value → Prop) : Prop :=
  ∀ (mean : ExcName → Option Value) (mg mb : Str → Option Value) (dp un : Nat) (gd : Option (List Code)) (cn : Str) (cs : Scope) (a : Addr) (ccd : Value) (cl : List (Str × Addr)) (outer : List Env) (A₀ : Around) (base h₀ : Heap) (L : Addr) (m : Str → Option Value) (s : Shared) (Q E : Value → Shared → Prop),
    Below A₀ base outer h₀ → Fr h₀ L s.heap m → (hd.heap_39 w.params).In h₀ → Top hd.view_39 (looseW hd.view_39 []) mean mg mb h₀ → cs.kind = .function → dp + need < recursionLimit → un + 8 * need + 100 < cLine → Pre s.heap →
    (∀ r h' tk', Fr h₀ L h' m → (∀ b o, s.heap.get? b = some o → h'.get? b = some o) → Post s.heap h' r → Q r { s with heap := h', toks := tk' }) →
    wpAny (model PySem.Challenge.rw_pq0134_01.row.prog w) (ktrTop dp un gd cn cs L a ccd cl outer) (call (.ref f) vs) Q E s

def LeaveO (h₀ : Heap) (L : Addr) (m : Str → Option Value) (g : Heap) (R : Result → Shared → Prop) (v : Value) (s' : Shared) : Prop :=
  (∃ L' m', Fr g L' s'.heap m') ∧ (Fr h₀ L s'.heap m → (∀ b o, g.get? b = some o → s'.heap.get? b = some o) → R (.ok (.ret v)) s')
theorem LeaveO.intro {h₀ g : Heap} {L L' : Addr} {m m' : Str → Option Value} {R : Result → Shared → Prop} {v : Value} {s' : Shared} (F' : Fr g L' s'.heap m')
    (k : Fr h₀ L s'.heap m → (∀ b o, g.get? b = some o → s'.heap.get? b = some o) → R (.ok (.ret v)) s') : LeaveO h₀ L m g R v s' := ⟨⟨L', m', F'⟩, k⟩

theorem lookup_kstB (ps : List (Str × Value)) : (fun y => ps.lookup y) = kstB (fun _ => none) ps := by
  funext y
  induction ps with
  | nil => rfl
  | cons p r ih =>
    obtain ⟨k, v⟩ := p
    show List.lookup y ((k, v) :: r) = if y = k then some v else kstB (fun _ => none) r y
    rw [List.lookup_cons, ← ih]
    by_cases h : y = k
    · subst h; simp
    · rw [if_neg h, beq_eq_false_iff_ne.mpr h]
section
variable {prog : Program} {w : World} {A A₀ : Around} {s : Shared} {K : Frag} {L : Addr} {h₀ base : Heap} {m mg mb : Str → Option Value} {p : Program} {loose : List Str} {mean : ExcName → Option Value}
theorem enterO {env : Env} {outer : List Env} {R : Result → Shared → Prop} {name qual : Str} {params : Arguments} {body : List Stmt} {scope : Scope} {dV kV doc pm cdv ct oc : Value} {an od : Option Addr} {osl : Array (Option Value)} {f : Addr} {args : Args} {binds : List (Str × Value)}
    (B : Below A₀ base outer h₀) (F : Fr h₀ L s.heap m) (X₀ : K.In h₀) (T : Top p loose mean mg mb h₀) (hA : A.frames = some (env :: outer)) (hf : env.frame = some L) (hke : env.scope.kind = .function)
    (ho : K.lookup f = some ⟨oc, od, .func (fnOf name qual params body scope dV kV doc pm an cdv ct), osl⟩) (hcd : codeIn K cdv qual = true) (hroom : A.depth < recursionLimit)
    (hbind : BindsTo s (fnOf name qual params body scope dV kV doc pm an cdv ct) args binds.reverse) (hloc : ∀ y ∈ binds.reverse, scope.names.lookup y.1 = some .local)
    (h : ∀ g L' h₁ tk₁, g = s.heap → Fr g L' h₁ (kstB (fun _ => none) binds) → News g L' h₁ [] → Below A base (env :: outer) g → K.In g → Top p loose mean mg mb g →
      wpAny (model prog w) (A.deeper (envOf qual scope L' f cdv)) (execs body (envOf qual scope L' f cdv))
        (fun fl s' => LeaveO h₀ L m g R (match fl with | .ret v => v | _ => .none) s')
        (fun e s' => wpAny (model prog w) (A.deeper (envOf qual scope L' f cdv)) (leaving (envOf qual scope L' f cdv) e) (fun _ s'' => R (.error e) s'') (fun e' s'' => R (.error e') s'') s')
        { s with heap := h₁, toks := tk₁ })
    (hco : scope.isCoroutine = false) (hgen : scope.isGenerator = false) (hk : scope.kind = .function)
    (hcell : ∀ x ∈ scope.names, x.2 ≠ .cell) : codeAny (model prog w) A (.call (.ref f) args) R s := by
  refine codeAny_call_def (fd := fnOf name qual params body scope dV kV doc pm an cdv ct) (body := body) (binds := binds.reverse) hroom ((X₀.keeps F.keep) _ _ ho) rfl (T.nolimit.keeps F.keep) (codeRec_of (X₀.keeps F.keep) hcd) rfl hbind hcell hloc (fun h₁ hns hk₁ => ?_) hco hgen hk
  have B₁ := pushX B F hf hke
  refine wpAny_mono (h s.heap s.heap.objs.size h₁ _ rfl ⟨by rw [List.reverse_reverse, lookup_kstB] at hns; exact hns, hk₁, Nat.le_refl _⟩ News.nil ⟨hA, B₁.stays, B₁.frames⟩ (X₀.keeps F.keep) (T.keeps F.keep)) (fun fl s' hl => ?_) fun _ _ y => y
  obtain ⟨⟨L', m', F'⟩, k⟩ := hl
  exact k (F.after F'.keep) F'.keep
end

def Hold (P : Prop) : Prop := P
theorem hold {P : Prop} (h : Hold P) : P := h
theorem Hold.out {P : Prop} (h : P) : Hold P := h

/-- what is known of a frame's names -/
noncomputable def Know (m : Str → Option Value) : List (Str × Value) → Prop
  | [] => True
  | p :: r => m p.1 = some p.2 ∧ Know m r
theorem Know.all {m : Str → Option Value} : ∀ {ps : List (Str × Value)}, Know m ps → ∀ p ∈ ps, m p.1 = some p.2
  | _ :: _, ⟨h, _⟩, _, .head _ => h
  | _ :: _, ⟨_, r⟩, _, .tail _ q => r.all _ q
theorem Know.fr {g h : Heap} {L : Addr} {m : Str → Option Value} {ps : List (Str × Value)} (k : Know m ps) (F : Fr g L h m) : Fr g L h (kstB m ps) := by
  have e : kstB m ps = m := funext fun z => kstB_eq k.all fun _ => rfl
  rw [e]; exact F
theorem Know.frx {g h : Heap} {L : Addr} {m : Str → Option Value} {ps : List (Str × Value)} {x : Str} {v : Value} (k : Know m ps) (F : Fr g L h (fun y => if y = x then some v else m y)) : Fr g L h (kstB m ((x, v) :: ps)) := by
  have e : kstB m ((x, v) :: ps) = fun y => if y = x then some v else m y := by
    funext z
    show (if z = x then some v else kstB m ps z) = if z = x then some v else m z
    by_cases h : z = x
    · rw [if_pos h, if_pos h]
    · rw [if_neg h, if_neg h]; exact kstB_eq k.all fun _ => rfl
  rw [e]; exact F
theorem News.lift {h₀ h h' : Heap} {L : Addr} {news : List (Addr × Obj)} (N : News h₀ L h news) (k : ∀ b o, h.get? b = some o → h'.get? b = some o) : News h₀ L h' news :=
  fun p hp => ⟨k _ _ (N p hp).1, (N p hp).2⟩
theorem News.fresh' {h₀ h h' : Heap} {L a : Addr} {o : Obj} {m : Str → Option Value} {news : List (Addr × Obj)} (F : Fr h₀ L h m) (N : News h₀ L h' news) (ho : h'.get? a = some o) (hn : h.get? a = none) : News h₀ L h' ((a, o) :: news) := by
  intro p hp
  rcases List.mem_cons.mp hp with rfl | hp
  · refine ⟨ho, ?_, ?_⟩
    · rintro rfl
      obtain ⟨oL, _, _, hL, _⟩ := F.ns
      rw [hL] at hn; cases hn
    · cases hq : h₀.get? a with
      | none => rfl
      | some o' => have := F.keep _ _ hq; rw [hn] at this; cases this
  · exact N p hp
theorem Says.use {w : World} {need : Nat} {f : Addr} {vs : List Value} {Pre : Heap → Prop} {Post : Heap → Heap → Value → Prop} (h : Says w need f vs Pre Post)
    {mean : ExcName → Option Value} {mg mb : Str → Option Value} {dp un : Nat} {gd : Option (List Code)} {cn : Str} {cs : Scope} {a : Addr} {ccd : Value} {cl : List (Str × Addr)} {outer : List Env} {A₀ : Around} {base h₀ : Heap} {L : Addr} {m : Str → Option Value} {s : Shared} {Q E : Value → Shared → Prop}
    (B : Below A₀ base outer h₀) (F : Fr h₀ L s.heap m) (X : (hd.heap_39 w.params).In h₀) (T : Top hd.view_39 (looseW hd.view_39 []) mean mg mb h₀) (hk : cs.kind = .function) (hd : dp + need < recursionLimit) (hu : un + 8 * need + 100 < cLine) (hp : Pre s.heap)
    (ret : ∀ r h' tk', Fr h₀ L h' m → (∀ b o, s.heap.get? b = some o → h'.get? b = some o) → Post s.heap h' r → Q r { s with heap := h', toks := tk' }) :
    wpAny (model PySem.Challenge.rw_pq0134_01.row.prog w) (ktrTop dp un gd cn cs L a ccd cl outer) (call (.ref f) vs) Q E s :=
  h mean mg mb dp un gd cn cs a ccd cl outer A₀ base h₀ L m s Q E B F X T hk hd hu hp ret
/-- a tuple of these items stands there -/
abbrev TupAt (h : Heap) (a : Addr) (vs : List Value) : Prop := ∃ n, h.get? a = some { cls := .type "tuple", data := .seq vs.toArray n }
abbrev ListAt (h : Heap) (a : Addr) (vs : List Value) : Prop := ∃ n, h.get? a = some { cls := .type "list", data := .seq vs.toArray n }
/-- two lists, item by item -/
inductive All2 {α β : Type} (R : α → β → Prop) : List α → List β → Prop
  | nil : All2 R [] []
  | cons {a : α} {b : β} {as : List α} {bs : List β} : R a b → All2 R as bs → All2 R (a :: as) (b :: bs)
theorem All2.length {α β : Type} {R : α → β → Prop} : ∀ {as : List α} {bs : List β}, All2 R as bs → as.length = bs.length
  | _, _, .nil => rfl
  | _, _, .cons _ r => by rw [List.length_cons, List.length_cons, r.length]
theorem All2.imp {α β : Type} {R R' : α → β → Prop} (h : ∀ a b, R a b → R' a b) : ∀ {as : List α} {bs : List β}, All2 R as bs → All2 R' as bs
  | _, _, .nil => .nil
  | _, _, .cons a r => .cons (h _ _ a) (r.imp h)
theorem All2.append {α β : Type} {R : α → β → Prop} : ∀ {as as' : List α} {bs bs' : List β}, All2 R as bs → All2 R as' bs' → All2 R (as ++ as') (bs ++ bs')
  | _, _, _, _, .nil, k => k
  | _, _, _, _, .cons a r, k => .cons a (r.append k)
theorem All2.get {α β : Type} {R : α → β → Prop} : ∀ {as : List α} {bs : List β} {i : Nat} {a : α}, All2 R as bs → as[i]? = some a → ∃ b, bs[i]? = some b ∧ R a b
  | _, _, 0, _, .cons h _, e => by simp at e; subst e; exact ⟨_, by simp, h⟩
  | _, _, i + 1, _, .cons _ r, e => by
    simp at e
    obtain ⟨b, hb, hr⟩ := r.get e
    exact ⟨b, by simpa using hb, hr⟩
/-- new objects of a call -/
def FreshAll (g h : Heap) (es : List (Addr × Obj)) : Prop := ∀ p ∈ es, h.get? p.1 = some p.2 ∧ g.get? p.1 = none
theorem News.freshes {h₀ g h : Heap} {L : Addr} {m : Str → Option Value} {news es : List (Addr × Obj)} (F : Fr h₀ L g m) (N : News h₀ L h news) (K : FreshAll g h es) : News h₀ L h (es ++ news) := by
  intro p hp
  rcases List.mem_append.mp hp with hp | hp
  · have hk := K p hp
    refine ⟨hk.1, ?_, ?_⟩
    · intro e
      obtain ⟨oL, _, _, hL, _⟩ := F.ns
      rw [← e, hk.2] at hL; cases hL
    · cases hq : h₀.get? p.1 with
      | none => rfl
      | some o' => have := F.keep _ _ hq; rw [hk.2] at this; cases this
  · exact N p hp
theorem FreshAll.of_news {g h : Heap} {L : Addr} {news : List (Addr × Obj)} (N : News g L h news) : FreshAll g h news := fun p hp => ⟨(N p hp).1, (N p hp).2.2⟩
theorem News.sub {h₀ h : Heap} {L : Addr} {news news' : List (Addr × Obj)} (N : News h₀ L h news) (k : ∀ p ∈ news', p ∈ news) : News h₀ L h news' := fun p hp => N p (k p hp)
abbrev tupOf (vs : List Value) (n : Nat) : Obj := { cls := .type "tuple", data := .seq vs.toArray n }
/-- a pair (text, bool) made by the call -/
def PairIn (tl : List (Addr × Obj)) (v : Value) (p : List Nat × Bool) : Prop := ∃ a t c, v = .ref a ∧ (a, tupOf [.str (S p.1) t, .bool p.2] c) ∈ tl
theorem PairIn.mono {tl tl' : List (Addr × Obj)} {v : Value} {p : List Nat × Bool} (k : ∀ q ∈ tl, q ∈ tl') : PairIn tl v p → PairIn tl' v p
  | ⟨a, t, c, e, h⟩ => ⟨a, t, c, e, k _ h⟩
theorem All2.snoc_map {α β γ : Type} {R : α → γ → Prop} {f : β → γ} {ys : List α} {ps : List β} {i : Nat} {p : β} {y : α} (h : All2 R ys ((ps.take i).map f)) (hp : ps[i]? = some p) (hy : R y (f p)) : All2 R (ys ++ [y]) ((ps.take (i + 1)).map f) := by
  rw [List.take_add_one, hp, List.map_append]
  exact h.append (.cons hy .nil)

-- part BaseC
section
open LCg
variable {prog : Program} {w : World} {A : Around} {h₀ : Heap} {L : Addr} {m : Str → Option Value} {env : Env} {s : Shared} {S : List (Addr × Obj) → Prop} {P : Nat → Value → Prop} {Fin : List Value → List (Addr × Obj) → Prop} {news : List (Addr × Obj)}
theorem compEnd_mono {s₁ : Shared} {I C D : Addr} {oI oC oD : Obj} {R R' : Value → List (Addr × Obj) → Prop} {y : Value} {s₂ : Shared} (h : CompEnd h₀ L m s₁ I oI C oC D oD S R y s₂) (k : ∀ y n, R y n → R' y n) : CompEnd h₀ L m s₁ I oI C oC D oD S R' y s₂ := by
  obtain ⟨h', tk, n', e, F, N, o, hS, r⟩ := h
  exact ⟨h', tk, n', e, F, N, o, hS, k _ _ r⟩
/-- a comprehension whose turns leave the ledger as it was -/
theorem compAll {elt : Expr} {x : Str} {scope : Scope} {cl : List (Str × Addr)} (R : Nat → List Value → Prop)
    (step : ∀ i ys v I oI C oC D m₂ h tk (E' : Value → Shared → Prop), R i ys → P i v → NsObj oC m₂ → m₂ x = some v → Fr h₀ L h m → News h₀ L h ((I, oI) :: (C, oC) :: (D, lst ys) :: news) → Off3 I C D news →
      wpAny (model prog w) A (eval elt (compEnvC scope cl C env)) (CompEnd h₀ L m { s with heap := h, toks := tk } I oI C oC D (lst ys) S (fun y news' => news' = news ∧ R (i + 1) (ys ++ [y]))) E' { s with heap := h, toks := tk }) :
    ∀ (n i : Nat) (ys : List Value), R i ys → (∀ ys, R (i + n) ys → Fin ys news) → CompRest prog w A h₀ L m env elt x scope cl s S P Fin n i ys news
  | 0, i, ys, r, fin => CompRest.zero (fin ys r)
  | n + 1, i, ys, r, fin => CompRest.succ fun v I oI C oC D m₂ h tk E' hv hC hx F N off _ =>
      wpAny_mono (step i ys v I oI C oC D m₂ h tk E' r hv hC hx F N off) (fun y s₂ e => compEnd_mono e fun y n' ⟨e1, r'⟩ => by
        rw [e1]
        exact compAll R step n (i + 1) _ r' fun ys h => fin ys (by rw [show i + (n + 1) = i + 1 + n by omega]; exact h)) fun _ _ e => e
theorem compAllP {elt : Expr} {x x₂ : Str} {scope : Scope} {cl : List (Str × Addr)} (R : Nat → List Value → Prop)
    (step : ∀ i ys v, R i ys → P i v → ∃ (t : Addr) (ot : Obj) (v₁ v₂ : Value) (nt : Nat), v = .ref t ∧ (t, ot) ∈ news ∧ ot.cls = .type "tuple" ∧ ot.data = .seq #[v₁, v₂] nt ∧
      ∀ I oI C oC D m₂ h tk (E' : Value → Shared → Prop), NsObj oC m₂ → m₂ x = some v₁ → m₂ x₂ = some v₂ → Fr h₀ L h m → News h₀ L h ((I, oI) :: (C, oC) :: (D, lst ys) :: news) → Off3 I C D news →
      wpAny (model prog w) A (eval elt (compEnvC scope cl C env)) (CompEnd h₀ L m { s with heap := h, toks := tk } I oI C oC D (lst ys) S (fun y news' => news' = news ∧ R (i + 1) (ys ++ [y]))) E' { s with heap := h, toks := tk }) :
    ∀ (n i : Nat) (ys : List Value), R i ys → (∀ ys, R (i + n) ys → Fin ys news) → LCp.CompRestP prog w A h₀ L m env elt x x₂ scope cl s S P Fin n i ys news
  | 0, i, ys, r, fin => LCp.CompRestP.zero (fin ys r)
  | n + 1, i, ys, r, fin => LCp.CompRestP.succ fun v hv => by
      obtain ⟨t, ot, v₁, v₂, nt, e1, e2, e3, e4, st⟩ := step i ys v r hv
      exact ⟨t, ot, v₁, v₂, nt, e1, e2, e3, e4, fun I oI C oC D m₂ h tk E' hC hx hx₂ F N off _ =>
        wpAny_mono (st I oI C oC D m₂ h tk E' hC hx hx₂ F N off) (fun y s₂ e => compEnd_mono e fun y n' ⟨e1, r'⟩ => by
          rw [e1]
          exact compAllP R step n (i + 1) _ r' fun ys h => fin ys (by rw [show i + (n + 1) = i + 1 + n by omega]; exact h)) fun _ _ e => e⟩
theorem compAllT {ct elt : Expr} {x : Str} {scope : Scope} {cl : List (Str × Addr)} (R : Nat → List Value → Prop)
    (step : ∀ i ys v I oI C oC D m₂ h tk (E' : Value → Shared → Prop), R i ys → P i v → NsObj oC m₂ → m₂ x = some v → Fr h₀ L h m → News h₀ L h ((I, oI) :: (C, oC) :: (D, lst ys) :: news) → Off3 I C D news →
      wpAny (model prog w) A (isTrue ct (compEnvC scope cl C env) (eval ct (compEnvC scope cl C env))) (fun ok s' => if ok = true then
        wpAny (model prog w) A (eval elt (compEnvC scope cl C env)) (CompEnd h₀ L m { s with heap := h, toks := tk } I oI C oC D (lst ys) S (fun y news' => news' = news ∧ R (i + 1) (ys ++ [y]))) E' s'
        else CompEnd h₀ L m { s with heap := h, toks := tk } I oI C oC D (lst ys) S (fun _ news' => news' = news ∧ R (i + 1) ys) Value.none s') E' { s with heap := h, toks := tk }) :
    ∀ (n i : Nat) (ys : List Value), R i ys → (∀ ys, R (i + n) ys → Fin ys news) → LCt.CompRestT prog w A h₀ L m env ct elt x scope cl s S P Fin n i ys news
  | 0, i, ys, r, fin => LCt.CompRestT.zero (fin ys r)
  | n + 1, i, ys, r, fin => LCt.CompRestT.succ fun v I oI C oC D m₂ h tk E' hv hC hx F N off _ =>
      wpAny_mono (step i ys v I oI C oC D m₂ h tk E' r hv hC hx F N off) (fun ok s' q => by
        cases ok with
        | true =>
          simp only [if_true] at q ⊢
          exact wpAny_mono q (fun y s₂ e => compEnd_mono e fun y n' ⟨e1, r'⟩ => by
            rw [e1]
            exact compAllT R step n (i + 1) _ r' fun ys h => fin ys (by rw [show i + (n + 1) = i + 1 + n by omega]; exact h)) fun _ _ e => e
        | false =>
          simp only [Bool.false_eq_true, if_false] at q ⊢
          exact compEnd_mono q fun y n' ⟨e1, r'⟩ => by
            rw [e1]
            exact compAllT R step n (i + 1) _ r' fun ys h => fin ys (by rw [show i + (n + 1) = i + 1 + n by omega]; exact h)) fun _ _ e => e
end

-- part BaseL
section
variable {prog : Program} {w : World} {A : Around} {E : Value → Shared → Prop} {s : Shared} {env : Env} {h₀ : Heap} {target : Expr} {body : List Stmt} {Q : Flow → Shared → Prop} {m : Str → Option Value} {news : List (Addr × Obj)}
theorem old_ne {h : Heap} {a : Addr} {o : Obj} (e : h.get? a = some o) {k : Nat} : a ≠ h.objs.size + k := Nat.ne_of_lt (Nat.lt_of_lt_of_le (Heap.lt_size e) (Nat.le_add_right _ _))
theorem new_none {h : Heap} {k : Nat} : h.get? (h.objs.size + k) = none := by
  cases e : h.get? (h.objs.size + k) with
  | none => rfl
  | some o => exact absurd rfl (old_ne e)
theorem base_none {h : Heap} {L a : Addr} (F : Fr h₀ L h m) (e : h.get? a = none) : h₀.get? a = none := by
  cases q : h₀.get? a with
  | none => rfl
  | some o => have := F.keep a o q; rw [e] at this; cases this
theorem turn_end {L : Addr} {wr : List Addr} {own all news₂ : List (Addr × Obj)} {Jn : (Str → Option Value) → List (Addr × Obj) → Prop} {s₁ : Shared} {h' : Heap} {tk : Nat} {m' : Str → Option Value} {Qr : Value → Shared → Prop} {Qb : Shared → Prop}
    (F : Fr h₀ L h' m') (N : News h₀ L h' all) (sub : ∀ p ∈ own ++ news₂, p ∈ all) (ha : ∀ p ∈ news₂, p.1 ∉ wr) (hJ : Jn m' news₂) : LoopStepV h₀ L wr own Jn s₁ Qr Qb .next { s₁ with heap := h', toks := tk } :=
  ⟨rfl, h', tk, m', news₂, rfl, F, fun p hp => N p (sub p hp), ha, hJ⟩

theorem turns_list {l : Addr} {vs : List Value} (hh : A.handled = none) (hl : s.heap.IsList l vs.toArray) (hlL : l ≠ env.locals) (F : Fr h₀ env.locals s.heap m) (N : News h₀ env.locals s.heap news)
    (J : Nat → (Str → Option Value) → List (Addr × Obj) → Prop) (h0 : J 0 m news)
    (turn : ∀ i v m₁ news₁ h₁ tk₁ own, vs[i]? = some v → J i m₁ news₁ → (∀ p ∈ own, p.1 = l ∨ s.heap.get? p.1 = none) → Fr h₀ env.locals h₁ m₁ → News h₀ env.locals h₁ (own ++ news₁) →
      wpAny (model prog w) A (assign target env v) (fun _ s₃ => wpAny (model prog w) A (execs body env) (LoopStepV h₀ env.locals [s.heap.objs.size + 0] own (J (i + 1)) { s with heap := h₁, toks := tk₁ } (fun v s' => Q (.ret v) s') fun s' => Q .next s') E s₃) E { s with heap := h₁, toks := tk₁ })
    (done : ∀ h' tk m' news', Fr h₀ env.locals h' m' → News h₀ env.locals h' news' → J vs.length m' news' → Q .next { s with heap := h', toks := tk }) :
    wpAny (model prog w) A (pyIter (.ref l)) (fun it s₂ => TurnsAt prog w A h₀ env target body Q E it s₂) E s := by
  have hne : l ≠ s.heap.objs.size := by obtain ⟨o, e, _⟩ := hl; exact old_ne (k := 0) e
  refine wpAny_pyIter_list hl ?_
  have W := Walks.list (prog := prog) (w := w) hh s.heap.objs.size l hne vs.toArray
  have hlen : vs.toArray.size = vs.length := by simp
  rw [hlen] at W
  refine ⟨_, _, _, vs.length, _, _, _, m, news, J, rfl, KTurns.ofWalks W (fun i v s Q E st q => letGo_listiter st.1 q), ?_, ?_, ?_, ⟨⟨_, Heap.get?_push_size _ rfl, rfl, rfl⟩, hl.push _⟩, F.push _, (fun p hp => ⟨Heap.get?_push_of_some _ (N p hp).1, (N p hp).2⟩), h0, ?_, ?_⟩
  · intro hm
    rcases List.mem_cons.mp hm with e | hm
    · exact absurd F.ns.lt (e ▸ Nat.lt_irrefl _)
    · exact hlL (List.mem_singleton.mp hm).symm
  · intro b hb
    rw [List.mem_singleton.mp hb]
    exact base_none F (new_none (k := 0))
  · intro p hp hI
    exact old_ne (k := 0) (N p hp).1 (List.mem_singleton.mp hI)
  · rintro i v m₁ news₁ h₁ tk₁ own hi hP hJ _ hfp _ _ _ F₁ N₁
    refine turn i v m₁ news₁ h₁ tk₁ own (by simpa using hP) hJ (fun p hp => ?_) F₁ N₁
    rcases List.mem_cons.mp (hfp p hp) with e | e
    · exact .inr (e ▸ new_none (k := 0))
    · exact .inl (List.mem_singleton.mp e)
  · intro h' tk m' news' F' N' _ hJ
    exact done h' tk m' news' F' N' hJ

theorem turns_str {x : Str} {t : Tok} (hh : A.handled = none) (F : Fr h₀ env.locals s.heap m) (N : News h₀ env.locals s.heap news) {y : Str} {py : Pos} (ht : target = .Name y py)
    (J : Nat → (Str → Option Value) → List (Addr × Obj) → Prop) (h0 : J 0 m news)
    (turn : ∀ i v m₁ news₁ h₁ tk₁ own, SignAt x i v → J i m₁ news₁ → (∀ p ∈ own, s.heap.get? p.1 = none) → Fr h₀ env.locals h₁ m₁ → News h₀ env.locals h₁ (own ++ news₁) →
      wpAny (model prog w) A (assign target env v) (fun _ s₃ => wpAny (model prog w) A (execs body env) (LoopStepV h₀ env.locals [s.heap.objs.size + 0] own (J (i + 1)) { s with heap := h₁, toks := tk₁ } (fun v s' => Q (.ret v) s') fun s' => Q .next s') E s₃) E { s with heap := h₁, toks := tk₁ })
    (done : ∀ h' tk m' news', Fr h₀ env.locals h' m' → News h₀ env.locals h' news' → J x.cps.size m' news' → Q .next { s with heap := h', toks := tk }) :
    wpAny (model prog w) A (pyIter (.str x t)) (fun it s₂ => TurnsAt prog w A h₀ env target body Q E it s₂) E s := by
  subst ht
  refine wpAny_pyIter_str fun o St hW hst => ?_
  refine ⟨_, _, _, x.cps.size, _, _, _, m, news, J, rfl, KTurns.ofWalks (hW A hh) (fun i v s Q E st q => wpAny_pure q), ?_, ?_, ?_, hst, F.push _, (fun p hp => ⟨Heap.get?_push_of_some _ (N p hp).1, (N p hp).2⟩), h0, ?_, ?_⟩
  · intro hm
    exact absurd F.ns.lt ((List.mem_singleton.mp hm) ▸ Nat.lt_irrefl _)
  · intro b hb
    rw [List.mem_singleton.mp hb]
    exact base_none F (new_none (k := 0))
  · intro p hp hI
    exact old_ne (k := 0) (N p hp).1 (List.mem_singleton.mp hI)
  · rintro i v m₁ news₁ h₁ tk₁ own hi hP hJ _ hfp _ _ _ F₁ N₁
    exact turn i v m₁ news₁ h₁ tk₁ own hP hJ (fun p hp => by rw [List.mem_singleton.mp (hfp p hp)]; exact new_none (k := 0)) F₁ N₁
  · intro h' tk m' news' F' N' _ hJ
    exact done h' tk m' news' F' N' hJ

theorem turns_range {r : Addr} {b₀ : Int} {t₀ u₀ v₀ : Tok} {n : Nat} (hh : A.handled = none) (hr : IsRange s.heap r 0 b₀ 1 t₀ u₀ v₀) (hb : b₀ = (n : Int)) (hsm : n < 1000) (F : Fr h₀ env.locals s.heap m) (N : News h₀ env.locals s.heap news) {y : Str} {py : Pos} (ht : target = .Name y py)
    (J : Nat → (Str → Option Value) → List (Addr × Obj) → Prop) (h0 : J 0 m news)
    (turn : ∀ i t m₁ news₁ h₁ tk₁ own, i < n → J i m₁ news₁ → (∀ p ∈ own, s.heap.get? p.1 = none) → Fr h₀ env.locals h₁ m₁ → News h₀ env.locals h₁ (own ++ news₁) →
      wpAny (model prog w) A (assign target env (.int (i : Int) t)) (fun _ s₃ => wpAny (model prog w) A (execs body env) (LoopStepV h₀ env.locals [s.heap.objs.size + 0] own (J (i + 1)) { s with heap := h₁, toks := tk₁ } (fun v s' => Q (.ret v) s') fun s' => Q .next s') E s₃) E { s with heap := h₁, toks := tk₁ })
    (done : ∀ h' tk m' news', Fr h₀ env.locals h' m' → News h₀ env.locals h' news' → J n m' news' → Q .next { s with heap := h', toks := tk }) :
    wpAny (model prog w) A (pyIter (.ref r)) (fun it s₂ => TurnsAt prog w A h₀ env target body Q E it s₂) E s := by
  subst ht
  subst hb
  have hn : Builtin.Range.rangeSize 0 (n : Int) 1 = (n : Int) := by
    have h0 := rangeSize_nat 0 (n : Int)
    rw [h0]
    omega
  have hsmall : Builtin.Range.small 0 (n : Int) 1 = true := by
    exact small_one (by decide) (by omega) (by omega) (by omega)
  refine wpAny_pyIter_range hr hsmall ?_
  have W := (Walks.range (prog := prog) (w := w) hh s.heap.objs.size 0 1 n)
  refine ⟨_, _, _, n, _, _, _, m, news, J, rfl, KTurns.ofWalks W (fun i v s Q E st q => wpAny_pure q), ?_, ?_, ?_, ?_, F.push _, (fun p hp => ⟨Heap.get?_push_of_some _ (N p hp).1, (N p hp).2⟩), h0, ?_, ?_⟩
  · intro hm
    exact absurd F.ns.lt ((List.mem_singleton.mp hm) ▸ Nat.lt_irrefl _)
  · intro b hb
    rw [List.mem_singleton.mp hb]
    exact base_none F (new_none (k := 0))
  · intro p hp hI
    exact old_ne (k := 0) (N p hp).1 (List.mem_singleton.mp hI)
  · show IsRangeIter _ _ _ _ _
    rw [hn]; simpa using Heap.get?_push_size _ rfl
  · rintro i v m₁ news₁ h₁ tk₁ own hi ⟨t, rfl⟩ hJ _ hfp _ _ _ F₁ N₁
    have := turn i t m₁ news₁ h₁ tk₁ own hi hJ (fun p hp => by rw [List.mem_singleton.mp (hfp p hp)]; exact new_none (k := 0)) F₁ N₁
    rw [show (0 : Int) + (i : Int) * 1 = (i : Int) by omega]
    exact this
  · intro h' tk m' news' F' N' _ hJ
    exact done h' tk m' news' F' N' hJ

theorem turns_enum {l : Addr} {vs : List Value} {elts : List Expr} {kt : Nat} {pt : Pos} (hh : A.handled = none) (hl : s.heap.IsList l vs.toArray) (hlL : l ≠ env.locals) (F : Fr h₀ env.locals s.heap m) (N : News h₀ env.locals s.heap news)
    (J : Nat → (Str → Option Value) → List (Addr × Obj) → Prop) (h0 : J 0 m news)
    (turn : ∀ i T t v m₁ news₁ h₁ tk₁ own, vs[i]? = some v → h₁.IsTuple T #[.int (i : Int) t, v] → J i m₁ news₁ → (∀ p ∈ own, p.1 = l ∨ s.heap.get? p.1 = none) → Fr h₀ env.locals h₁ m₁ → News h₀ env.locals h₁ (own ++ news₁) →
      wpAny (model prog w) A (assign (.Tuple elts kt pt) env (.ref T)) (fun _ s₃ => wpAny (model prog w) A (execs body env) (LoopStepV h₀ env.locals [s.heap.objs.size + 1, s.heap.objs.size + 0] own (J (i + 1)) { s with heap := h₁, toks := tk₁ } (fun v s' => Q (.ret v) s') fun s' => Q .next s') E s₃) E { s with heap := h₁, toks := tk₁ })
    (done : ∀ h' tk m' news', Fr h₀ env.locals h' m' → News h₀ env.locals h' news' → J vs.length m' news' → Q .next { s with heap := h', toks := tk }) :
    wpAny (model prog w) A (call (.type "enumerate") [.ref l]) (fun xv s₁ => wpAny (model prog w) A (pyIter xv) (fun it s₂ => TurnsAt prog w A h₀ env (.Tuple elts kt pt) body Q E it s₂) E s₁) E s := by
  refine enum_rows F hl fun h' he hit hl' F' hk n1 n2 n3 _ _ => ?_
  have W := (WalksT.enumerate (prog := prog) (w := w) hh (s.heap.objs.size + 1) (s.heap.objs.size) l n1 n2 n3 vs.toArray).toU
  have hlen : vs.toArray.size = vs.length := by simp
  rw [hlen] at W
  have N' : News h₀ env.locals h' news := fun p hp => ⟨hk _ _ (N p hp).1, (N p hp).2⟩
  refine W.self 0 _ _ _ ⟨⟨_, he⟩, hit, hl'⟩ ?_
  refine ⟨_, _, _, vs.length, _, _, _, m, news, J, rfl, KTurns.ofWalksU W, ?_, ?_, ?_, ⟨⟨_, he⟩, hit, hl'⟩, F', N', h0, ?_, ?_⟩
  · intro hm
    have := F.ns.lt
    rcases List.mem_cons.mp hm with e | hm
    · rw [e] at this; exact absurd this (by show ¬ (s.heap.objs.size + 1 < s.heap.objs.size); omega)
    · rcases List.mem_cons.mp hm with e | hm
      · rw [e] at this; exact Nat.lt_irrefl _ this
      · exact hlL (List.mem_singleton.mp hm).symm
  · intro b hb
    rcases List.mem_cons.mp hb with rfl | hb
    · exact base_none F new_none
    · rw [List.mem_singleton.mp hb]
      exact base_none F (new_none (k := 0))
  · intro p hp hI
    rcases List.mem_cons.mp hI with e | hI
    · exact old_ne (N p hp).1 e
    · exact old_ne (k := 0) (N p hp).1 (List.mem_singleton.mp hI)
  · rintro i v m₁ news₁ h₁ tk₁ own hi ⟨T, vals, rfl, ⟨t, x, hx, rfl⟩, hT⟩ hJ _ hfp _ _ _ F₁ N₁
    refine turn i T t x m₁ news₁ h₁ tk₁ own (by simpa using hx) hT hJ (fun p hp => ?_) F₁ N₁
    rcases List.mem_cons.mp (hfp p hp) with e | e
    · exact .inr (e ▸ new_none)
    · rcases List.mem_cons.mp e with e | e
      · exact .inr (e ▸ new_none (k := 0))
      · exact .inl (List.mem_singleton.mp e)
  · intro h' tk m' news' F' N' _ hJ
    exact done h' tk m' news' F' N' hJ

theorem turns_zip {l1 l2 : Addr} {vs ws : List Value} {elts : List Expr} {kt : Nat} {pt : Pos} (hh : A.handled = none) (hl1 : s.heap.IsList l1 vs.toArray) (hl2 : s.heap.IsList l2 ws.toArray) (hlL1 : l1 ≠ env.locals) (hlL2 : l2 ≠ env.locals) (hlen : vs.length = ws.length)
    (F : Fr h₀ env.locals s.heap m) (N : News h₀ env.locals s.heap news)
    (J : Nat → (Str → Option Value) → List (Addr × Obj) → Prop) (h0 : J 0 m news)
    (turn : ∀ i T v u m₁ news₁ h₁ tk₁ own, vs[i]? = some v → ws[i]? = some u → h₁.IsTuple T #[v, u] → J i m₁ news₁ → (∀ p ∈ own, p.1 = l1 ∨ p.1 = l2 ∨ s.heap.get? p.1 = none) → Fr h₀ env.locals h₁ m₁ → News h₀ env.locals h₁ (own ++ news₁) →
      wpAny (model prog w) A (assign (.Tuple elts kt pt) env (.ref T)) (fun _ s₃ => wpAny (model prog w) A (execs body env) (LoopStepV h₀ env.locals [s.heap.objs.size + 4, s.heap.objs.size + 3, s.heap.objs.size + 0, s.heap.objs.size + 1] own (J (i + 1)) { s with heap := h₁, toks := tk₁ } (fun v s' => Q (.ret v) s') fun s' => Q .next s') E s₃) E { s with heap := h₁, toks := tk₁ })
    (done : ∀ h' tk m' news', Fr h₀ env.locals h' m' → News h₀ env.locals h' news' → J vs.length m' news' → Q .next { s with heap := h', toks := tk }) :
    wpAny (model prog w) A (call (.type "zip") [.ref l1, .ref l2]) (fun xv s₁ => wpAny (model prog w) A (pyIter xv) (fun it s₂ => TurnsAt prog w A h₀ env (.Tuple elts kt pt) body Q E it s₂) E s₁) E s := by
  have a1 : l1 < s.heap.objs.size := by obtain ⟨_, e, _⟩ := hl1; exact Heap.lt_size e
  have a2 : l2 < s.heap.objs.size := by obtain ⟨_, e, _⟩ := hl2; exact Heap.lt_size e
  refine call_zip_2 hl1 hl2 fun h' hz hTI hTO hi1 hi2 _ hk => ?_
  have W := (WalksT.zip2 (prog := prog) (w := w) hh (s.heap.objs.size + 4) (s.heap.objs.size + 2) (s.heap.objs.size + 3) s.heap.objs.size (s.heap.objs.size + 1) l1 l2 (zipApart_new a1 a2) vs.toArray ws.toArray).toU
  have hsz : min vs.toArray.size ws.toArray.size = vs.length := by simp; omega
  rw [hsz] at W
  have hst : IsZip h' (s.heap.objs.size + 4) (s.heap.objs.size + 2) (s.heap.objs.size + 3) .none ∧ IsPair h' (s.heap.objs.size + 2) (.ref s.heap.objs.size) (.ref (s.heap.objs.size + 1)) ∧ (∃ a b, IsPair h' (s.heap.objs.size + 3) a b) ∧ h'.IsListIter s.heap.objs.size l1 0 ∧ h'.IsListIter (s.heap.objs.size + 1) l2 0 ∧ h'.IsList l1 vs.toArray ∧ h'.IsList l2 ws.toArray :=
    ⟨hz, hTI, ⟨_, _, hTO⟩, hi1, hi2, Heap.IsList.at hl1 (fun o e => hk _ o e), Heap.IsList.at hl2 (fun o e => hk _ o e)⟩
  have N' : News h₀ env.locals h' news := fun p hp => ⟨hk _ _ (N p hp).1, (N p hp).2⟩
  refine W.self 0 _ _ _ hst ?_
  refine ⟨_, _, _, vs.length, _, _, _, m, news, J, rfl, KTurns.ofWalksU W, ?_, ?_, ?_, hst, F.keeps hk, N', h0, ?_, ?_⟩
  · intro hm
    have hlt : env.locals < s.heap.objs.size := F.ns.lt
    have hlt' : @LT.lt Nat _ env.locals s.heap.objs.size := hlt
    rcases List.mem_cons.mp hm with e | hm
    · have e' : @Eq Nat env.locals (s.heap.objs.size + 4) := e
      omega
    · rcases List.mem_cons.mp hm with e | hm
      · have e' : @Eq Nat env.locals (s.heap.objs.size + 2) := e
        omega
      · rcases List.mem_cons.mp hm with e | hm
        · have e' : @Eq Nat env.locals (s.heap.objs.size + 3) := e
          omega
        · rcases List.mem_cons.mp hm with e | hm
          · have e' : @Eq Nat env.locals (s.heap.objs.size) := e
            omega
          · rcases List.mem_cons.mp hm with e | hm
            · have e' : @Eq Nat env.locals (s.heap.objs.size + 1) := e
              omega
            · rcases List.mem_cons.mp hm with e | hm
              · exact hlL1 e.symm
              · exact hlL2 (List.mem_singleton.mp hm).symm
  · intro b hb
    rcases List.mem_cons.mp hb with rfl | hb
    · exact base_none F new_none
    · rcases List.mem_cons.mp hb with rfl | hb
      · exact base_none F new_none
      · rcases List.mem_cons.mp hb with rfl | hb
        · exact base_none F (new_none (k := 0))
        · rw [List.mem_singleton.mp hb]
          exact base_none F new_none
  · intro p hp hI
    rcases List.mem_cons.mp hI with e | hI
    · exact old_ne (N p hp).1 e
    · rcases List.mem_cons.mp hI with e | hI
      · exact old_ne (N p hp).1 e
      · rcases List.mem_cons.mp hI with e | hI
        · exact old_ne (k := 0) (N p hp).1 e
        · exact old_ne (N p hp).1 (List.mem_singleton.mp hI)
  · rintro i v m₁ news₁ h₁ tk₁ own hi ⟨T, vals, rfl, ⟨x, y, hx, hy, rfl⟩, hT⟩ hJ _ hfp _ _ _ F₁ N₁
    refine turn i T x y m₁ news₁ h₁ tk₁ own (by simpa using hx) (by simpa using hy) hT hJ (fun p hp => ?_) F₁ N₁
    rcases List.mem_cons.mp (hfp p hp) with e | e
    · exact .inr (.inr (e ▸ new_none))
    · rcases List.mem_cons.mp e with e | e
      · exact .inr (.inr (e ▸ new_none))
      · rcases List.mem_cons.mp e with e | e
        · exact .inr (.inr (e ▸ new_none))
        · rcases List.mem_cons.mp e with e | e
          · exact .inr (.inr (e ▸ new_none (k := 0)))
          · rcases List.mem_cons.mp e with e | e
            · exact .inr (.inr (e ▸ new_none))
            · rcases List.mem_cons.mp e with e | e
              · exact .inl e
              · exact .inr (.inl (List.mem_singleton.mp e))
  · intro h' tk m' news' F' N' _ hJ
    exact done h' tk m' news' F' N' hJ
end
theorem len_own {prog : Program} {w : World} {A : Around} {E : Value → Shared → Prop} {s : Shared} {l : Addr} {vs : List Value} {Q : Value → Shared → Prop} (hl : s.heap.IsList l vs.toArray) (hfit : vs.length ≤ 5000)
    (h : Q (.int (vs.length : Int) (s.toks + 1)) { s with toks := s.toks + 1 + 1 }) : wpAny (model prog w) A (call (.builtin "len") [.ref l]) Q E s :=
  len_list hl (by rw [List.size_toArray]; omega) (by rw [List.size_toArray]; exact h)
theorem base_ne {h₀ h : Heap} {L a : Addr} {m : Str → Option Value} {vs : Array Value} (F : Fr h₀ L h m) (hl : h₀.IsList a vs) : a ≠ L := by
  obtain ⟨o, e, _⟩ := hl
  exact Nat.ne_of_lt (Nat.lt_of_lt_of_le (Heap.lt_size e) F.above)
theorem old_off {h : Heap} {a : Addr} {o : Obj} (e : h.get? a = some o) (ks : List Nat) : a ∉ ks.map (h.objs.size + ·) := fun hm => by
  obtain ⟨k, _, hk⟩ := List.mem_map.mp hm
  exact old_ne e hk.symm
/-- every address of the ledger stood in an elder heap -/
theorem olds_off {h₀ h : Heap} {L : Addr} {news news₂ : List (Addr × Obj)} (N : News h₀ L h news) (k : ∀ p ∈ news₂, ∃ o, (p.1, o) ∈ news) (ks : List Nat) : ∀ p ∈ news₂, p.1 ∉ ks.map (h.objs.size + ·) := fun p hp => by
  obtain ⟨o, ho⟩ := k p hp
  exact old_off (N _ ho).1 ks
theorem turn_endU {h₀ : Heap} {L : Addr} {wr : List Addr} {own all news₂ : List (Addr × Obj)} {Jn : (Str → Option Value) → List (Addr × Obj) → Prop} {s₁ : Shared} {h' : Heap} {tk : Nat} {m' : Str → Option Value}
    (F : Fr h₀ L h' m') (N : News h₀ L h' all) (sub : ∀ p ∈ own ++ news₂, p ∈ all) (ha : ∀ p ∈ news₂, p.1 ∉ wr) (hJ : Jn m' news₂) : LoopStepU h₀ L wr own Jn s₁ .next { s₁ with heap := h', toks := tk } :=
  ⟨rfl, h', tk, m', news₂, rfl, F, fun p hp => N p (sub p hp), ha, hJ⟩
theorem sub_last {α : Type} {a : α} {own : List α} : ∀ p ∈ own ++ [a], p ∈ a :: own := fun p hp => (List.mem_append.mp hp).elim (fun h => .tail _ h) fun h => by rw [List.mem_singleton.mp h]; exact .head _
theorem sub_first {α : Type} {a : α} {own : List α} : ∀ p ∈ a :: own, p ∈ own ++ [a] := fun p hp => by
  rcases List.mem_cons.mp hp with rfl | h
  · exact List.mem_append.mpr (.inr (.head _))
  · exact List.mem_append.mpr (.inl h)
theorem sub_last2 {α : Type} {a b : α} {own : List α} : ∀ p ∈ own ++ [a, b], p ∈ a :: b :: own := fun p hp => (List.mem_append.mp hp).elim (fun h => .tail _ (.tail _ h)) fun h => by
  rcases List.mem_cons.mp h with rfl | h
  · exact .head _
  · rw [List.mem_singleton.mp h]; exact .tail _ (.head _)
theorem sub_first2 {α : Type} {a b : α} {own : List α} : ∀ p ∈ a :: b :: own, p ∈ own ++ [a, b] := fun p hp => by
  rcases List.mem_cons.mp hp with rfl | h
  · exact List.mem_append.mpr (.inr (.head _))
  · rcases List.mem_cons.mp h with rfl | h
    · exact List.mem_append.mpr (.inr (.tail _ (.head _)))
    · exact List.mem_append.mpr (.inl h)

-- part P1
/-- the blanks -/
def isBl : Nat → Bool := ([32, 9] : List Nat).contains
def blankEnd (l : List Nat) (i : Nat) : Nat := i + ((l.drop i).takeWhile isBl).length
theorem drop_cons_get {l : List Nat} {i : Nat} (h : i < l.length) : l.drop i = l[i] :: l.drop (i + 1) := List.drop_eq_getElem_cons h
theorem blankEnd_step {l : List Nat} {i : Nat} (h : i < l.length) (hb : isBl l[i] = true) : blankEnd l i = blankEnd l (i + 1) := by
  unfold blankEnd
  rw [drop_cons_get h, List.takeWhile_cons, if_pos hb, List.length_cons]; omega
theorem blankEnd_stop {l : List Nat} {i : Nat} (h : i < l.length) (hb : isBl l[i] = false) : blankEnd l i = i := by
  unfold blankEnd
  rw [drop_cons_get h, List.takeWhile_cons, hb]; simp
theorem blankEnd_out {l : List Nat} {i : Nat} (h : l.length ≤ i) : blankEnd l i = i := by
  unfold blankEnd
  rw [List.drop_eq_nil_of_le h]; simp
theorem blankEnd_ge (l : List Nat) (i : Nat) : i ≤ blankEnd l i := by unfold blankEnd; omega
theorem blankEnd_le {l : List Nat} {i : Nat} (h : i ≤ l.length) : blankEnd l i ≤ l.length := by
  unfold blankEnd
  have := takeWhile_length_add isBl (l.drop i)
  rw [List.length_drop] at this
  omega
/-- what quoted_field gives back -/
def quotedF (l : List Nat) (i : Nat) : List Nat × Nat :=
  if 34 ∈ l.drop (i + 1) then ((l.take (idxFrom l 34 (i + 1))).drop (i + 1), blankEnd l (idxFrom l 34 (i + 1) + 1)) else (l.drop (i + 1), l.length)
theorem quotedF_le (l : List Nat) (i : Nat) : (quotedF l i).2 ≤ l.length := by
  unfold quotedF
  split
  · rename_i h; exact blankEnd_le (idxFrom_lt h)
  · exact Nat.le_refl _
/-- what field_at gives back -/
def fieldF (l : List Nat) (i : Nat) : Option (List Nat) × Nat × Bool :=
  if l[blankEnd l i]? = some 34 then
    (if (quotedF l (blankEnd l i)).2 = l.length ∨ l[(quotedF l (blankEnd l i)).2]? = some 44 then some (quotedF l (blankEnd l i)).1 else none, (quotedF l (blankEnd l i)).2, true)
  else
    (some (rstripL isBl ((l.take (if 44 ∈ l.drop (blankEnd l i) then idxFrom l 44 (blankEnd l i) else l.length)).drop (blankEnd l i))), if 44 ∈ l.drop (blankEnd l i) then idxFrom l 44 (blankEnd l i) else l.length, false)
theorem take1_eq {l : List Nat} {i c : Nat} : (l.take (i + 1)).drop i = [c] ↔ l[i]? = some c := by
  rw [List.drop_take, show i + 1 - i = 1 by omega]
  have e : l[i]? = (l.drop i)[0]? := by rw [List.getElem?_drop]; rfl
  rw [e]
  cases l.drop i with
  | nil => simp
  | cons a r => simp
theorem idxFrom_ge (l : List Nat) (c i : Nat) : i ≤ idxFrom l c i := by unfold idxFrom; omega
theorem quotedF_ge {l : List Nat} {i : Nat} (h : i ≤ l.length) : i ≤ (quotedF l i).2 := by
  unfold quotedF
  split
  · have h1 := idxFrom_ge l 34 (i + 1)
    have h2 := blankEnd_ge l (idxFrom l 34 (i + 1) + 1)
    show i ≤ blankEnd l (idxFrom l 34 (i + 1) + 1)
    omega
  · exact h
theorem fieldF_ge {l : List Nat} {i : Nat} (h : i ≤ l.length) : i ≤ (fieldF l i).2.1 := by
  have h1 := blankEnd_ge l i
  have h2 := blankEnd_le h
  unfold fieldF
  split
  · exact Nat.le_trans h1 (quotedF_ge h2)
  · show i ≤ if 44 ∈ l.drop (blankEnd l i) then idxFrom l 44 (blankEnd l i) else l.length
    have h3 := idxFrom_ge l 44 (blankEnd l i)
    split <;> omega
theorem fieldF_le {l : List Nat} {i : Nat} : (fieldF l i).2.1 ≤ l.length := by
  unfold fieldF
  split
  · exact quotedF_le _ _
  · show (if 44 ∈ l.drop (blankEnd l i) then idxFrom l 44 (blankEnd l i) else l.length) ≤ l.length
    split
    · rename_i h; exact Nat.le_of_lt (idxFrom_lt h)
    · exact Nat.le_refl _
/-- the fields from `i` on, n fields at most -/
noncomputable def toldF : Nat → List Nat → Nat → Option (List (List Nat × Bool))
  | 0, _, _ => none
  | n + 1, l, i => match fieldF l i with
    | (none, _, _) => none
    | (some f, e, q) => if e < l.length then (toldF n l (e + 1)).map ((f, q) :: ·) else some [(f, q)]
noncomputable def told (l : List Nat) : Option (List (List Nat × Bool)) := toldF (l.length + 1) l 0
theorem toldF_len : ∀ (n : Nat) (l : List Nat) (i : Nat) (ps : List (List Nat × Bool)), toldF n l i = some ps → ps.length ≤ n
  | 0, _, _, _, h => by simp [toldF] at h
  | n + 1, l, i, ps, h => by
    unfold toldF at h
    rcases hf : fieldF l i with ⟨fo, e, q⟩
    rw [hf] at h
    cases fo with
    | none => simp at h
    | some f =>
      dsimp only at h
      split at h
      · cases h2 : toldF n l (e + 1) with
        | none => rw [h2] at h; simp at h
        | some r =>
          rw [h2] at h
          have := toldF_len n l (e + 1) r h2
          simp at h; subst h
          simp; omega
      · simp at h; subst h; simp
theorem told_len {l : List Nat} {ps : List (List Nat × Bool)} (h : told l = some ps) : ps.length ≤ l.length + 1 := toldF_len _ _ _ _ h
def isSp : Nat → Bool := ([32] : List Nat).contains
def bareB (x : List Nat) : Bool := !decide (44 ∈ x) && decide (x = stripL isSp x)
def pieceF (x : List Nat) (f : Nat) : List Nat := List.replicate (f % 3) 32 ++ (if f = 0 ∧ bareB x = true then x else 34 :: (x ++ [34])) ++ List.replicate (f / 2) 32
/-- y is what the law writes of these texts, in some forms -/
def IsWritten (xs : List (List Nat)) (y : List Nat) : Prop := ∃ fs : List Nat, fs.length = xs.length ∧ (∀ f ∈ fs, f < 4) ∧ y = List.intercalate [44] (List.zipWith pieceF xs fs)
def cutStep (st : List (List Nat) × List Nat × Bool) (c : Nat) : List (List Nat) × List Nat × Bool :=
  if c = 34 ∧ (st.2.2 = true ∨ stripL isSp st.2.1 = []) then (st.1, st.2.1 ++ [c], !st.2.2)
  else if c = 44 ∧ st.2.2 = false then (st.1 ++ [st.2.1], [], st.2.2)
  else (st.1, st.2.1 ++ [c], st.2.2)
def cutF (l : List Nat) : List (List Nat) := (l.foldl cutStep ([], [], false)).1 ++ [(l.foldl cutStep ([], [], false)).2.1]
def dueP (p : List Nat) : Option (List Nat) :=
  if (stripL isSp p).take 1 ≠ [34] then some (stripL isSp p)
  else if 34 ∉ (stripL isSp p).drop 1 then some (p.drop (idxFrom p 34 0 + 1))
  else if idxFrom (stripL isSp p) 34 1 ≠ (stripL isSp p).length - 1 then none
  else some (((stripL isSp p).take ((stripL isSp p).length - 1)).drop 1)
def dueF (l : List Nat) : Option (List (List Nat)) := (cutF l).mapM dueP

set_option rowWalk.seconds 0
local macro_rules | `(tactic| walk_at "ENTER") => `(tactic| (w_top off; refine wpAny_call ?_; k_dflt (refine' enterO ?k1 ?k2 ?k3 ?k5 ?kA ?kF ?kK ?k6 ?k7 ?k8 ?k9 ?kB ?_ ?c2 ?c3 ?c4 ?c5; (case kA => exact rfl); (case kF => exact rfl); (case kK => assumption); (case k1 => k_asm); (case k2 => k_asm); (case k3 => k_asm); (case k5 => k_asm); (case k6 => k_is); (case k7 => k_is); (case k8 => ktr_room); (case c5 => decide); (case c2 => exact rfl); (case c3 => exact rfl); (case c4 => exact rfl))))
local macro_rules | `(tactic| walk_at "exec While") => `(tactic| refine hold ?_)
local macro_rules | `(tactic| walk_at "exec While BoolOp cons nil") => `(tactic| refine hold ?_)
local macro_rules | `(tactic| walk_at "exec While Name cons nil") => `(tactic| refine hold ?_)
local macro_rules | `(tactic| walk_at "call ref") => `(tactic| refine hold ?_)
theorem fill_now : PySem.Challenge.rw_pq0134_01 = PySem.Challenge.rw_pq0134_01 ∧ hd.heap_39 = hd.heap_39 := by
  k_fill
  exact ⟨rfl, rfl⟩
local macro_rules | `(tactic| k_all) => `(tactic| assumption)
local macro_rules | `(tactic| walk_at "eval ListComp") => `(tactic| refine hold ?_)
local macro_rules | `(tactic| walk_at "exec Assign cons ListComp") => `(tactic| refine hold ?_)
local macro_rules | `(tactic| walk_at "exec For Name Call cons nil") => `(tactic| refine hold ?_)
local macro_rules | `(tactic| walk_at "exec For Name Name cons nil") => `(tactic| refine hold ?_)
local macro_rules | `(tactic| walk_at "exec For Tuple Call cons nil") => `(tactic| refine hold ?_)
local macro_rules | `(tactic| walk_at "call type:zip") => `(tactic| refine hold ?_)
local macro_rules | `(tactic| walk_at "call type:enumerate") => `(tactic| refine hold ?_)
local macro_rules | `(tactic| walk_at "pyIter ref") => `(tactic| refine hold ?_)
local macro_rules | `(tactic| walk_at "pyIter str") => `(tactic| refine hold ?_)
local macro_rules | `(tactic| walk_at "call builtin:len") => `(tactic| (k_here; (with_reducible show wpAny _ _ (call (Value.builtin "len") [Value.ref _]) _ _ _); k_dflt (refine' len_own ?k1 ?k2 ?_; (case k1 => first | exact PyProof.Rows.News.isList (by k_asm) (by k_mem) | exact Fr.lst (by k_asm) (by assumption)); (case k2 => omega); k_whole)))
local macro_rules | `(tactic| walk_at "call builtin:str.join") => `(tactic| refine hold ?_)
local macro_rules | `(tactic| walk_at "binaryOp FloorDiv") => `(tactic| ((show wpAny _ _ (binaryOp _ (Value.int _ _) (Value.int (_ ^ _) _)) _ _ _); refine floordiv_int (by assumption) ?_ (Or.inl (PyProof.noPylong_of_log2 (by assumption)))))
local macro_rules | `(tactic| walk_at "call builtin:str.index") => `(tactic| refine hold ?_)
-- part T1
theorem lit_blanks : Str.ofString " \t" = S [32, 9] := by decide +kernel
theorem says_blank_end (w : World) (l : List Nat) (t t' : Tok) (i : Nat) (hx : l.length ≤ 1000) (hi : i ≤ 2000) :
    Says w 1 21 [.str (S l) t, .int (i : Int) t'] (fun _ => True) (fun _ _ r => ∃ t, r = .int (blankEnd l i : Int) t) := by
  unfold Says
  intro mean mg mb dp un gd cn cs a ccd cl outer A₀ base h₀ L m s Q E B F X T hk hd hu hpre hret
  walk_at "ENTER"
  case k9 => exact BindsTo.of_eq (binds := [(Str.ofString "at", .int (i : Int) t'), (Str.ofString "text", .str (S l) t)].reverse) rfl
  case kB => exact locs rfl
  intro g L' h₁ tk₁ hg F' N' B' X' T'
  subst hg
  have hxl : (S l).length ≤ 1000 := by rw [S_len]; exact hx
  (try dsimp only)
  (try k_fold)
  k_steps
  unfold Hold
  (try k_fold)
  refine While_inv2 (n₀ := blankEnd l i - i) (fun n m news => ∃ (k : Nat) (tk : Tok), blankEnd l k = blankEnd l i ∧ i ≤ k ∧ n = blankEnd l i - k ∧ Know m [(Str.ofString "at", .int (k : Int) tk), (Str.ofString "text", .str (S l) t)]) F' N' ⟨i, t', rfl, Nat.le_refl _, rfl, rfl, rfl, trivial⟩ ?_
  rintro n m₁ news₁ h₂ tk₂ F₂ N₂ ⟨k, tk0, hk1, hk2, rfl, hkn⟩
  have F₂ := hkn.fr F₂
  (try k_fold)
  k_steps
  · have a1 := ‹(k : Int) < ((S l).length : Int)›
    have a3 := ‹_ = true›
    rw [S_len] at a1
    have hk : k < l.length := by omega
    rw [lit_blanks, item_S hk, noOcc_S] at a3
    have hb : isBl l[k] = false := by simpa [isBl] using a3
    refine LeaveO.intro F₂ (fun F9 K9 => hret (.int (k : Int) tk0) _ _ F9 K9 ?_)
    exact ⟨tk0, by rw [← hk1, blankEnd_stop hk hb]⟩
  · have a1 := ‹(k : Int) < ((S l).length : Int)›
    have a3 := ‹_ = false›
    rw [S_len] at a1
    have hk : k < l.length := by omega
    rw [lit_blanks, item_S hk, noOcc_S] at a3
    have hb : isBl l[k] = true := by simp [isBl] at a3 ⊢; omega
    have e1 := blankEnd_step hk hb
    have e2 := blankEnd_ge l (k + 1)
    rename Fr _ _ _ _ => F3
    rename News _ _ _ _ => N3
    exact ⟨_, _, _, _, _, rfl, F3, N3, by omega, k + 1, _, by omega, by omega, rfl, rfl, rfl, trivial⟩
  · have a1 := ‹¬ (k : Int) < ((S l).length : Int)›
    rw [S_len] at a1
    refine LeaveO.intro F₂ (fun F9 K9 => hret (.int (k : Int) tk0) _ _ F9 K9 ?_)
    exact ⟨tk0, by rw [← hk1, blankEnd_out (by omega)]⟩

-- part T2
theorem lit_quote : Str.ofString "\"" = S [34] := by decide +kernel
theorem says_quoted (w : World) (l : List Nat) (t t' : Tok) (i : Nat) (hx : l.length ≤ 1000) (hi : i ≤ 1000) :
    Says w 2 28 [.str (S l) t, .int (i : Int) t'] (fun _ => True) (fun g h' r => ∃ a t t', r = .ref a ∧ g.get? a = none ∧ TupAt h' a [.str (S (quotedF l i).1) t, .int ((quotedF l i).2 : Int) t']) := by
  unfold Says
  intro mean mg mb dp un gd cn cs a ccd cl outer A₀ base h₀ L m s Q E B F X T hk hd hu hpre hret
  walk_at "ENTER"
  case k9 => exact BindsTo.of_eq (binds := [(Str.ofString "at", .int (i : Int) t'), (Str.ofString "text", .str (S l) t)].reverse) rfl
  case kB => exact locs rfl
  intro g L' h₁ tk₁ hg F' N' B' X' T'
  subst hg
  have hxl : (S l).length ≤ 1000 := by rw [S_len]; exact hx
  (try dsimp only)
  (try k_fold)
  k_steps
  · have a1 := ‹Txt.find3 (S l) _ ((i : Int) + 1) < 0›
    rename Fr _ _ _ _ => F3
    rename News _ _ _ _ => N3
    have hn := N3 _ (.head _)
    rw [lit_quote, show ((i : Int) + 1) = ((i + 1 : Nat) : Int) by omega, find3_S] at a1
    have hq : 34 ∉ l.drop (i + 1) := fun hm => by rw [if_pos hm] at a1; omega
    have hF : quotedF l i = (l.drop (i + 1), l.length) := if_neg hq
    have h1 := hn.1
    rw [slice_from l (i + 1) _ (by omega), S_len] at h1
    refine LeaveO.intro F3 (fun F9 K9 => hret _ _ _ F9 K9 ?_)
    rw [hF]
    exact ⟨_, _, _, rfl, hn.2.2, _, h1⟩
  · have a1 := ‹¬ Txt.find3 (S l) _ ((i : Int) + 1) < 0›
    rename News _ _ _ _ => N2
    rename Fr _ _ _ _ => F2
    have hq : 34 ∈ l.drop (i + 1) := by
      rw [lit_quote, show ((i : Int) + 1) = ((i + 1 : Nat) : Int) by omega, find3_S] at a1
      refine Classical.byContradiction fun hm => ?_
      rw [if_neg hm] at a1; omega
    have e1 : Txt.find3 (S l) (Str.ofString "\"") ((i : Int) + 1) = ((idxFrom l 34 (i + 1) : Nat) : Int) := by
      rw [lit_quote, show ((i : Int) + 1) = ((i + 1 : Nat) : Int) by omega, find3_S, if_pos hq]
    have hlt := idxFrom_lt hq
    have e2 : Txt.find3 (S l) (Str.ofString "\"") ((i : Int) + 1) + 1 = ((idxFrom l 34 (i + 1) + 1 : Nat) : Int) := by rw [e1]; omega
    rw [e2]
    unfold Hold
    refine (says_blank_end w l _ _ _ hx (by omega)).use B' F2 X' T' rfl (by show dp + 1 + 1 < _; omega) (by show un + 3 + 8 * 1 + 100 < _; omega) trivial ?_
    rintro r h5 tk5 F5 K5 ⟨t5, rfl⟩
    have N5 := News.lift N2 K5
    clear F2 N2
    (try dsimp only)
    (try k_fold)
    k_steps
    rename Fr _ _ _ _ => F3
    rename News _ _ _ _ => N3
    have hn := N3 _ (.head _)
    have hF : quotedF l i = ((l.take (idxFrom l 34 (i + 1))).drop (i + 1), blankEnd l (idxFrom l 34 (i + 1) + 1)) := if_pos hq
    have h1 := hn.1
    rw [slice_mid l (i + 1) (idxFrom l 34 (i + 1)) _ _ (by omega) e1] at h1
    refine LeaveO.intro F3 (fun F9 K9 => hret _ _ _ F9 K9 ?_)
    rw [hF]
    exact ⟨_, _, _, rfl, hn.2.2, _, h1⟩

-- part T3
theorem lit_comma : Str.ofString "," = S [44] := by decide +kernel
/-- a text or None -/
def OptStr (v : Value) : Option (List Nat) → Prop
  | some x => ∃ t, v = .str (S x) t
  | none => v = .none
theorem says_field_at (w : World) (l : List Nat) (t t' : Tok) (i : Nat) (hx : l.length ≤ 1000) (hi : i ≤ l.length) :
    Says w 3 35 [.str (S l) t, .int (i : Int) t'] (fun _ => True) (fun g h' r => ∃ a v t', r = .ref a ∧ g.get? a = none ∧ OptStr v (fieldF l i).1 ∧ TupAt h' a [v, .int ((fieldF l i).2.1 : Int) t', .bool (fieldF l i).2.2]) := by
  unfold Says
  intro mean mg mb dp un gd cn cs a ccd cl outer A₀ base h₀ L m s Q E B F X T hk hd hu hpre hret
  walk_at "ENTER"
  case k9 => exact BindsTo.of_eq (binds := [(Str.ofString "at", .int (i : Int) t'), (Str.ofString "text", .str (S l) t)].reverse) rfl
  case kB => exact locs rfl
  intro g L' h₁ tk₁ hg F' N' B' X' T'
  subst hg
  have hxl : (S l).length ≤ 1000 := by rw [S_len]; exact hx
  have hSl := S_len l
  (try dsimp only)
  (try k_fold)
  k_steps
  unfold Hold
  refine (says_blank_end w l _ _ i hx (by omega)).use B' F' X' T' rfl (by show dp + 1 + 1 < _; omega) (by show un + 3 + 8 * 1 + 100 < _; omega) trivial ?_
  rintro r h5 tk5 F5 K5 ⟨t5, rfl⟩
  have N5 := News.lift N' K5
  clear F' N'
  have hb := blankEnd_le hi
  generalize hj : blankEnd l i = j at *
  (try dsimp only)
  (try k_fold)
  k_steps
  · have hqt : l[j]? = some 34 := by
      have a1 := ‹(Txt.slice (S l) _ _ == Str.ofString "\"") = true›
      rw [lit_quote, slice_mid l j (j + 1) _ _ rfl (by omega), S_beq, decide_eq_true_eq] at a1
      exact take1_eq.mp a1
    rename News _ _ _ _ => N2
    rename Fr _ _ _ _ => F2
    unfold Hold
    refine (says_quoted w l _ _ j hx (by omega)).use B' F2 X' T' rfl (by show dp + 1 + 2 < _; omega) (by show un + 3 + 8 * 2 + 100 < _; omega) trivial ?_
    rintro r h6 tk6 F6 K6 ⟨a6, t6, t6', rfl, hn6, n6, ho6⟩
    have N6 := News.fresh' F2 (News.lift N2 K6) ho6 hn6
    have hq := quotedF_le l j
    have hfF : fieldF l i = (if (quotedF l j).2 = l.length ∨ l[(quotedF l j).2]? = some 44 then some (quotedF l j).1 else none, (quotedF l j).2, true) := by
      unfold fieldF; rw [hj, if_pos hqt]
    generalize quotedF l j = qf at *
    obtain ⟨q, e⟩ := qf
    dsimp only at hq hfF N6
    clear F2 N2 ho6
    (try dsimp only)
    (try k_fold)
    k_steps
    · have a1 := ‹(e : Int) = ((S l).length : Int)›
      rename Fr _ _ _ _ => F3
      rename News _ _ _ _ => N3
      have hn := N3 _ (.head _)
      refine LeaveO.intro F3 (fun F9 K9 => hret _ _ _ F9 K9 ?_)
      rw [hfF, if_pos (.inl (by omega))]
      exact ⟨_, _, _, rfl, hn.2.2, ⟨_, rfl⟩, _, hn.1⟩
    · have he : e < l.length := by omega
      have a2 := ‹(Txt.item (S l) (e : Int) == Str.ofString ",") = true›
      rw [lit_comma, item_S he, S_beq, decide_eq_true_eq] at a2
      have h4 : l[e]? = some 44 := by rw [List.getElem?_eq_getElem he]; simpa using a2
      rename Fr _ _ _ _ => F3
      rename News _ _ _ _ => N3
      have hn := N3 _ (.head _)
      refine LeaveO.intro F3 (fun F9 K9 => hret _ _ _ F9 K9 ?_)
      rw [hfF, if_pos (.inr h4)]
      exact ⟨_, _, _, rfl, hn.2.2, ⟨_, rfl⟩, _, hn.1⟩
    · have he : e < l.length := by omega
      have a2 := ‹(Txt.item (S l) (e : Int) == Str.ofString ",") = false›
      rw [lit_comma, item_S he, S_beq, decide_eq_false_iff_not] at a2
      have h4 : ¬ (e = l.length ∨ l[e]? = some 44) := by
        rintro (h | h)
        · omega
        · rw [List.getElem?_eq_getElem he] at h; exact a2 (by simpa using h)
      rename Fr _ _ _ _ => F3
      rename News _ _ _ _ => N3
      have hn := N3 _ (.head _)
      refine LeaveO.intro F3 (fun F9 K9 => hret _ _ _ F9 K9 ?_)
      rw [hfF, if_neg h4]
      exact ⟨_, _, _, rfl, hn.2.2, rfl, _, hn.1⟩
  · have hqt : ¬ l[j]? = some 34 := by
      have a1 := ‹(Txt.slice (S l) _ _ == Str.ofString "\"") = false›
      rw [lit_quote, slice_mid l j (j + 1) _ _ rfl (by omega), S_beq, decide_eq_false_iff_not] at a1
      exact fun h => a1 (take1_eq.mpr h)
    have a1 := ‹Txt.find3 (S l) (Str.ofString ",") (j : Int) < 0›
    have hc : ¬ 44 ∈ l.drop j := fun hm => by rw [lit_comma, find3_S, if_pos hm] at a1; omega
    have hfF : fieldF l i = (some (rstripL isBl ((l.take l.length).drop j)), l.length, false) := by
      unfold fieldF; rw [hj, if_neg hqt, if_neg hc]
    rename Fr _ _ _ _ => F3
    rename News _ _ _ _ => N3
    have hn := N3 _ (.head _)
    refine LeaveO.intro F3 (fun F9 K9 => hret _ _ _ F9 K9 ?_)
    rw [hfF]
    have h1 := hn.1
    rw [slice_mid l j l.length _ _ rfl (by rw [S_len]), lit_blanks, rstrip_S, S_len] at h1
    exact ⟨_, _, _, rfl, hn.2.2, ⟨_, rfl⟩, _, h1⟩
  · have hqt : ¬ l[j]? = some 34 := by
      have a1 := ‹(Txt.slice (S l) _ _ == Str.ofString "\"") = false›
      rw [lit_quote, slice_mid l j (j + 1) _ _ rfl (by omega), S_beq, decide_eq_false_iff_not] at a1
      exact fun h => a1 (take1_eq.mpr h)
    have a1 := ‹¬ Txt.find3 (S l) (Str.ofString ",") (j : Int) < 0›
    have hc : 44 ∈ l.drop j := Classical.byContradiction fun hm => by rw [lit_comma, find3_S, if_neg hm] at a1; omega
    have e1 : Txt.find3 (S l) (Str.ofString ",") (j : Int) = ((idxFrom l 44 j : Nat) : Int) := by rw [lit_comma, find3_S, if_pos hc]
    have hfF : fieldF l i = (some (rstripL isBl ((l.take (idxFrom l 44 j)).drop j)), idxFrom l 44 j, false) := by
      unfold fieldF; rw [hj, if_neg hqt, if_pos hc]
    rename Fr _ _ _ _ => F3
    rename News _ _ _ _ => N3
    have hn := N3 _ (.head _)
    refine LeaveO.intro F3 (fun F9 K9 => hret _ _ _ F9 K9 ?_)
    rw [hfF]
    have h1 := hn.1
    rw [slice_mid l j (idxFrom l 44 j) _ _ rfl e1, lit_blanks, rstrip_S, e1] at h1
    exact ⟨_, _, _, rfl, hn.2.2, ⟨_, rfl⟩, _, h1⟩

-- part T4
/-- None, or a fresh list of fresh pairs -/
def OutPairs : Option (List (List Nat × Bool)) → Heap → Heap → Value → Prop
  | none, _, _, r => r = .none
  | some ps, g, h', r => ∃ D vs c tl, r = .ref D ∧ FreshAll g h' ((D, listOf vs.toArray c) :: tl) ∧ (∀ p ∈ tl, p.1 ≠ D) ∧ All2 (PairIn tl) vs ps
theorem says_told (w : World) (l : List Nat) (t : Tok) (hx : l.length ≤ 1000) :
    Says w 4 42 [.str (S l) t] (fun _ => True) (fun g h' r => OutPairs (told l) g h' r) := by
  unfold Says
  intro mean mg mb dp un gd cn cs a ccd cl outer A₀ base h₀ L m s Q E B F X T hk hd hu hpre hret
  walk_at "ENTER"
  case k9 => exact BindsTo.of_eq (binds := [(Str.ofString "text", .str (S l) t)].reverse) rfl
  case kB => exact locs rfl
  intro g L' h₁ tk₁ hg F' N' B' X' T'
  subst hg
  have hxl : (S l).length ≤ 1000 := by rw [S_len]; exact hx
  have hSl := S_len l
  (try dsimp only)
  (try k_fold)
  k_steps
  rename_i D _ _ _ _ _ _ _ _ _ F1 N1
  have N1 := News.sub N1 (news' := [(D, listOf (([] : List Value).toArray) 0)]) (fun p hp => .tail _ hp)
  unfold Hold
  refine While_inv2 (n₀ := l.length + 2) (fun n m news => ∃ (i : Nat) (ai : Int) (ti : Tok) (b : Bool) (ps : List (List Nat × Bool)) (vs : List Value) (c : Nat) (tl : List (Addr × Obj)),
    ai = (i : Int) ∧ news = (D, listOf vs.toArray c) :: tl ∧ (∀ p ∈ tl, p.1 ≠ D) ∧ All2 (PairIn tl) vs ps ∧ vs.length ≤ i ∧ i ≤ l.length + 1 ∧
    (b = true → i ≤ l.length ∧ n = l.length + 2 - i ∧ ∃ k, l.length + 1 - i ≤ k ∧ told l = (toldF k l i).map (ps ++ ·)) ∧ (b = false → n = 0 ∧ told l = some ps) ∧
    Know m [(Str.ofString "found", .ref D), (Str.ofString "at", .int ai ti), (Str.ofString "is_going", .bool b), (Str.ofString "text", .str (S l) t)]) F1 N1 ?_ ?_
  · refine ⟨0, 0, tk₁, true, [], [], 0, [], rfl, rfl, (fun _ h => nomatch h), .nil, Nat.le_refl _, by omega, fun _ => ⟨by omega, by omega, l.length + 1, by omega, ?_⟩, (fun h => nomatch h), rfl, rfl, rfl, rfl, trivial⟩
    unfold told
    simp
  rintro n m₁ news₁ h₂ tk₂ F₂ N₂ ⟨i, ai, ti, b, ps, vs, c, tl, rfl, rfl, hne, hvs, hvl, hil, hgo, hstop, hkn⟩
  have F₂ := hkn.fr F₂
  cases b with
  | false =>
    obtain ⟨rfl, htold⟩ := hstop rfl
    (try k_fold)
    k_steps
    refine LeaveO.intro F₂ (fun F9 K9 => hret (.ref D) _ _ F9 K9 ?_)
    rw [htold]
    exact ⟨D, vs, c, tl, rfl, FreshAll.of_news N₂, hne, hvs⟩
  | true =>
    obtain ⟨hil', rfl, k, hk1, hk2⟩ := hgo rfl
    (try k_fold)
    k_steps
    unfold Hold
    refine (says_field_at w l _ _ i hx hil').use B' F₂ X' T' rfl (by show dp + 1 + 3 < _; omega) (by show un + 3 + 8 * 3 + 100 < _; omega) trivial ?_
    rintro r h6 tk6 F6 K6 ⟨a6, v6, t6', rfl, hn6, ho6, n6, hg6⟩
    have N6 := News.fresh' F₂ (News.lift N₂ K6) hg6 hn6
    have hfge := fieldF_ge hil'
    have hfle := fieldF_le (l := l) (i := i)
    obtain ⟨k, rfl⟩ : ∃ k', k = k' + 1 := ⟨k - 1, by omega⟩
    have hne6 : a6 ≠ D := by
      rintro rfl
      have := (N₂ _ (.head _)).1
      rw [hn6] at this; cases this
    clear F₂ hg6
    rcases hff : fieldF l i with ⟨fo, e, q⟩
    rw [hff] at N6 ho6 hfge hfle
    dsimp only at N6 ho6 hfge hfle
    cases fo with
    | none =>
      have hnone : told l = none := by rw [hk2]; unfold toldF; rw [hff]; rfl
      obtain rfl : v6 = .none := ho6
      (try dsimp only)
      (try k_fold)
      k_steps
      rename Fr _ _ _ _ => F3
      dsimp only [WhileStep2]
      refine LeaveO.intro F3 (fun F9 K9 => hret .none _ _ F9 K9 ?_)
      rw [hnone]
      rfl
    | some f =>
      obtain ⟨t6, rfl⟩ := ho6
      (try dsimp only)
      (try k_fold)
      k_steps
      rename Fr _ _ _ _ => F3
      rename News _ _ _ _ => N3
      rename (_ ∧ _ ∧ AllLt _ _) => hlt
      obtain ⟨D6, hlt, hF3⟩ : ∃ D6, (@LT.lt Nat _ D D6) ∧ News s.heap L' _ ((D6, _) :: _ :: (D, listOf (vs.toArray.push (.ref D6)) (c + 1)) :: tl) := ⟨_, hlt.2.1, N3⟩
      have hD6' : D6 ≠ D := Nat.ne_of_gt hlt
      have hstep : toldF (k + 1) l i = if e < l.length then (toldF k l (e + 1)).map ((f, q) :: ·) else some [(f, q)] := by
        rw [toldF, hff]
      rw [hstep] at hk2
      refine ⟨_, _, _, (D, listOf (vs ++ [Value.ref D6]).toArray (c + 1)) :: (D6, tupOf [Value.str (S f) t6, Value.bool q] 0) :: tl, if e < l.length then l.length + 2 - (e + 1) else 0, rfl, F3, News.sub hF3 ?_, ?_, e + 1, _, _, decide ((e : Int) < ((S l).length : Int)), ps ++ [(f, q)], vs ++ [Value.ref D6], c + 1, _, ?_, rfl, ?_, ?_, ?_, ?_, ?_, ?_, rfl, rfl, rfl, rfl, trivial⟩
      · intro p hp
        rcases List.mem_cons.mp hp with rfl | hp
        · simp
        · rcases List.mem_cons.mp hp with rfl | hp
          · exact .head _
          · exact .tail _ (.tail _ (.tail _ hp))
      · split <;> omega
      · omega
      · intro p hp
        rcases List.mem_cons.mp hp with rfl | hp
        · exact hD6'
        · exact hne p hp
      · exact (hvs.imp fun _ _ => PairIn.mono fun _ h => .tail _ h).append (.cons ⟨D6, t6, 0, rfl, .head _⟩ .nil)
      · rw [List.length_append]; simp; omega
      · omega
      · intro hb
        have he : e < l.length := by have := of_decide_eq_true hb; omega
        rw [if_pos he] at hk2
        refine ⟨by omega, by rw [if_pos he], k, by omega, ?_⟩
        rw [hk2]
        cases toldF k l (e + 1) <;> simp
      · intro hb
        have he : ¬ e < l.length := by have := of_decide_eq_false hb; omega
        rw [if_neg he] at hk2
        exact ⟨by rw [if_neg he], hk2⟩

-- part T5
/-- a text's value -/
def IsS (v : Value) (x : List Nat) : Prop := ∃ t, v = .str (S x) t
/-- None, or a fresh list of texts -/
def OutStrs : Option (List (List Nat)) → Heap → Heap → Value → Prop
  | none, _, _, r => r = .none
  | some xs, g, h', r => ∃ D vs c, r = .ref D ∧ FreshAll g h' [(D, listOf vs.toArray c)] ∧ All2 IsS vs xs
theorem says_parted (w : World) (l : List Nat) (t : Tok) (hx : l.length ≤ 1000) :
    Says w 5 47 [.str (S l) t] (fun _ => True) (fun g h' r => OutStrs ((told l).map (·.map (·.1))) g h' r) := by
  unfold Says
  intro mean mg mb dp un gd cn cs a ccd cl outer A₀ base h₀ L m s Q E B F X T hk hd hu hpre hret
  walk_at "ENTER"
  case k9 => exact BindsTo.of_eq (binds := [(Str.ofString "text", .str (S l) t)].reverse) rfl
  case kB => exact locs rfl
  intro g L' h₁ tk₁ hg F' N' B' X' T'
  subst hg
  have hxl : (S l).length ≤ 1000 := by rw [S_len]; exact hx
  have hSl := S_len l
  (try dsimp only)
  (try k_fold)
  k_steps
  unfold Hold
  refine (says_told w l _ hx).use B' F' X' T' rfl (by show dp + 1 + 4 < _; omega) (by show un + 3 + 8 * 4 + 100 < _; omega) trivial ?_
  intro r h6 tk6 F6 K6 P6
  have N6 := News.lift N' K6
  cases ht : told l with
  | none =>
    rw [ht] at P6
    obtain rfl : r = .none := P6
    clear F' N'
    (try dsimp only)
    (try k_fold)
    k_steps
    rename Fr _ _ _ _ => F3
    refine LeaveO.intro F3 (fun F9 K9 => hret .none _ _ F9 K9 ?_)
    rw [ht]
    rfl
  | some ps =>
    rw [ht] at P6
    obtain ⟨D, vs, c, tl, rfl, hfr, hne, hvs⟩ := P6
    have N6 := News.freshes F' N6 hfr
    rw [List.append_nil] at N6
    have hlen := told_len ht
    have hvl := hvs.length
    clear F' N'
    (try dsimp only)
    (try k_fold)
    k_steps
    rename Fr _ _ _ _ => F3
    rename News _ _ _ _ => N3
    unfold Hold
    k_dflt (refine LCp.ListComp_P (F₀ := F3) (by with_unfolding_all rfl) (by decide) (by rfl) (by decide) (by rfl) (by rfl) (by decide) ?_)
    walk1
    refine LCp.SrcLP.ledger (by rfl) F3 N3 (.head _) (by show vs.toArray.size ≤ _; rw [List.size_toArray, sizeLine_eq]; omega) ?_
    intro g7
    refine compAllP (fun i ys => All2 IsS ys ((ps.take i).map (·.1))) ?_ _ 0 [] .nil ?_
    · intro i ys v hR hv
      have hv' : vs[i]? = some v := by simpa using hv
      obtain ⟨p, hp, a8, t8, c8, rfl, hm8⟩ := hvs.get hv'
      refine ⟨a8, _, _, _, c8, rfl, .tail _ hm8, rfl, rfl, ?_⟩
      intro I oI C oC D' m₂ h8 tk8 E' hC hx1 hx2 F8 N8 off
      k_steps
      exact LCg.CompEnd.intro F8 N8 _ (fun _ h => h) off (.inr ⟨_, .head _, rfl, _, rfl⟩) ⟨rfl, hR.snoc_map hp ⟨_, rfl⟩⟩
    · intro ys hR
      intro D9 h9 tk9 F9 N9 o9
      refine LeaveO.intro F9 (fun F K => hret (.ref D9) _ _ F K ?_)
      rw [ht]
      refine ⟨D9, ys, _, rfl, FreshAll.of_news (News.sub N9 (news' := [(D9, listOf ys.toArray ys.length)]) fun p hp => ?_), ?_⟩
      · rw [List.mem_singleton.mp hp]; exact .head _
      · rw [Nat.zero_add, List.size_toArray, hvl, List.take_length] at hR
        exact hR

-- part T6
theorem says_value_text (w : World) (l : List Nat) (t t' : Tok) :
    Says w 1 54 [.str (S l) t, .str (Str.ofString "text") t', .none] (fun _ => True) (fun _ _ r => IsS r l) := by
  unfold Says
  intro mean mg mb dp un gd cn cs a ccd cl outer A₀ base h₀ L m s Q E B F X T hk hd hu hpre hret
  walk_at "ENTER"
  case k9 => exact BindsTo.of_eq (binds := [(Str.ofString "read_number", .none), (Str.ofString "kind", .str (Str.ofString "text") t'), (Str.ofString "field", .str (S l) t)].reverse) rfl
  case kB => exact locs rfl
  intro g L' h₁ tk₁ hg F' N' B' X' T'
  subst hg
  (try dsimp only)
  (try k_fold)
  k_steps
  rename Fr _ _ _ _ => F3
  refine LeaveO.intro F3 (fun F9 K9 => hret (.str (S l) t) _ _ F9 K9 ⟨t, rfl⟩)
theorem says_value_whole (w : World) (t t' : Tok) :
    Says w 1 54 [.str (Str.ofString "") t, .str (Str.ofString "whole") t', .none] (fun _ => True) (fun _ _ r => ∃ t, r = .int 0 t) := by
  unfold Says
  intro mean mg mb dp un gd cn cs a ccd cl outer A₀ base h₀ L m s Q E B F X T hk hd hu hpre hret
  walk_at "ENTER"
  case k9 => exact BindsTo.of_eq (binds := [(Str.ofString "read_number", .none), (Str.ofString "kind", .str (Str.ofString "whole") t'), (Str.ofString "field", .str (Str.ofString "") t)].reverse) rfl
  case kB => exact locs rfl
  intro g L' h₁ tk₁ hg F' N' B' X' T'
  subst hg
  (try dsimp only)
  (try k_fold)
  k_steps
  rename Fr _ _ _ _ => F3
  refine LeaveO.intro F3 (fun F9 K9 => hret (.int 0 _) _ _ F9 K9 ⟨_, rfl⟩)
noncomputable def fittedF (l : List Nat) (n : Nat) : Option (List (List Nat)) := match told l with
  | some ps => if ps.length = n then some (ps.map (·.1)) else none
  | none => none
theorem says_fitted (w : World) (l : List Nat) (t : Tok) (K : Addr) (ks : List Value) (hx : l.length ≤ 1000) (hks : ∀ v ∈ ks, ∃ t, v = .str (Str.ofString "text") t) (hkl : ks.length ≤ 1000) :
    Says w 5 61 [.ref K, .str (S l) t, .none] (fun g => g.IsList K ks.toArray) (fun g h' r => OutStrs (fittedF l ks.length) g h' r) := by
  unfold Says
  intro mean mg mb dp un gd cn cs a ccd cl outer A₀ base h₀ L m s Q E B F X T hk hd hu hpre hret
  walk_at "ENTER"
  case k9 => exact BindsTo.of_eq (binds := [(Str.ofString "read_number", .none), (Str.ofString "text", .str (S l) t), (Str.ofString "kinds", .ref K)].reverse) rfl
  case kB => exact locs rfl
  intro g L' h₁ tk₁ hg F' N' B' X' T'
  subst hg
  have hxl : (S l).length ≤ 1000 := by rw [S_len]; exact hx
  have hpre' : s.heap.IsList K ks.toArray := hpre
  (try dsimp only)
  (try k_fold)
  k_steps
  unfold Hold
  refine (says_told w l _ hx).use B' F' X' T' rfl (by show dp + 1 + 4 < _; omega) (by show un + 3 + 8 * 4 + 100 < _; omega) trivial ?_
  intro r h6 tk6 F6 K6 P6
  have N6 := News.lift N' K6
  cases ht : told l with
  | none =>
    rw [ht] at P6
    obtain rfl : r = .none := P6
    clear F' N'
    (try dsimp only)
    (try k_fold)
    k_steps
    rename Fr _ _ _ _ => F3
    refine LeaveO.intro F3 (fun F9 K9 => hret .none _ _ F9 K9 ?_)
    have e : fittedF l ks.length = none := by unfold fittedF; rw [ht]
    rw [e]; rfl
  | some ps =>
    rw [ht] at P6
    obtain ⟨D, vs, c, tl, rfl, hfr, hne, hvs⟩ := P6
    have N6 := News.freshes F' N6 hfr
    rw [List.append_nil] at N6
    have hlen := told_len ht
    have hvl := hvs.length
    have hvz : vs.length ≤ 1001 := by omega
    clear F' N'
    (try dsimp only)
    (try k_fold)
    k_steps
    · have hne2 := ‹(vs.length : Int) ≠ (ks.length : Int)›
      rename Fr _ _ _ _ => F3
      dsimp only
      refine LeaveO.intro F3 (fun F9 K9 => hret .none _ _ F9 K9 ?_)
      have e : fittedF l ks.length = none := by unfold fittedF; rw [ht]; exact if_neg (by omega)
      rw [e]; rfl
    · have heq := ‹(vs.length : Int) = (ks.length : Int)›
      have e : fittedF l ks.length = some (ps.map (·.1)) := by unfold fittedF; rw [ht]; exact if_pos (by omega)
      rename_i R _ l1 _ F3 N3
      have hRD : D ≠ R := Nat.ne_of_lt l1.1
      have hRtl : ∀ p ∈ tl, p.1 ≠ R := fun p hp => Nat.ne_of_lt (ktn_ltOf l1.2 p hp)
      unfold Hold
      (try k_fold)
      refine For_turns F3 ?_
      k_steps
      unfold Hold
      have hl1 : Heap.IsList _ D vs.toArray := PyProof.Rows.News.isList N3 (.tail _ (.head _))
      have hl2 := Fr.lst F3 hpre'
      have hoff3 := fun nx k => olds_off (news₂ := nx) N3 k [4, 3, 0, 1]
      refine turns_zip (vs := vs) (ws := ks) (by rfl) hl1 hl2 ((N3 _ (.tail _ (.head _))).2.1) (base_ne F3 hpre') (by omega) F3 N3
        (fun i m nx => ∃ (us : List Value) (c' : Nat), nx = (R, listOf us.toArray c') :: (D, listOf vs.toArray c) :: tl ∧ All2 IsS us ((ps.take i).map (·.1)) ∧ us.length ≤ i ∧ Know m [(Str.ofString "found", .ref R), (Str.ofString "read_number", .none)])
        ⟨[], 0, rfl, .nil, Nat.le_refl _, rfl, rfl, trivial⟩ ?_ ?_
      · rintro i T2 v u m₁ _ h₂ tk₂ own hv hu hT ⟨us, c', rfl, hus, husl, hkn⟩ hown F₂ N₂
        obtain ⟨p, hp, a8, t8, c8, rfl, hm8⟩ := hvs.get hv
        obtain ⟨t9, rfl⟩ := hks u (List.mem_of_getElem? hu)
        have hi : i < vs.length := (List.getElem?_eq_some_iff.mp hv).1
        have hR0 := (N3 _ (.head _)).1
        have hoR : ∀ p ∈ own, p.1 ≠ R := fun p hp e => by
          rcases hown p hp with e1 | e1 | e1
          · exact hRD (e1 ▸ e)
          · obtain ⟨o, e2, _⟩ := hpre'
            have := (N3 _ (.head _)).2.2
            rw [← e, e1, e2] at this; cases this
          · rw [e] at e1; exact absurd (e1.symm.trans hR0) (by simp)
        have hoff : ∀ p ∈ tl ++ own, p.1 ≠ R := fun p hp => (List.mem_append.mp hp).elim (hRtl p) (hoR p)
        have ha8R : a8 ≠ R := hRtl _ hm8
        have N₂ := News.sub N₂ (news' := (R, listOf us.toArray c') :: (D, listOf vs.toArray c) :: (a8, tupOf [Value.str (S p.1) t8, Value.bool p.2] c8) :: (tl ++ own)) (fun p hp => by
          simp only [List.mem_cons, List.mem_append] at hp ⊢; grind)
        have F₂ := hkn.fr F₂
        k_steps
        all_goals (
          rename Fr _ _ _ _ => F4
          rename News _ _ _ _ => N4
          unfold Hold
          refine (says_value_text w p.1 _ _).use B' F4 X' T' rfl (by show dp + 1 + 1 < _; omega) (by show un + 3 + 8 * 1 + 100 < _; omega) trivial ?_
          rintro r h7 tk7 F7 K7 ⟨t7, rfl⟩
          have N7 := News.lift N4 K7
          clear F4 N4
          (try dsimp only)
          (try k_fold)
          k_steps
          rename Fr _ _ _ _ => F5
          rename News _ _ _ _ => N5
          rw [List.push_toArray] at N5
          refine turn_endU (news₂ := (R, listOf (us ++ [Value.str (S p.1) t7]).toArray (c' + 1)) :: (D, listOf vs.toArray c) :: tl) F5 N5 (fun q hq => by
            simp only [List.mem_cons, List.mem_append] at hq ⊢; grind) (hoff3 _ (fun q hq => ?_)) ⟨us ++ [Value.str (S p.1) t7], c' + 1, rfl, hus.snoc_map hp ⟨_, rfl⟩, by simp; omega, rfl, rfl, trivial⟩
          rcases List.mem_cons.mp hq with rfl | hq
          · exact ⟨_, .head _⟩
          · exact ⟨q.2, .tail _ hq⟩)
      · intro h7 tk7 m7 _ F7 N7 ⟨us, c', e1, hus, husl, hkn⟩
        subst e1
        have F7 := hkn.fr F7
        (try dsimp only)
        (try k_fold)
        k_steps
        refine LeaveO.intro F7 (fun F9 K9 => hret (.ref R) _ _ F9 K9 ?_)
        rw [e]
        refine ⟨R, us, c', rfl, FreshAll.of_news (News.sub N7 fun p hp => ?_), ?_⟩
        · rw [List.mem_singleton.mp hp]; exact .head _
        · rw [hvl, List.take_length] at hus
          exact hus

-- part T7
/-- the signs of the law's texts, of its rows -/
def signsT : List Nat := [97, 44, 32, 58, 59, 49, 32, 46, 98]
def signsR : List Nat := [97, 44, 34, 32, 32, 49, 58]
theorem item_lit (l : List Nat) {q : Int} (h0 : 0 ≤ q) (h1 : q < (l.length : Int)) : ∃ c ∈ l, Txt.item (S l) q = S [c] := by
  have h : q.toNat < l.length := by omega
  refine ⟨l[q.toNat], List.getElem_mem h, ?_⟩
  rw [← item_S h, show ((q.toNat : Nat) : Int) = q by omega]
theorem says_law_text (w : World) (n : Int) (t : Tok) :
    Says w 1 68 [.int n t] (fun _ => True) (fun _ _ r => ∃ x, IsS r x ∧ x.length ≤ 5 ∧ ∀ c ∈ x, c ∈ signsT) := by
  unfold Says
  intro mean mg mb dp un gd cn cs a ccd cl outer A₀ base h₀ L m s Q E B F X T hk hd hu hpre hret
  walk_at "ENTER"
  case k9 => exact BindsTo.of_eq (binds := [(Str.ofString "number", .int n t)].reverse) rfl
  case kB => exact locs rfl
  intro g L' h₁ tk₁ hg F' N' B' X' T'
  subst hg
  (try dsimp only)
  (try k_fold)
  k_steps
  rename Fr _ _ _ _ => F3
  unfold Hold
  (try k_fold)
  refine For_turns F3 ?_
  k_steps
  rename IsRange _ _ _ _ _ _ _ _ => hR
  rename Fr _ _ _ _ => F4
  rename News _ _ _ _ => N4
  have hm0 : 0 ≤ n.fmod 6 := Int.fmod_nonneg_of_pos n (by decide)
  have hm1 : n.fmod 6 < 6 := Int.fmod_lt_of_pos n (by decide)
  unfold Hold
  refine turns_range (n := (n.fmod 6).toNat) (by rfl) hR (by omega) (by omega) F4 N4 rfl
    (fun i m nx => nx = [] ∧ ∃ (x : List Nat) (k : Int) (t1 t2 : Tok), x.length = i ∧ (∀ c ∈ x, c ∈ signsT) ∧ Know m [(Str.ofString "found", .str (S x) t1), (Str.ofString "number", .int k t2)])
    ⟨rfl, [], n, _, t, rfl, (fun _ h => nomatch h), rfl, rfl, trivial⟩ ?_ ?_
  · rintro i ti m₁ _ h₂ tk₂ own hi ⟨rfl, x, k, t1, t2, hxl, hxs, hkn⟩ hown F₂ N₂
    have F₂ := hkn.fr F₂
    have hxz : (S x).length ≤ 1000 := by rw [S_len]; omega
    (try k_fold)
    k_steps
    rename Fr _ _ _ _ => F5
    rename News _ _ _ _ => N5
    have q0 : 0 ≤ (k.fdiv 5).fmod 9 := Int.fmod_nonneg_of_pos _ (by decide)
    have q1 : (k.fdiv 5).fmod 9 < 9 := Int.fmod_lt_of_pos _ (by decide)
    obtain ⟨c, hc, he⟩ := item_lit signsT (q := (k.fdiv 5).fmod 9) q0 q1
    rw [show Str.ofString "a, :;1 .b" = S signsT by decide +kernel, he, S_app] at F5
    refine turn_endU (news₂ := []) F5 N5 (fun q hq => hq) (fun _ h => nomatch h) ⟨rfl, x ++ [c], _, _, _, by simp; omega, ?_, rfl, rfl, trivial⟩
    intro d hd'
    rcases List.mem_append.mp hd' with h | h
    · exact hxs d h
    · rw [List.mem_singleton.mp h]; exact hc
  · rintro h7 tk7 m7 _ F7 N7 ⟨rfl, x, k, t1, t2, hxl, hxs, hkn⟩
    have F7 := hkn.fr F7
    (try dsimp only)
    (try k_fold)
    k_steps
    refine LeaveO.intro F7 (fun F9 K9 => hret (.str (S x) t1) _ _ F9 K9 ?_)
    exact ⟨x, ⟨t1, rfl⟩, by omega, hxs⟩
theorem says_law_row (w : World) (n : Int) (t : Tok) :
    Says w 1 75 [.int n t] (fun _ => True) (fun _ _ r => ∃ x, IsS r x ∧ x.length ≤ 9 ∧ ∀ c ∈ x, c ∈ signsR) := by
  unfold Says
  intro mean mg mb dp un gd cn cs a ccd cl outer A₀ base h₀ L m s Q E B F X T hk hd hu hpre hret
  walk_at "ENTER"
  case k9 => exact BindsTo.of_eq (binds := [(Str.ofString "number", .int n t)].reverse) rfl
  case kB => exact locs rfl
  intro g L' h₁ tk₁ hg F' N' B' X' T'
  subst hg
  (try dsimp only)
  (try k_fold)
  k_steps
  rename Fr _ _ _ _ => F3
  unfold Hold
  (try k_fold)
  refine For_turns F3 ?_
  k_steps
  rename IsRange _ _ _ _ _ _ _ _ => hR
  rename Fr _ _ _ _ => F4
  rename News _ _ _ _ => N4
  have hm0 : 0 ≤ n.fmod 10 := Int.fmod_nonneg_of_pos n (by decide)
  have hm1 : n.fmod 10 < 10 := Int.fmod_lt_of_pos n (by decide)
  unfold Hold
  refine turns_range (n := (n.fmod 10).toNat) (by rfl) hR (by omega) (by omega) F4 N4 rfl
    (fun i m nx => nx = [] ∧ ∃ (x : List Nat) (k : Int) (t1 t2 : Tok), x.length = i ∧ (∀ c ∈ x, c ∈ signsR) ∧ Know m [(Str.ofString "found", .str (S x) t1), (Str.ofString "number", .int k t2)])
    ⟨rfl, [], n, _, t, rfl, (fun _ h => nomatch h), rfl, rfl, trivial⟩ ?_ ?_
  · rintro i ti m₁ _ h₂ tk₂ own hi ⟨rfl, x, k, t1, t2, hxl, hxs, hkn⟩ hown F₂ N₂
    have F₂ := hkn.fr F₂
    have hxz : (S x).length ≤ 1000 := by rw [S_len]; omega
    (try k_fold)
    k_steps
    rename Fr _ _ _ _ => F5
    rename News _ _ _ _ => N5
    have q0 : 0 ≤ (k.fdiv 3).fmod 7 := Int.fmod_nonneg_of_pos _ (by decide)
    have q1 : (k.fdiv 3).fmod 7 < 7 := Int.fmod_lt_of_pos _ (by decide)
    obtain ⟨c, hc, he⟩ := item_lit signsR (q := (k.fdiv 3).fmod 7) q0 q1
    rw [show Str.ofString "a,\"  1:" = S signsR by decide +kernel, he, S_app] at F5
    refine turn_endU (news₂ := []) F5 N5 (fun q hq => hq) (fun _ h => nomatch h) ⟨rfl, x ++ [c], _, _, _, by simp; omega, ?_, rfl, rfl, trivial⟩
    intro d hd'
    rcases List.mem_append.mp hd' with h | h
    · exact hxs d h
    · rw [List.mem_singleton.mp h]; exact hc
  · rintro h7 tk7 m7 _ F7 N7 ⟨rfl, x, k, t1, t2, hxl, hxs, hkn⟩
    have F7 := hkn.fr F7
    (try dsimp only)
    (try k_fold)
    k_steps
    refine LeaveO.intro F7 (fun F9 K9 => hret (.str (S x) t1) _ _ F9 K9 ?_)
    exact ⟨x, ⟨t1, rfl⟩, by omega, hxs⟩

-- part T8
theorem lit_sp : Str.ofString " " = S [32] := by decide +kernel
theorem says_is_bare (w : World) (x : List Nat) (t : Tok) (hx : x.length ≤ 100) :
    Says w 1 82 [.str (S x) t] (fun _ => True) (fun _ _ r => r = .bool (bareB x)) := by
  unfold Says
  intro mean mg mb dp un gd cn cs a ccd cl outer A₀ base h₀ L m s Q E B F X T hk hd hu hpre hret
  walk_at "ENTER"
  case k9 => exact BindsTo.of_eq (binds := [(Str.ofString "text", .str (S x) t)].reverse) rfl
  case kB => exact locs rfl
  intro g L' h₁ tk₁ hg F' N' B' X' T'
  subst hg
  have hxl : (S x).length ≤ 100 := by rw [S_len]; exact hx
  (try dsimp only)
  (try k_fold)
  k_steps
  · have a1 := ‹_ = true›
    rw [lit_comma, noOcc_S] at a1
    rename Fr _ _ _ _ => F3
    refine LeaveO.intro F3 (fun F9 K9 => hret _ _ _ F9 K9 ?_)
    rw [lit_sp, strip_S, S_beq]
    unfold bareB
    rw [a1, Bool.true_and]; rfl
  · have a1 := ‹_ = false›
    rw [lit_comma, noOcc_S] at a1
    rename Fr _ _ _ _ => F3
    refine LeaveO.intro F3 (fun F9 K9 => hret (.bool (!!(Builtin.Str.occurrences (S x) (Str.ofString ",") 0 (S x).length 1).isEmpty)) _ _ F9 K9 ?_)
    rw [lit_comma, noOcc_S, a1]
    unfold bareB
    rw [a1]; rfl
theorem mul_mod {q : Int} {f : Nat} (h : q = (f : Int)) : Txt.mul (Str.ofString " ") (q.fmod 3) = S (List.replicate (f % 3) 32) := by
  subst h
  rw [lit_sp]
  refine mul_S 32 (f % 3) _ ?_
  rw [Int.fmod_eq_emod_of_nonneg _ (by decide)]; rfl
theorem mul_div {q : Int} {f : Nat} (h : q = (f : Int)) : Txt.mul (Str.ofString " ") (q.fdiv 2) = S (List.replicate (f / 2) 32) := by
  subst h
  rw [lit_sp]
  refine mul_S 32 (f / 2) _ ?_
  rw [Int.fdiv_eq_ediv_of_nonneg _ (by decide)]; rfl
theorem piece_quoted {q : Int} {f : Nat} {x : List Nat} (h : q = (f : Int)) (hb : ¬ (f = 0 ∧ bareB x = true)) :
    Txt.mul (Str.ofString " ") (q.fmod 3) ++ (Str.ofString "\"" ++ S x ++ Str.ofString "\"") ++ Txt.mul (Str.ofString " ") (q.fdiv 2) = S (pieceF x f) := by
  rw [mul_mod h, mul_div h, lit_quote, S_app, S_app, S_app, S_app]
  unfold pieceF
  rw [if_neg hb]
  simp
theorem piece_bare {q : Int} {f : Nat} {x : List Nat} (h : q = (f : Int)) (hb : f = 0 ∧ bareB x = true) :
    Txt.mul (Str.ofString " ") (q.fmod 3) ++ S x ++ Txt.mul (Str.ofString " ") (q.fdiv 2) = S (pieceF x f) := by
  rw [mul_mod h, mul_div h, S_app, S_app]
  unfold pieceF
  rw [if_pos hb]
theorem zip_snoc {xs : List (List Nat)} {fs : List Nat} {i f : Nat} {x : List Nat} (hl : fs.length = i) (hx : xs[i]? = some x) :
    List.zipWith pieceF (xs.take (i + 1)) (fs ++ [f]) = List.zipWith pieceF (xs.take i) fs ++ [pieceF x f] := by
  have hi : i < xs.length := (List.getElem?_eq_some_iff.mp hx).1
  rw [List.take_add_one, hx, List.zipWith_append (by simp; omega)]
  rfl
theorem pow4_log (i : Nat) (h : i ≤ 20) : ((4 : Int) ^ ((i : Int).toNat)).natAbs.log2 < 9000 := by
  rw [Int.toNat_natCast, Int.natAbs_pow]
  have h1 : (4 : Nat) ^ i ≠ 0 := Nat.ne_of_gt (Nat.pow_pos (by decide))
  have h2 : (4 : Nat) ^ i ≤ 4 ^ 20 := Nat.pow_le_pow_right (by decide) h
  have h3 : (4 : Nat) ^ i < 2 ^ 41 := Nat.lt_of_le_of_lt h2 (by decide)
  have := (Nat.log2_lt h1).mpr h3
  show ((4 : Nat) ^ i).log2 < 9000
  omega
theorem strs_of {us : List Value} {ys : List (List Nat)} (h : All2 IsS us ys) : ∃ l : List (Str × Tok), strValues l = us ∧ l.map (·.1) = ys.map S := by
  induction h with
  | nil => exact ⟨[], rfl, rfl⟩
  | cons h _ ih =>
    obtain ⟨t, rfl⟩ := h
    obtain ⟨l, e1, e2⟩ := ih
    exact ⟨(S _, t) :: l, by unfold strValues at e1 ⊢; rw [List.map_cons, e1], by rw [List.map_cons, e2]; rfl⟩
theorem sum_len {ys : List (List Nat)} {b : Nat} (h : ∀ y ∈ ys, y.length ≤ b) : ((ys.map S).map (·.length)).sum ≤ ys.length * b := by
  induction ys with
  | nil => simp
  | cons y r ih =>
    have h1 := h y (.head _)
    have h2 := ih fun z hz => h z (.tail _ hz)
    rw [List.map_cons, List.map_cons, List.sum_cons, List.length_cons, S_len, Nat.add_mul, Nat.one_mul]
    omega
theorem join_own {prog : Program} {w : World} {A : Around} {E : Value → Shared → Prop} {s : Shared} {D : Addr} {us : List Value} {ys : List (List Nat)} {t : Tok} {Q : Value → Shared → Prop} (hl : s.heap.IsList D us.toArray) (hus : All2 IsS us ys) (h1 : ys.length ≤ 100) (h2 : ∀ y ∈ ys, y.length ≤ 100)
    (hq : ∀ t' k, Q (.str (S (List.intercalate [44] ys)) t') { s with toks := k }) : wpAny (model prog w) A (call (.builtin "str.join") [.str (Str.ofString ",") t, .ref D]) Q E s := by
  obtain ⟨l, e1, e2⟩ := strs_of hus
  rw [← e1] at hl
  refine SC.join hl e2 (joinOk_of ?_) ?_
  · have := sum_len h2
    have e3 : (Str.ofString ",").length = 1 := by decide +kernel
    have e4 : ys.length * 100 ≤ 100 * 100 := Nat.mul_le_mul_right _ h1
    rw [e3, List.length_map]
    omega
  · intro t' k
    have e : Txt.join (Str.ofString ",") (ys.map S) = S (List.intercalate [44] ys) := by
      show Builtin.Str.glued _ _ = _
      rw [StrLaws.glued_eq_join, lit_comma, join_S]
    rw [e]
    exact hq t' k
theorem pieceF_len (x : List Nat) (f : Nat) (hf : f < 4) : (pieceF x f).length ≤ x.length + 10 := by
  unfold pieceF
  split <;> simp <;> omega
theorem pieces_len {b : Nat} : ∀ {xs : List (List Nat)} {fs : List Nat}, (∀ x ∈ xs, x.length ≤ b) → (∀ f ∈ fs, f < 4) → ∀ y ∈ List.zipWith pieceF xs fs, y.length ≤ b + 10
  | [], _, _, _, _, hy => by simp at hy
  | _ :: _, [], _, _, _, hy => by simp at hy
  | x :: xs, f :: fs, hx, hf, y, hy => by
    rw [List.zipWith_cons_cons] at hy
    rcases List.mem_cons.mp hy with rfl | hy
    · have h1 := hx x (.head _)
      have h2 := pieceF_len x f (hf f (.head _))
      omega
    · exact pieces_len (fun z hz => hx z (.tail _ hz)) (fun g hg => hf g (.tail _ hg)) y hy
theorem says_written (w : World) (K : Addr) (vs : List Value) (xs : List (List Nat)) (n : Int) (t : Tok) (hvs : All2 IsS vs xs) (hxl : xs.length ≤ 20) (hx : ∀ x ∈ xs, x.length ≤ 20) :
    Says w 2 89 [.ref K, .int n t] (fun g => g.IsList K vs.toArray) (fun _ _ r => ∃ y, IsS r y ∧ IsWritten xs y) := by
  unfold Says
  intro mean mg mb dp un gd cn cs a ccd cl outer A₀ base h₀ L m s Q E B F X T hk hd hu hpre hret
  walk_at "ENTER"
  case k9 => exact BindsTo.of_eq (binds := [(Str.ofString "number", .int n t), (Str.ofString "texts", .ref K)].reverse) rfl
  case kB => exact locs rfl
  intro g L' h₁ tk₁ hg F' N' B' X' T'
  subst hg
  have hpre' : s.heap.IsList K vs.toArray := hpre
  (try dsimp only)
  (try k_fold)
  k_steps
  rename_i R _ _ _ F3 N3
  unfold Hold
  (try k_fold)
  refine For_turns F3 ?_
  k_steps
  unfold Hold
  have hoff3 := fun nx k => olds_off (news₂ := nx) N3 k [1, 0]
  refine turns_enum (vs := vs) (by rfl) (Fr.lst F3 hpre') (base_ne F3 hpre') F3 N3
    (fun i m nx => ∃ (us : List Value) (c' : Nat) (fs : List Nat), nx = [(R, listOf us.toArray c')] ∧ fs.length = i ∧ (∀ f ∈ fs, f < 4) ∧ us.length = i ∧ All2 IsS us (List.zipWith pieceF (xs.take i) fs) ∧ Know m [(Str.ofString "pieces", .ref R), (Str.ofString "number", .int n t)])
    ⟨[], 0, [], rfl, rfl, (fun _ h => nomatch h), rfl, .nil, rfl, rfl, trivial⟩ ?_ ?_
  · rintro i T2 ti u m₁ _ h₂ tk₂ own hu hT ⟨us, c', fs, rfl, hfl, hf4, hul, hus, hkn⟩ hown F₂ N₂
    obtain ⟨x, hxx, tx, rfl⟩ := hvs.get hu
    have hxz := hx x (List.mem_of_getElem? hxx)
    have hiv : i < xs.length := (List.getElem?_eq_some_iff.mp hxx).1
    have hxs : (S x).length ≤ 20 := by rw [S_len]; exact hxz
    have hR0 := (N3 _ (.head _)).1
    have hoR : ∀ p ∈ own, p.1 ≠ R := fun p hp e => by
      rcases hown p hp with e1 | e1
      · obtain ⟨o, e2, _⟩ := hpre'
        have := (N3 _ (.head _)).2.2
        rw [← e, e1, e2] at this; cases this
      · rw [e] at e1; exact absurd (e1.symm.trans hR0) (by simp)
    have N₂ := News.sub N₂ sub_first
    have F₂ := hkn.fr F₂
    have hp4 : (4 : Int) ^ ((i : Int).toNat) ≠ 0 := Int.ne_of_gt (Int.pow_pos (by decide))
    have hlg : ((4 : Int) ^ ((i : Int).toNat)).natAbs.log2 < 9000 := pow4_log i (by omega)
    have hm0 : 0 ≤ (n.fdiv ((4 : Int) ^ ((i : Int).toNat))).fmod 4 := Int.fmod_nonneg_of_pos _ (by decide)
    have hm1 : (n.fdiv ((4 : Int) ^ ((i : Int).toNat))).fmod 4 < 4 := Int.fmod_lt_of_pos _ (by decide)
    have hq0 : 0 ≤ ((n.fdiv ((4 : Int) ^ ((i : Int).toNat))).fmod 4).fmod 3 := Int.fmod_nonneg_of_pos _ (by decide)
    have hq1 : ((n.fdiv ((4 : Int) ^ ((i : Int).toNat))).fmod 4).fmod 3 < 3 := Int.fmod_lt_of_pos _ (by decide)
    have hq2 : 0 ≤ ((n.fdiv ((4 : Int) ^ ((i : Int).toNat))).fmod 4).fdiv 2 ∧ ((n.fdiv ((4 : Int) ^ ((i : Int).toNat))).fmod 4).fdiv 2 < 2 := by
      rw [Int.fdiv_eq_ediv_of_nonneg _ (by decide)]; omega
    have hql : (Str.ofString "\"").length = 1 := by decide +kernel
    (try k_fold)
    k_steps
    · obtain ⟨f, hf⟩ : ∃ f : Nat, (n.fdiv ((4 : Int) ^ ((i : Int).toNat))).fmod 4 = (f : Int) := ⟨_, (Int.toNat_of_nonneg hm0).symm⟩
      have h0 := ‹(n.fdiv ((4 : Int) ^ ((i : Int).toNat))).fmod 4 = 0›
      have hf0 : f = 0 := by omega
      rename Fr _ _ _ _ => F4
      rename News _ _ _ _ => N4
      unfold Hold
      refine (says_is_bare w x _ (by omega)).use B' F4 X' T' rfl (by show dp + 1 + 1 < _; omega) (by show un + 3 + 8 * 1 + 100 < _; omega) trivial ?_
      rintro r h7 tk7 F7 K7 rfl
      have N7 := News.lift N4 K7
      clear F4 N4
      cases hb : bareB x with
      | true =>
        (try dsimp only)
        (try k_fold)
        k_steps
        rename Fr _ _ _ _ => F5
        rename News _ _ _ _ => N5
        rw [List.push_toArray, piece_bare hf ⟨hf0, hb⟩] at N5
        refine turn_endU F5 N5 sub_last (hoff3 _ (fun q hq => ?_)) ⟨us ++ [Value.str (S (pieceF x f)) _], c' + 1, fs ++ [f], rfl, by simp; omega, ?_, by simp; omega, ?_, rfl, rfl, trivial⟩
        · rw [List.mem_singleton.mp hq]; exact ⟨_, .head _⟩
        · intro g hg
          rcases List.mem_append.mp hg with h | h
          · exact hf4 g h
          · rw [List.mem_singleton.mp h]; omega
        · rw [zip_snoc hfl hxx]
          exact hus.append (.cons ⟨_, rfl⟩ .nil)
      | false =>
        (try dsimp only)
        (try k_fold)
        k_steps
        rename Fr _ _ _ _ => F5
        rename News _ _ _ _ => N5
        rw [List.push_toArray, piece_quoted hf (by rw [hb]; simp)] at N5
        refine turn_endU F5 N5 sub_last (hoff3 _ (fun q hq => ?_)) ⟨us ++ [Value.str (S (pieceF x f)) _], c' + 1, fs ++ [f], rfl, by simp; omega, ?_, by simp; omega, ?_, rfl, rfl, trivial⟩
        · rw [List.mem_singleton.mp hq]; exact ⟨_, .head _⟩
        · intro g hg
          rcases List.mem_append.mp hg with h | h
          · exact hf4 g h
          · rw [List.mem_singleton.mp h]; omega
        · rw [zip_snoc hfl hxx]
          exact hus.append (.cons ⟨_, rfl⟩ .nil)
    · obtain ⟨f, hf⟩ : ∃ f : Nat, (n.fdiv ((4 : Int) ^ ((i : Int).toNat))).fmod 4 = (f : Int) := ⟨_, (Int.toNat_of_nonneg hm0).symm⟩
      have h0 := ‹(n.fdiv ((4 : Int) ^ ((i : Int).toNat))).fmod 4 ≠ 0›
      have hf0 : f ≠ 0 := by omega
      rename Fr _ _ _ _ => F5
      rename News _ _ _ _ => N5
      rw [List.push_toArray, piece_quoted hf (fun h => hf0 h.1)] at N5
      refine turn_endU F5 N5 sub_last (hoff3 _ (fun q hq => ?_)) ⟨us ++ [Value.str (S (pieceF x f)) _], c' + 1, fs ++ [f], rfl, by simp; omega, ?_, by simp; omega, ?_, rfl, rfl, trivial⟩
      · rw [List.mem_singleton.mp hq]; exact ⟨_, .head _⟩
      · intro g hg
        rcases List.mem_append.mp hg with h | h
        · exact hf4 g h
        · rw [List.mem_singleton.mp h]; omega
      · rw [zip_snoc hfl hxx]
        exact hus.append (.cons ⟨_, rfl⟩ .nil)
  · rintro h7 tk7 m7 _ F7 N7 ⟨us, c', fs, rfl, hfl, hf4, hul, hus, hkn⟩
    have F7 := hkn.fr F7
    (try dsimp only)
    (try k_fold)
    k_steps
    have hvx := hvs.length
    rw [hvx, List.take_length] at hus
    unfold Hold
    refine join_own (PyProof.Rows.News.isList N7 (.head _)) hus (by simp; omega) (fun y hy => Nat.le_trans (pieces_len hx hf4 y hy) (by omega)) ?_
    intro t' k
    (try dsimp only)
    (try k_fold)
    k_steps
    refine LeaveO.intro F7 (fun F9 K9 => hret (.str (S (List.intercalate [44] (List.zipWith pieceF xs fs))) t') _ _ F9 K9 ?_)
    exact ⟨_, ⟨t', rfl⟩, fs, by omega, hf4, rfl⟩

-- part T9
theorem foldl_take_succ {α β : Type} {f : β → α → β} {b : β} {l : List α} {i : Nat} {a : α} (h : l[i]? = some a) : (l.take (i + 1)).foldl f b = f ((l.take i).foldl f b) a := by
  rw [List.take_add_one, h, List.foldl_append]; rfl
theorem sign_beq (c d : Nat) : ((⟨#[c]⟩ : Str) == S [d]) = decide (c = d) := by
  have := S_beq [c] [d]
  simpa using this
theorem cut_q {ps : List (List Nat)} {now : List Nat} {b : Bool} {c : Nat} (h : c = 34) (h2 : b = true ∨ stripL isSp now = []) : cutStep (ps, now, b) c = (ps, now ++ [c], !b) := by
  unfold cutStep; rw [if_pos ⟨h, h2⟩]
theorem cut_c {ps : List (List Nat)} {now : List Nat} {c : Nat} (h : c = 44) : cutStep (ps, now, false) c = (ps ++ [now], [], false) := by
  unfold cutStep; rw [if_neg (by rintro ⟨e, _⟩; omega), if_pos ⟨h, rfl⟩]
theorem cut_o {ps : List (List Nat)} {now : List Nat} {b : Bool} {c : Nat} (h : ¬ (c = 34 ∧ (b = true ∨ stripL isSp now = []))) (h2 : ¬ (c = 44 ∧ b = false)) : cutStep (ps, now, b) c = (ps, now ++ [c], b) := by
  unfold cutStep; rw [if_neg h, if_neg h2]
theorem says_cut (w : World) (l : List Nat) (t : Tok) (hx : l.length ≤ 100) :
    Says w 1 96 [.str (S l) t] (fun _ => True) (fun g h' r => OutStrs (some (cutF l)) g h' r) := by
  unfold Says
  intro mean mg mb dp un gd cn cs a ccd cl outer A₀ base h₀ L m s Q E B F X T hk hd hu hpre hret
  walk_at "ENTER"
  case k9 => exact BindsTo.of_eq (binds := [(Str.ofString "text", .str (S l) t)].reverse) rfl
  case kB => exact locs rfl
  intro g L' h₁ tk₁ hg F' N' B' X' T'
  subst hg
  have hxl : (S l).length ≤ 100 := by rw [S_len]; exact hx
  (try dsimp only)
  (try k_fold)
  k_steps
  rename_i R _ _ _ _ _ _ _ _ _ F3 N3
  have N3 := News.sub N3 (news' := [(R, listOf (([] : List Value).toArray) 0)]) (fun p hp => .tail _ hp)
  unfold Hold
  (try k_fold)
  refine For_turns F3 ?_
  k_steps
  unfold Hold
  have hoff3 := fun nx k => olds_off (news₂ := nx) N3 k [0]
  refine turns_str (by rfl) F3 N3 rfl
    (fun i m nx => ∃ (us : List Value) (c' : Nat) (ps : List (List Nat)) (now : List Nat) (b : Bool) (t1 : Tok), nx = [(R, listOf us.toArray c')] ∧ (l.take i).foldl cutStep ([], [], false) = (ps, now, b) ∧ All2 IsS us ps ∧ us.length ≤ i ∧ now.length ≤ i ∧ Know m [(Str.ofString "pieces", .ref R), (Str.ofString "now", .str (S now) t1), (Str.ofString "is_inside", .bool b)])
    ⟨[], 0, [], [], false, tk₁, rfl, rfl, .nil, Nat.le_refl _, Nat.le_refl _, rfl, rfl, rfl, trivial⟩ ?_ ?_
  · rintro i _ m₁ _ h₂ tk₂ own ⟨c, tc, hc, rfl⟩ ⟨us, c', ps, now, b, t1, rfl, hst, hus, hul, hnl, hkn⟩ hown F₂ N₂
    have hc' : l[i]? = some c := by simpa using hc
    have hil : i < l.length := (List.getElem?_eq_some_iff.mp hc').1
    have hstep := foldl_take_succ (f := cutStep) (b := (([] : List (List Nat)), ([] : List Nat), false)) hc'
    rw [hst] at hstep
    have hR0 := (N3 _ (.head _)).1
    have hoR : ∀ p ∈ own, p.1 ≠ R := fun p hp e => by
      have e1 := hown p hp
      rw [e] at e1; exact absurd (e1.symm.trans hR0) (by simp)
    have N₂ := News.sub N₂ sub_first
    have F₂ := hkn.fr F₂
    have hnz : (S now).length ≤ 100 := by rw [S_len]; omega
    have hcz : (S [c]).length ≤ 1 := by rw [S_len]; simp
    have huz : us.length ≤ 100 := by omega
    have e34 : ((⟨#[c]⟩ : Str) == Str.ofString "\"") = decide (c = 34) := by rw [lit_quote]; exact sign_beq c 34
    have e44 : ((⟨#[c]⟩ : Str) == Str.ofString ",") = decide (c = 44) := by rw [lit_comma]; exact sign_beq c 44
    have est : (Txt.stripChars (S now) (Str.ofString " ") == Str.ofString "") = decide (stripL isSp now = []) := by
      rw [lit_sp, strip_S, show Str.ofString "" = S [] by decide +kernel, S_beq]; rfl
    have eap : S now ++ (⟨#[c]⟩ : Str) = S (now ++ [c]) := S_app now [c]
    have hmem : ∀ (o : Obj), ∀ q ∈ [(R, o)], ∃ o', (q.1, o') ∈ [(R, listOf (([] : List Value).toArray) 0)] := fun o q hq => by
      rw [List.mem_singleton.mp hq]; exact ⟨_, .head _⟩
    cases b with
    | true =>
      (try k_fold)
      k_steps
      · have a34 := ‹((⟨#[c]⟩ : Str) == Str.ofString "\"") = true›
        rw [e34, decide_eq_true_eq] at a34
        rename Fr _ _ _ _ => F5
        rename News _ _ _ _ => N5
        rw [eap] at F5
        exact turn_endU F5 N5 sub_last (hoff3 _ (hmem _)) ⟨us, c', ps, now ++ [c], false, _, rfl, hstep.trans (cut_q a34 (.inl rfl)), hus, by omega, by simp; omega, rfl, rfl, rfl, trivial⟩
      · have a34 := ‹((⟨#[c]⟩ : Str) == Str.ofString "\"") = false›
        rw [e34, decide_eq_false_iff_not] at a34
        rename Fr _ _ _ _ => F5
        rename News _ _ _ _ => N5
        rw [eap] at F5
        exact turn_endU F5 N5 sub_last (hoff3 _ (hmem _)) ⟨us, c', ps, now ++ [c], true, _, rfl, hstep.trans (cut_o (fun h => a34 h.1) (fun h => Bool.noConfusion h.2)), hus, by omega, by simp; omega, rfl, rfl, rfl, trivial⟩
      · have a34 := ‹((⟨#[c]⟩ : Str) == Str.ofString "\"") = false›
        rw [e34, decide_eq_false_iff_not] at a34
        rename Fr _ _ _ _ => F5
        rename News _ _ _ _ => N5
        rw [eap] at F5
        exact turn_endU F5 N5 sub_last (hoff3 _ (hmem _)) ⟨us, c', ps, now ++ [c], true, _, rfl, hstep.trans (cut_o (fun h => a34 h.1) (fun h => Bool.noConfusion h.2)), hus, by omega, by simp; omega, rfl, rfl, rfl, trivial⟩
    | false =>
      (try k_fold)
      k_steps
      · have a34 := ‹((⟨#[c]⟩ : Str) == Str.ofString "\"") = true›
        rw [e34, decide_eq_true_eq] at a34
        have ast := ‹(Txt.stripChars (S now) (Str.ofString " ") == Str.ofString "") = true›
        rw [est, decide_eq_true_eq] at ast
        rename Fr _ _ _ _ => F5
        rename News _ _ _ _ => N5
        rw [eap] at F5
        exact turn_endU F5 N5 sub_last (hoff3 _ (hmem _)) ⟨us, c', ps, now ++ [c], true, _, rfl, hstep.trans (cut_q a34 (.inr ast)), hus, by omega, by simp; omega, rfl, rfl, rfl, trivial⟩
      · have a34 := ‹((⟨#[c]⟩ : Str) == Str.ofString "\"") = true›
        rw [e34, decide_eq_true_eq] at a34
        have a44 := ‹((⟨#[c]⟩ : Str) == Str.ofString ",") = true›
        rw [e44, decide_eq_true_eq] at a44
        omega
      · have a34 := ‹((⟨#[c]⟩ : Str) == Str.ofString "\"") = true›
        rw [e34, decide_eq_true_eq] at a34
        have ast := ‹(Txt.stripChars (S now) (Str.ofString " ") == Str.ofString "") = false›
        rw [est, decide_eq_false_iff_not] at ast
        have a44 := ‹((⟨#[c]⟩ : Str) == Str.ofString ",") = false›
        rw [e44, decide_eq_false_iff_not] at a44
        rename Fr _ _ _ _ => F5
        rename News _ _ _ _ => N5
        rw [eap] at F5
        exact turn_endU F5 N5 sub_last (hoff3 _ (hmem _)) ⟨us, c', ps, now ++ [c], false, _, rfl, hstep.trans (cut_o (fun h => h.2.elim (fun e => Bool.noConfusion e) ast) (fun h => a44 h.1)), hus, by omega, by simp; omega, rfl, rfl, rfl, trivial⟩
      · have a44 := ‹((⟨#[c]⟩ : Str) == Str.ofString ",") = true›
        rw [e44, decide_eq_true_eq] at a44
        rename News _ _ _ _ => N5
        rw [List.push_toArray] at N5
        rename Fr _ _ _ _ => F5
        rename News _ _ _ _ => N5
        exact turn_endU F5 N5 sub_last (hoff3 _ (hmem _)) ⟨us ++ [Value.str (S now) t1], c' + 1, ps ++ [now], [], false, _, rfl, hstep.trans (cut_c a44), hus.append (.cons ⟨_, rfl⟩ .nil), by simp; omega, by simp, rfl, rfl, rfl, trivial⟩
      · have a34 := ‹((⟨#[c]⟩ : Str) == Str.ofString "\"") = false›
        rw [e34, decide_eq_false_iff_not] at a34
        have a44 := ‹((⟨#[c]⟩ : Str) == Str.ofString ",") = false›
        rw [e44, decide_eq_false_iff_not] at a44
        rename Fr _ _ _ _ => F5
        rename News _ _ _ _ => N5
        rw [eap] at F5
        exact turn_endU F5 N5 sub_last (hoff3 _ (hmem _)) ⟨us, c', ps, now ++ [c], false, _, rfl, hstep.trans (cut_o (fun h => a34 h.1) (fun h => a44 h.1)), hus, by omega, by simp; omega, rfl, rfl, rfl, trivial⟩
  · rintro h7 tk7 m7 _ F7 N7 ⟨us, c', ps, now, b, t1, rfl, hst, hus, hul, hnl, hkn⟩
    have F7 := hkn.fr F7
    (try dsimp only)
    (try k_fold)
    k_steps
    rename Fr _ _ _ _ => F9
    rename News _ _ _ _ => N9
    refine LeaveO.intro F9 (fun F K9 => hret (.ref _) _ _ F K9 ?_)
    have hcut : cutF l = ps ++ [now] := by
      have e : (S l).cps.size = l.length := by simp
      rw [e, List.take_length] at hst
      unfold cutF
      rw [hst]
    rw [hcut]
    refine ⟨_, us ++ [Value.str (S now) t1], 0, rfl, FreshAll.of_news (News.sub N9 fun p hp => ?_), hus.append (.cons ⟨_, rfl⟩ .nil)⟩
    rw [List.mem_singleton.mp hp]; exact .head _

-- part T10
theorem stripL_len (p : Nat → Bool) (l : List Nat) : (stripL p l).length ≤ l.length := by
  unfold stripL
  rw [rstripL_take, List.length_take]
  have := takeWhile_length_add p l
  omega
theorem stripL_sub {p : Nat → Bool} {l : List Nat} {c : Nat} (h : c ∈ stripL p l) : c ∈ l := by
  unfold stripL rstripL at h
  rw [List.mem_reverse] at h
  have h2 := (List.dropWhile_sublist _).subset h
  rw [List.mem_reverse] at h2
  exact (List.dropWhile_sublist _).subset h2
theorem cutStep_len {st : List (List Nat) × List Nat × Bool} {c n : Nat} (h1 : ∀ p ∈ st.1, p.length ≤ n) (h2 : st.2.1.length ≤ n) : (∀ p ∈ (cutStep st c).1, p.length ≤ n + 1) ∧ (cutStep st c).2.1.length ≤ n + 1 := by
  unfold cutStep
  split
  · exact ⟨fun p hp => Nat.le_succ_of_le (h1 p hp), by simp; omega⟩
  · split
    · refine ⟨fun p hp => ?_, by simp⟩
      rcases List.mem_append.mp hp with hp | hp
      · exact Nat.le_succ_of_le (h1 p hp)
      · rw [List.mem_singleton.mp hp]; omega
    · exact ⟨fun p hp => Nat.le_succ_of_le (h1 p hp), by simp; omega⟩
theorem cutFold_len : ∀ (l : List Nat) (st : List (List Nat) × List Nat × Bool) (n : Nat), (∀ p ∈ st.1, p.length ≤ n) → st.2.1.length ≤ n → (∀ p ∈ (l.foldl cutStep st).1, p.length ≤ n + l.length) ∧ (l.foldl cutStep st).2.1.length ≤ n + l.length
  | [], _, _, h1, h2 => ⟨h1, h2⟩
  | c :: r, st, n, h1, h2 => by
    obtain ⟨a, b⟩ := cutStep_len (c := c) h1 h2
    have := cutFold_len r (cutStep st c) (n + 1) a b
    rw [List.foldl_cons, List.length_cons]
    rw [show n + (r.length + 1) = n + 1 + r.length by omega]
    exact this
theorem cutFold_num : ∀ (l : List Nat) (st : List (List Nat) × List Nat × Bool), (l.foldl cutStep st).1.length ≤ st.1.length + l.length
  | [], _ => Nat.le_refl _
  | c :: r, st => by
    have := cutFold_num r (cutStep st c)
    have h : (cutStep st c).1.length ≤ st.1.length + 1 := by unfold cutStep; split <;> (try split) <;> simp
    rw [List.foldl_cons, List.length_cons]
    omega
theorem cutF_len {l : List Nat} : ∀ p ∈ cutF l, p.length ≤ l.length := by
  obtain ⟨a, b⟩ := cutFold_len l ([], [], false) 0 (fun _ h => nomatch h) (Nat.le_refl _)
  intro p hp
  unfold cutF at hp
  rcases List.mem_append.mp hp with hp | hp
  · have := a p hp; omega
  · rw [List.mem_singleton.mp hp]; omega
theorem cutF_num (l : List Nat) : (cutF l).length ≤ l.length + 1 := by
  have := cutFold_num l ([], [], false)
  unfold cutF
  rw [List.length_append]
  simp at this ⊢
  exact this
theorem mapM_snoc {ps : List (List Nat)} {ds : List (List Nat)} {i : Nat} {p d : List Nat} (h : (ps.take i).mapM dueP = some ds) (hp : ps[i]? = some p) (hd : dueP p = some d) : (ps.take (i + 1)).mapM dueP = some (ds ++ [d]) := by
  rw [List.take_add_one, hp, List.mapM_append, h]
  simp [hd]
theorem mapM_none {ps : List (List Nat)} {ds : List (List Nat)} {i : Nat} {p : List Nat} (h : (ps.take i).mapM dueP = some ds) (hp : ps[i]? = some p) (hd : dueP p = none) : ps.mapM dueP = none := by
  have hi : i < ps.length := (List.getElem?_eq_some_iff.mp hp).1
  have e : ps = ps.take i ++ p :: ps.drop (i + 1) := by
    have h2 : ps.drop i = p :: ps.drop (i + 1) := by
      rw [drop_cons_get' hi]
      rw [List.getElem?_eq_getElem hi] at hp
      rw [Option.some.inj hp]
    rw [← h2, List.take_append_drop]
  rw [e, List.mapM_append, h]
  simp [hd]
where drop_cons_get' {ps : List (List Nat)} {i : Nat} (h : i < ps.length) : ps.drop i = ps[i] :: ps.drop (i + 1) := List.drop_eq_getElem_cons h
theorem says_due (w : World) (l : List Nat) (t : Tok) (hx : l.length ≤ 50) :
    Says w 2 103 [.str (S l) t] (fun _ => True) (fun g h' r => OutStrs (dueF l) g h' r) := by
  unfold Says
  intro mean mg mb dp un gd cn cs a ccd cl outer A₀ base h₀ L m s Q E B F X T hk hd hu hpre hret
  walk_at "ENTER"
  case k9 => exact BindsTo.of_eq (binds := [(Str.ofString "text", .str (S l) t)].reverse) rfl
  case kB => exact locs rfl
  intro g L' h₁ tk₁ hg F' N' B' X' T'
  subst hg
  have hxl : (S l).length ≤ 50 := by rw [S_len]; exact hx
  (try dsimp only)
  (try k_fold)
  k_steps
  rename_i R _ _ _ F3 N3
  unfold Hold
  (try k_fold)
  refine For_turns F3 ?_
  k_steps
  unfold Hold
  refine (says_cut w l _ (by omega)).use B' F3 X' T' rfl (by show dp + 1 + 1 < _; omega) (by show un + 3 + 8 * 1 + 100 < _; omega) trivial ?_
  rintro r h6 tk6 F6 K6 ⟨D, vs, c, rfl, hfr, hvs⟩
  have hRD : D ≠ R := by
    rintro rfl
    have := (hfr _ (.head _)).2
    rw [(N3 _ (.head _)).1] at this; cases this
  have N6 := News.freshes F3 (News.lift N3 K6) hfr
  have N6 := News.sub N6 (news' := [(R, listOf (([] : List Value).toArray) 0), (D, listOf vs.toArray c)]) (fun p hp => by
    rcases List.mem_cons.mp hp with rfl | hp
    · exact .tail _ (.head _)
    · rw [List.mem_singleton.mp hp]; exact .head _)
  have hvl := hvs.length
  have hnum := cutF_num l
  have hoff3 := fun nx k => olds_off (news₂ := nx) N6 k [0]
  refine turns_list (vs := vs) (by rfl) (PyProof.Rows.News.isList N6 (.tail _ (.head _))) ((N6 _ (.tail _ (.head _))).2.1) F6 N6
    (fun i m nx => ∃ (us : List Value) (c' : Nat) (ds : List (List Nat)), nx = [(R, listOf us.toArray c'), (D, listOf vs.toArray c)] ∧ ((cutF l).take i).mapM dueP = some ds ∧ All2 IsS us ds ∧ us.length ≤ i ∧ Know m [(Str.ofString "found", .ref R)])
    ?_ ?_ ?_
  · exact ⟨[], 0, [], rfl, rfl, .nil, Nat.le_refl _, rfl, trivial⟩
  · rintro i v m₁ _ h₂ tk₂ own hv ⟨us, c', ds, rfl, hds, hus, hul, hkn⟩ hown F₂ N₂
    obtain ⟨p, hp, tp, rfl⟩ := hvs.get hv
    have hpl := cutF_len p (List.mem_of_getElem? hp)
    have hil : i < vs.length := (List.getElem?_eq_some_iff.mp hv).1
    have hR0 := (N6 _ (.head _)).1
    have hoR : ∀ q ∈ own, q.1 ≠ R := fun q hq e => by
      rcases hown q hq with e1 | e1
      · exact hRD (e1 ▸ e)
      · rw [e] at e1; exact absurd (e1.symm.trans hR0) (by simp)
    have N₂ := News.sub N₂ sub_first2
    have hmem : ∀ (o : Obj), ∀ q ∈ [(R, o), (D, listOf vs.toArray c)], ∃ o', (q.1, o') ∈ [(R, listOf (([] : List Value).toArray) 0), (D, listOf vs.toArray c)] := fun o q hq => by
      rcases List.mem_cons.mp hq with rfl | hq
      · exact ⟨_, .head _⟩
      · rw [List.mem_singleton.mp hq]; exact ⟨_, .tail _ (.head _)⟩
    have F₂ := hkn.fr F₂
    have hpz : (S p).length ≤ 50 := by rw [S_len]; omega
    have hbl := stripL_len isSp p
    have ebare : Txt.stripChars (S p) (Str.ofString " ") = S (stripL isSp p) := by rw [lit_sp, strip_S]; rfl
    have ebare1 : Txt.slice (Txt.stripChars (S p) (Str.ofString " ")) none (some 1) = S ((stripL isSp p).take 1) := by rw [ebare]; exact slice_to _ 1 _ rfl
    have ebare2 : Txt.slice (Txt.stripChars (S p) (Str.ofString " ")) (some 1) none = S ((stripL isSp p).drop 1) := by rw [ebare]; exact slice_from _ 1 _ rfl
    have hbz : (Txt.stripChars (S p) (Str.ofString " ")).length ≤ 50 := by rw [ebare, S_len]; omega
    have huz : us.length ≤ 100 := by omega
    (try k_fold)
    k_steps
    · have a1 := ‹(Txt.slice _ none (some 1) != _) = true›
      rw [ebare1, lit_quote, bne, S_beq, Bool.not_eq_true', decide_eq_false_iff_not] at a1
      have hdue : dueP p = some (stripL isSp p) := by unfold dueP; rw [if_pos a1]
      rename Fr _ _ _ _ => F5
      rename News _ _ _ _ => N5
      rw [List.push_toArray, ebare] at N5
      exact turn_endU F5 N5 sub_last2 (hoff3 _ (hmem _)) ⟨us ++ [Value.str (S (stripL isSp p)) _], c' + 1, ds ++ [stripL isSp p], rfl, mapM_snoc hds hp hdue, hus.append (.cons ⟨_, rfl⟩ .nil), by simp; omega, rfl, trivial⟩
    · have a1 := ‹(Txt.slice _ none (some 1) != _) = false›
      rw [ebare1, lit_quote, bne, S_beq, Bool.not_eq_false', decide_eq_true_eq] at a1
      have a2 := ‹(Builtin.Str.occurrences _ _ 0 _ 1).isEmpty = true›
      rw [ebare2, lit_quote, noOcc_S, Bool.not_eq_true', decide_eq_false_iff_not] at a2
      have hqp : 34 ∈ p := stripL_sub (List.mem_of_mem_take (a1 ▸ List.mem_singleton.mpr rfl))
      have hdue : dueP p = some (p.drop (idxFrom p 34 0 + 1)) := by unfold dueP; rw [if_neg (fun h => h a1), if_pos a2]
      rename Fr _ _ _ _ => F4
      rename News _ _ _ _ => N4
      unfold Hold
      rw [lit_quote]
      refine index_own hqp ?_
      (try dsimp only)
      (try k_fold)
      k_steps
      rename Fr _ _ _ _ => F5
      rename News _ _ _ _ => N5
      rw [List.push_toArray, slice_from p (idxFrom p 34 0 + 1) _ (by omega)] at N5
      exact turn_endU F5 N5 sub_last2 (hoff3 _ (hmem _)) ⟨us ++ [Value.str (S (p.drop (idxFrom p 34 0 + 1))) _], c' + 1, ds ++ [p.drop (idxFrom p 34 0 + 1)], rfl, mapM_snoc hds hp hdue, hus.append (.cons ⟨_, rfl⟩ .nil), by simp; omega, rfl, trivial⟩
    · have a1 := ‹(Txt.slice _ none (some 1) != _) = false›
      rw [ebare1, lit_quote, bne, S_beq, Bool.not_eq_false', decide_eq_true_eq] at a1
      have a2 := ‹(Builtin.Str.occurrences _ _ 0 _ 1).isEmpty = false›
      rw [ebare2, lit_quote, noOcc_S, Bool.not_eq_false', decide_eq_true_eq] at a2
      unfold Hold
      rw [lit_quote, ebare]
      refine index_own3 rfl a2 ?_
      (try dsimp only)
      (try k_fold)
      k_steps
      · have a3 := ‹(idxFrom (stripL isSp p) 34 1 : Int) ≠ _›
        have hb0 : 0 < (stripL isSp p).length := by
          rcases Nat.eq_zero_or_pos (stripL isSp p).length with h | h
          · rw [List.length_eq_zero_iff.mp h] at a1; simp at a1
          · exact h
        rw [ebare, S_len] at a3
        have hdue : dueP p = none := by unfold dueP; rw [if_neg (fun h => h a1), if_neg (fun h => h a2), if_pos (by omega)]
        rename Fr _ _ _ _ => F5
        dsimp only [LoopStepV]
        refine LeaveO.intro F5 (fun F K9 => hret .none _ _ F K9 ?_)
        have hd : dueF l = none := mapM_none hds hp hdue
        rw [hd]; rfl
      · have a3 := ‹(idxFrom (stripL isSp p) 34 1 : Int) = _›
        have hb0 : 0 < (stripL isSp p).length := by
          rcases Nat.eq_zero_or_pos (stripL isSp p).length with h | h
          · rw [List.length_eq_zero_iff.mp h] at a1; simp at a1
          · exact h
        rw [ebare, S_len] at a3
        have hdue : dueP p = some (((stripL isSp p).take ((stripL isSp p).length - 1)).drop 1) := by unfold dueP; rw [if_neg (fun h => h a1), if_neg (fun h => h a2), if_neg (by omega)]
        rename Fr _ _ _ _ => F5
        rename News _ _ _ _ => N5
        rw [List.push_toArray, ebare, slice_mid (stripL isSp p) 1 ((stripL isSp p).length - 1) 1 (((S (stripL isSp p)).length : Int) - 1) rfl (by rw [S_len]; omega)] at N5
        exact turn_endU F5 N5 sub_last2 (hoff3 _ (hmem _)) ⟨us ++ [Value.str (S (((stripL isSp p).take ((stripL isSp p).length - 1)).drop 1)) _], c' + 1, ds ++ [((stripL isSp p).take ((stripL isSp p).length - 1)).drop 1], rfl, mapM_snoc hds hp hdue, hus.append (.cons ⟨_, rfl⟩ .nil), by simp; omega, rfl, trivial⟩
  · rintro h7 tk7 m7 _ F7 N7 ⟨us, c', ds, rfl, hds, hus, hul, hkn⟩
    have F7 := hkn.fr F7
    (try dsimp only)
    (try k_fold)
    k_steps
    refine LeaveO.intro F7 (fun F K9 => hret (.ref R) _ _ F K9 ?_)
    have hd : dueF l = some ds := by
      rw [hvl, List.take_length] at hds
      exact hds
    rw [hd]
    refine ⟨R, us, c', rfl, FreshAll.of_news (News.sub N7 fun p hp => ?_), hus⟩
    rw [List.mem_singleton.mp hp]; exact .head _

-- part T11
def Mark2 : Prop := True
theorem holdIf {P : Prop} (_ : Mark2) (h : Hold P) : P := h
def datS (x : List Nat) : Dat := .str (S x)
theorem datS_inj : ∀ {xs ys : List (List Nat)}, xs.map datS = ys.map datS ↔ xs = ys
  | [], [] => by simp
  | [], _ :: _ => by simp
  | _ :: _, [] => by simp
  | x :: xs, y :: ys => by
    rw [List.map_cons, List.map_cons, List.cons.injEq, List.cons.injEq, datS_inj (xs := xs) (ys := ys)]
    constructor
    · rintro ⟨h1, h2⟩; exact ⟨S_inj (by injection h1), h2⟩
    · rintro ⟨h1, h2⟩; exact ⟨by rw [h1], h2⟩
theorem dat_all : ∀ {vs : List Value} {xs : List (List Nat)}, All2 IsS vs xs → DatAll [] vs (xs.map datS)
  | _, _, .nil => .nil
  | _, _, .cons ⟨t, e⟩ r => by subst e; exact .cons (.str _ _) (dat_all r)
theorem dat_ok {xs : List (List Nat)} (h : ∀ x ∈ xs, ∀ c ∈ x, c < 1114112) : ∀ d ∈ xs.map datS, kqdOk 8 d = true := by
  intro d hd
  obtain ⟨x, hx, rfl⟩ := List.mem_map.mp hd
  show PyData.strOk (S x) = true
  unfold PyData.strOk
  rw [← Array.all_toList]
  exact List.all_eq_true.mpr fun c hc => decide_eq_true (h x hx c (by simpa using hc))
open Classical in
theorem ne_texts {prog : Program} {w : World} {A : Around} {E : Value → Shared → Prop} {s : Shared} {h₀ : Heap} {L a b : Addr} {news : List (Addr × Obj)} {vs ws : List Value} {ka kb : Nat} {xs ys : List (List Nat)} {Q : Value → Shared → Prop}
    (N : News h₀ L s.heap news) (ma : (a, listOf vs.toArray ka) ∈ news) (mb : (b, listOf ws.toArray kb) ∈ news) (ha : All2 IsS vs xs) (hb : All2 IsS ws ys) (ca : ∀ x ∈ xs, ∀ c ∈ x, c < 1114112) (cb : ∀ x ∈ ys, ∀ c ∈ x, c < 1114112)
    (hu : A.units + 64 < cLine) (h : ∀ b, (b = true ↔ xs ≠ ys) → Q (.bool b) s) : wpAny (model prog w) A (compareOp .NotEq (.ref a) (.ref b)) Q E s := by
  refine kqd_ne N ma rfl rfl (dat_all ha) (fun _ h => nomatch h) mb rfl rfl (dat_all hb) (fun _ h => nomatch h) (dat_ok ca) (dat_ok cb) hu ?_
  refine h _ ?_
  rw [Bool.not_eq_true', decide_eq_false_iff_not, datS_inj]
theorem signsT_ok {c : Nat} (h : c ∈ signsT) : c < 1114112 ∧ c ≠ 34 ∧ c ≠ 9 := by
  revert c; decide
theorem signsR_ok {c : Nat} (h : c ∈ signsR) : c < 1114112 ∧ c ≠ 9 := by
  revert c; decide
theorem written_len {b : Nat} : ∀ {xs : List (List Nat)} {fs : List Nat}, (∀ x ∈ xs, x.length ≤ b) → (∀ f ∈ fs, f < 4) → (List.intercalate [44] (List.zipWith pieceF xs fs)).length ≤ xs.length * (b + 11)
  | [], _, _, _ => by simp [List.intercalate]
  | x :: xs, [], _, _ => by simp [List.intercalate]
  | [x], f :: fs, hx, hf => by
    have e : List.intercalate [44] (List.zipWith pieceF [x] (f :: fs)) = pieceF x f := by simp [List.intercalate]
    have h1 := hx x (.head _)
    have h2 := pieceF_len x f (hf f (.head _))
    rw [e]; simp only [List.length_cons, List.length_nil]; omega
  | x :: x' :: xs, [f], hx, hf => by
    have e : List.intercalate [44] (List.zipWith pieceF (x :: x' :: xs) [f]) = pieceF x f := by simp [List.intercalate]
    have h1 := hx x (.head _)
    have h2 := pieceF_len x f (hf f (.head _))
    rw [e]; simp only [List.length_cons, Nat.add_mul]; omega
  | x :: x' :: xs, f :: f' :: fs, hx, hf => by
    have e : List.intercalate [44] (List.zipWith pieceF (x :: x' :: xs) (f :: f' :: fs)) = pieceF x f ++ 44 :: List.intercalate [44] (List.zipWith pieceF (x' :: xs) (f' :: fs)) := by simp [List.intercalate]
    have h1 := hx x (.head _)
    have h2 := pieceF_len x f (hf f (.head _))
    have ih := written_len (xs := x' :: xs) (fs := f' :: fs) (fun z hz => hx z (.tail _ hz)) (fun g hg => hf g (.tail _ hg))
    rw [e, List.length_append, List.length_cons]
    simp only [List.length_cons, Nat.add_mul] at ih ⊢
    omega
theorem isWritten_len {xs : List (List Nat)} {y : List Nat} (h : IsWritten xs y) (hn : xs.length ≤ 20) (hx : ∀ x ∈ xs, x.length ≤ 20) : y.length ≤ 1000 := by
  obtain ⟨fs, _, hf, rfl⟩ := h
  have := written_len hx hf
  omega
theorem mul_text {prog : Program} {w : World} {A : Around} {E : Value → Shared → Prop} {s : Shared} {h₀ : Heap} {L : Addr} {m : Str → Option Value} {news : List (Addr × Obj)} {l : Addr} {v : Value} {n c : Nat} {x : Int} {u : Tok} {Q : Value → Shared → Prop}
    (Fm : Fr h₀ L s.heap m) (N : News h₀ L s.heap news) (hm : (l, listOf #[v] c) ∈ news) (hx : x = (n : Int)) (hn : n ≤ 100)
    (h : ∀ D h', Fr h₀ L h' m → News h₀ L h' ((D, listOf (List.replicate n v).toArray 0) :: news) → Q (.ref D) { s with heap := h' }) : wpAny (model prog w) A (binaryOp .Mult (.ref l) (.int x u)) Q E s := by
  subst hx
  refine KMa.mul (vs := [v]) Fm N (PyProof.Rows.News.isList N (by simpa using hm)) (by omega) (by omega) (by rw [Int.toNat_natCast, List.length_singleton]; omega) (ws := List.replicate n v) (by rw [Int.toNat_natCast]; exact List.flatten_replicate_singleton) ?_
  intro D h' F' N' _
  exact h D h' F' N'
theorem all_rep {n : Nat} {v : Value} {P : Value → Prop} (h : P v) : ∀ u ∈ List.replicate n v, P u := fun u hu => by rw [List.eq_of_mem_replicate hu]; exact h

-- part PL
/-! the plain law -/
theorem dropWhile_mid (p : Nat → Bool) (b r : List Nat) (hb : ∀ c ∈ b, p c = true) : (b ++ r).dropWhile p = r.dropWhile p := by
  induction b with
  | nil => rfl
  | cons a t ih =>
    rw [List.cons_append, List.dropWhile_cons, if_pos (hb a (.head _))]
    exact ih (fun c hc => hb c (.tail _ hc))
theorem dropWhile_front (p : Nat → Bool) (x : List Nat) (c : Nat) (a : List Nat) (hc : p c = false) : (x ++ c :: a).dropWhile p = x.dropWhile p ++ c :: a := by
  induction x with
  | nil => rw [List.nil_append, List.dropWhile_cons, hc]; rfl
  | cons d t ih =>
    rw [List.cons_append, List.dropWhile_cons, List.dropWhile_cons]
    split
    · exact ih
    · rfl
theorem rstripL_mid (p : Nat → Bool) (a : List Nat) (c : Nat) (x : List Nat) (hc : p c = false) : rstripL p (a ++ c :: x) = a ++ c :: rstripL p x := by
  unfold rstripL
  rw [List.reverse_append, List.reverse_cons, List.append_assoc, List.singleton_append, dropWhile_front p _ _ _ hc]
  simp
theorem dropWhile_all {p : Nat → Bool} {b : List Nat} (hb : ∀ c ∈ b, p c = true) : b.dropWhile p = [] := by
  have := dropWhile_mid p b [] hb
  rw [List.append_nil] at this; exact this
theorem rstripL_all {p : Nat → Bool} {b : List Nat} (hb : ∀ c ∈ b, p c = true) : rstripL p b = [] := by
  unfold rstripL
  rw [dropWhile_all (fun c hc => hb c (List.mem_reverse.mp hc))]; rfl
theorem rstripL_nil {p : Nat → Bool} : ∀ {b : List Nat}, rstripL p b = [] → ∀ c ∈ b, p c = true
  | b, h, c, hc => by
    unfold rstripL at h
    have h2 : b.reverse.dropWhile p = [] := by rw [← List.reverse_reverse (b.reverse.dropWhile p), h]; rfl
    have h3 := List.takeWhile_append_dropWhile (p := p) (l := b.reverse)
    rw [h2, List.append_nil] at h3
    have h4 : c ∈ b.reverse.takeWhile p := by rw [h3]; exact List.mem_reverse.mpr hc
    exact List.all_eq_true.mp List.all_takeWhile c h4
theorem isSp34 : isSp 34 = false := rfl
theorem isSp44 : isSp 44 = false := rfl
theorem isSp_iff {c : Nat} : isSp c = true ↔ c = 32 := by
  unfold isSp; simp
theorem stripL_pre {b r : List Nat} {c : Nat} (hb : ∀ c ∈ b, isSp c = true) (hc : isSp c = false) : stripL isSp (b ++ c :: r) = c :: rstripL isSp r := by
  unfold stripL
  rw [dropWhile_mid _ _ _ hb, List.dropWhile_cons, hc]
  exact rstripL_mid isSp [] c r hc
theorem stripL_all {b : List Nat} (hb : ∀ c ∈ b, isSp c = true) : stripL isSp b = [] := by
  unfold stripL; rw [dropWhile_all hb]; rfl
theorem idxFrom_cons {a : List Nat} {r : List Nat} {c : Nat} (h : c ∉ a) : idxFrom (a ++ c :: r) c 0 = a.length := by
  unfold idxFrom
  rw [List.drop_zero, Nat.zero_add]
  induction a with
  | nil => simp
  | cons d t ih =>
    have hd : d ≠ c := fun e => h (e ▸ .head _)
    rw [List.cons_append, List.takeWhile_cons, if_pos (by simpa using hd), List.length_cons, List.length_cons, ih (fun hh => h (.tail _ hh))]
theorem notsp_of_mem {b : List Nat} {c : Nat} (hb : ∀ c ∈ b, isSp c = true) (hc : isSp c = false) : c ∉ b := fun h => by rw [hb c h] at hc; cases hc
theorem dueP_blank {b : List Nat} (hb : ∀ c ∈ b, isSp c = true) : dueP b = some [] := by
  unfold dueP
  rw [stripL_all hb, if_pos (by simp)]
theorem dueP_bare {b r : List Nat} {c : Nat} (hb : ∀ c ∈ b, isSp c = true) (hc : isSp c = false) (h34 : c ≠ 34) : dueP (b ++ c :: r) = some (c :: rstripL isSp r) := by
  unfold dueP
  rw [stripL_pre hb hc, if_pos (by simpa using h34)]
theorem rstripL_sub {p : Nat → Bool} {l : List Nat} {c : Nat} (h : c ∈ rstripL p l) : c ∈ l := by
  unfold rstripL at h
  rw [List.mem_reverse] at h
  exact List.mem_reverse.mp ((List.dropWhile_sublist _).subset h)
theorem dueP_open {b r : List Nat} (hb : ∀ c ∈ b, isSp c = true) (hr : 34 ∉ r) : dueP (b ++ 34 :: r) = some r := by
  unfold dueP
  rw [stripL_pre hb isSp34, if_neg (by simp), if_pos (by simpa using fun h => hr (rstripL_sub h)), idxFrom_cons (notsp_of_mem hb isSp34)]
  congr 1
  rw [List.drop_append, List.drop_of_length_le (by omega)]
  simp
theorem dueP_closed {b q x : List Nat} (hb : ∀ c ∈ b, isSp c = true) (hq : 34 ∉ q) : dueP (b ++ 34 :: (q ++ 34 :: x)) = if rstripL isSp x = [] then some q else none := by
  unfold dueP
  rw [stripL_pre hb isSp34, rstripL_mid isSp q 34 x isSp34, if_neg (by simp), if_neg (by simp)]
  have e : idxFrom (34 :: (q ++ 34 :: rstripL isSp x)) 34 1 = 1 + q.length := by
    have := idxFrom_cons (r := rstripL isSp x) hq
    unfold idxFrom at this ⊢
    rw [List.drop_zero, Nat.zero_add] at this
    rw [List.drop_succ_cons, List.drop_zero, this]
  rw [e]
  cases hx : rstripL isSp x with
  | nil =>
    rw [if_neg (by simp; omega), if_pos rfl]
    simp
  | cons d t =>
    rw [if_pos (by simp; omega), if_neg (by simp)]
/-- the cut, on what is left -/
noncomputable def cutG (now : List Nat) (b : Bool) : List Nat → List (List Nat)
  | [] => [now]
  | c :: r => if c = 34 ∧ (b = true ∨ stripL isSp now = []) then cutG (now ++ [c]) (!b) r
    else if c = 44 ∧ b = false then now :: cutG [] b r else cutG (now ++ [c]) b r
theorem cutFold_G : ∀ (l : List Nat) (acc : List (List Nat)) (now : List Nat) (b : Bool), (l.foldl cutStep (acc, now, b)).1 ++ [(l.foldl cutStep (acc, now, b)).2.1] = acc ++ cutG now b l
  | [], _, _, _ => rfl
  | c :: r, acc, now, b => by
    rw [List.foldl_cons]
    have e : cutStep (acc, now, b) c = if c = 34 ∧ (b = true ∨ stripL isSp now = []) then (acc, now ++ [c], !b) else if c = 44 ∧ b = false then (acc ++ [now], [], b) else (acc, now ++ [c], b) := rfl
    rw [e]
    unfold cutG
    split
    · exact cutFold_G r _ _ _
    · split
      · rw [cutFold_G r]; simp
      · exact cutFold_G r _ _ _
theorem cutF_G (l : List Nat) : cutF l = cutG [] false l := by
  have := cutFold_G l [] [] false
  simpa [cutF] using this
theorem cutG_in1 : ∀ (r now : List Nat), 34 ∉ r → cutG now true r = [now ++ r]
  | [], now, _ => by simp [cutG]
  | c :: r, now, h => by
    have hc : c ≠ 34 := fun e => h (e ▸ .head _)
    unfold cutG
    rw [if_neg (fun h => hc h.1), if_neg (by simp), cutG_in1 r _ (fun hh => h (.tail _ hh))]
    simp
theorem cutG_in2 : ∀ (q now r : List Nat), 34 ∉ q → cutG now true (q ++ 34 :: r) = cutG (now ++ q ++ [34]) false r
  | [], now, r, _ => by
    rw [List.nil_append]
    conv => lhs; unfold cutG
    rw [if_pos ⟨rfl, .inl rfl⟩]; simp
  | c :: q, now, r, h => by
    have hc : c ≠ 34 := fun e => h (e ▸ .head _)
    rw [List.cons_append]
    conv => lhs; unfold cutG
    rw [if_neg (fun h => hc h.1), if_neg (by simp), cutG_in2 q _ r (fun hh => h (.tail _ hh))]
    simp
theorem strip_snoc {now : List Nat} {c : Nat} (h : stripL isSp now ≠ []) : stripL isSp (now ++ [c]) ≠ [] := by
  intro e
  apply h
  have h2 : ∀ d ∈ now ++ [c], isSp d = true := by
    unfold stripL at e
    have h3 := rstripL_nil e
    intro d hd
    have h4 := List.takeWhile_append_dropWhile (p := isSp) (l := now ++ [c])
    rw [← h4] at hd
    rcases List.mem_append.mp hd with hd | hd
    · exact List.all_eq_true.mp List.all_takeWhile d hd
    · exact h3 d hd
  exact stripL_all (fun d hd => h2 d (List.mem_append_left _ hd))
theorem strip_ne {b r : List Nat} {c : Nat} (hc : isSp c = false) : stripL isSp (b ++ c :: r) ≠ [] := by
  intro e
  unfold stripL at e
  rw [dropWhile_front isSp b c r hc, rstripL_mid isSp _ c r hc] at e
  simp at e
theorem cutG_out1 : ∀ (x now : List Nat), stripL isSp now ≠ [] → 44 ∉ x → cutG now false x = [now ++ x]
  | [], now, _, _ => by simp [cutG]
  | c :: x, now, h, h44 => by
    have hc : c ≠ 44 := fun e => h44 (e ▸ .head _)
    unfold cutG
    rw [if_neg (fun hh => hh.2.elim (by simp) h), if_neg (fun hh => hc hh.1), cutG_out1 x _ (strip_snoc h) (fun hh => h44 (.tail _ hh))]
    simp
theorem cutG_out2 : ∀ (x now r : List Nat), stripL isSp now ≠ [] → 44 ∉ x → cutG now false (x ++ 44 :: r) = (now ++ x) :: cutG [] false r
  | [], now, r, _, _ => by
    rw [List.nil_append]
    conv => lhs; unfold cutG
    rw [if_neg (by simp), if_pos ⟨rfl, rfl⟩]; simp
  | c :: x, now, r, h, h44 => by
    have hc : c ≠ 44 := fun e => h44 (e ▸ .head _)
    rw [List.cons_append]
    conv => lhs; unfold cutG
    rw [if_neg (fun hh => hh.2.elim (by simp) h), if_neg (fun hh => hc hh.1), cutG_out2 x _ r (strip_snoc h) (fun hh => h44 (.tail _ hh))]
    simp
theorem cutG_plain1 : ∀ (x now : List Nat), 34 ∉ x → 44 ∉ x → cutG now false x = [now ++ x]
  | [], now, _, _ => by simp [cutG]
  | c :: x, now, h, h44 => by
    have hc : c ≠ 44 := fun e => h44 (e ▸ .head _)
    have hd : c ≠ 34 := fun e => h (e ▸ .head _)
    unfold cutG
    rw [if_neg (fun hh => hd hh.1), if_neg (fun hh => hc hh.1), cutG_plain1 x _ (fun hh => h (.tail _ hh)) (fun hh => h44 (.tail _ hh))]
    simp
theorem cutG_plain2 : ∀ (x now r : List Nat), 34 ∉ x → 44 ∉ x → cutG now false (x ++ 44 :: r) = (now ++ x) :: cutG [] false r
  | [], now, r, _, _ => by
    rw [List.nil_append]
    conv => lhs; unfold cutG
    rw [if_neg (by simp), if_pos ⟨rfl, rfl⟩]; simp
  | c :: x, now, r, h, h44 => by
    have hc : c ≠ 44 := fun e => h44 (e ▸ .head _)
    have hd : c ≠ 34 := fun e => h (e ▸ .head _)
    rw [List.cons_append]
    conv => lhs; unfold cutG
    rw [if_neg (fun hh => hd hh.1), if_neg (fun hh => hc hh.1), cutG_plain2 x _ r (fun hh => h (.tail _ hh)) (fun hh => h44 (.tail _ hh))]
    simp
theorem cutG_blank : ∀ (b now r : List Nat), (∀ c ∈ b, isSp c = true) → cutG now false (b ++ r) = cutG (now ++ b) false r
  | [], now, r, _ => by simp
  | c :: b, now, r, h => by
    have hc : c = 32 := isSp_iff.mp (h c (.head _))
    subst hc
    rw [List.cons_append]
    conv => lhs; unfold cutG
    rw [if_neg (by simp), if_neg (by simp), cutG_blank b _ r (fun c hc => h c (.tail _ hc))]
    simp
/-- a quote at the first place opens -/
theorem cutG_quote {b r : List Nat} (hb : ∀ c ∈ b, isSp c = true) : cutG [] false (b ++ 34 :: r) = cutG (b ++ [34]) true r := by
  rw [cutG_blank b [] _ hb, List.nil_append]
  conv => lhs; unfold cutG
  rw [if_pos ⟨rfl, .inr (stripL_all hb)⟩]; rfl
theorem cutG_closed1 {b q x : List Nat} (hb : ∀ c ∈ b, isSp c = true) (hq : 34 ∉ q) (hx : 44 ∉ x) : cutG [] false (b ++ 34 :: (q ++ 34 :: x)) = [b ++ 34 :: (q ++ 34 :: x)] := by
  rw [cutG_quote hb, cutG_in2 _ _ _ hq, cutG_out1 _ _ (by rw [List.append_assoc (b ++ [34])]; rw [List.append_assoc]; exact strip_ne isSp34) hx]
  simp
theorem cutG_closed2 {b q x r : List Nat} (hb : ∀ c ∈ b, isSp c = true) (hq : 34 ∉ q) (hx : 44 ∉ x) : cutG [] false (b ++ 34 :: (q ++ 34 :: (x ++ 44 :: r))) = (b ++ 34 :: (q ++ 34 :: x)) :: cutG [] false r := by
  rw [cutG_quote hb, cutG_in2 _ _ _ hq, cutG_out2 _ _ _ (by rw [List.append_assoc (b ++ [34])]; rw [List.append_assoc]; exact strip_ne isSp34) hx]
  simp
theorem mapM_cons_some {p : List Nat} {ps : List (List Nat)} {q : List Nat} (h : dueP p = some q) : (p :: ps).mapM dueP = (ps.mapM dueP).map (q :: ·) := by
  rw [List.mapM_cons, h]
  cases ps.mapM dueP <;> rfl
theorem mapM_cons_none {p : List Nat} {ps : List (List Nat)} (h : dueP p = none) : (p :: ps).mapM dueP = none := by
  rw [List.mapM_cons, h]; rfl
/-- a written piece is read as its text -/
theorem pieceF_due {x : List Nat} {f : Nat} (h34 : 34 ∉ x) : dueP (pieceF x f) = some x := by
  unfold pieceF
  split
  · rename_i h
    obtain ⟨rfl, hb⟩ := h
    unfold bareB at hb
    simp at hb
    simp
    unfold dueP
    rw [← hb.2, if_pos]
    intro e
    exact h34 (List.mem_of_mem_take (e ▸ List.mem_singleton.mpr rfl))
  · rw [List.append_assoc, List.cons_append, List.append_assoc, List.singleton_append]
    rw [dueP_closed (fun c hc => isSp_iff.mpr (List.eq_of_mem_replicate hc)) h34, if_pos (rstripL_all (fun c hc => isSp_iff.mpr (List.eq_of_mem_replicate hc)))]
theorem pieceF_cut1 {x : List Nat} {f : Nat} (h34 : 34 ∉ x) : cutG [] false (pieceF x f) = [pieceF x f] := by
  unfold pieceF
  split
  · rename_i h
    obtain ⟨rfl, hb⟩ := h
    unfold bareB at hb
    simp at hb
    simp
    rw [cutG_plain1 _ _ h34 hb.1]; rfl
  · rw [List.append_assoc, List.cons_append, List.append_assoc, List.singleton_append]
    exact cutG_closed1 (fun c hc => isSp_iff.mpr (List.eq_of_mem_replicate hc)) h34 (fun h => by have := List.eq_of_mem_replicate h; simp at this)
theorem pieceF_cut2 {x r : List Nat} {f : Nat} (h34 : 34 ∉ x) : cutG [] false (pieceF x f ++ 44 :: r) = pieceF x f :: cutG [] false r := by
  unfold pieceF
  split
  · rename_i h
    obtain ⟨rfl, hb⟩ := h
    unfold bareB at hb
    simp at hb
    simp
    rw [cutG_plain2 _ _ _ h34 hb.1]; rfl
  · have e : List.replicate (f % 3) 32 ++ 34 :: (x ++ [34]) ++ List.replicate (f / 2) 32 ++ 44 :: r = List.replicate (f % 3) 32 ++ 34 :: (x ++ 34 :: (List.replicate (f / 2) 32 ++ 44 :: r)) := by simp
    have e2 : List.replicate (f % 3) 32 ++ 34 :: (x ++ [34]) ++ List.replicate (f / 2) 32 = List.replicate (f % 3) 32 ++ 34 :: (x ++ 34 :: List.replicate (f / 2) 32) := by simp
    rw [e, e2]
    exact cutG_closed2 (fun c hc => isSp_iff.mpr (List.eq_of_mem_replicate hc)) h34 (fun h => by have := List.eq_of_mem_replicate h; simp at this)
theorem written_due : ∀ (xs : List (List Nat)) (fs : List Nat), xs ≠ [] → fs.length = xs.length → (∀ x ∈ xs, 34 ∉ x) → (cutG [] false (List.intercalate [44] (List.zipWith pieceF xs fs))).mapM dueP = some xs
  | [], _, h, _, _ => absurd rfl h
  | [x], fs, _, hl, h => by
    match fs, hl with
    | [f], _ =>
      have h34 := h x (.head _)
      have e : List.intercalate [44] (List.zipWith pieceF [x] [f]) = pieceF x f := by simp [List.intercalate]
      rw [e, pieceF_cut1 h34, mapM_cons_some (pieceF_due h34)]; rfl
  | x :: x' :: xs, fs, _, hl, h => by
    match fs, hl with
    | f :: f' :: fs, hl =>
      have h34 := h x (.head _)
      have ih := written_due (x' :: xs) (f' :: fs) (by simp) (by simpa using hl) (fun x hx => h x (.tail _ hx))
      have e : List.intercalate [44] (List.zipWith pieceF (x :: x' :: xs) (f :: f' :: fs)) = pieceF x f ++ 44 :: List.intercalate [44] (List.zipWith pieceF (x' :: xs) (f' :: fs)) := by simp [List.intercalate]
      rw [e, pieceF_cut2 h34, mapM_cons_some (pieceF_due h34), ih]; rfl

/-- what the parser tells of what is left (isSp for isBl: without tabs) -/
noncomputable def restF : Nat → List Nat → Option (List (List Nat))
  | 0, _ => none
  | n + 1, s => match s.dropWhile isSp with
    | [] => some [[]]
    | c :: r =>
      if c = 34 then
        (if 34 ∈ r then
          match ((r.dropWhile (· != 34)).drop 1).dropWhile isSp with
          | [] => some [r.takeWhile (· != 34)]
          | d :: t => if d = 44 then (restF n t).map (r.takeWhile (· != 34) :: ·) else none
        else some [r])
      else
        match (c :: r).dropWhile (· != 44) with
        | [] => some [rstripL isSp ((c :: r).takeWhile (· != 44))]
        | _ :: t => (restF n t).map (rstripL isSp ((c :: r).takeWhile (· != 44)) :: ·)
theorem split_at {r : List Nat} {c : Nat} (h : c ∈ r) : ∃ t, r = r.takeWhile (· != c) ++ c :: t ∧ r.dropWhile (· != c) = c :: t ∧ c ∉ r.takeWhile (· != c) := by
  induction r with
  | nil => cases h
  | cons d r ih =>
    by_cases e : d = c
    · subst e
      refine ⟨r, ?_, ?_, ?_⟩ <;> simp
    · rcases List.mem_cons.mp h with h | h
      · exact absurd h.symm e
      · obtain ⟨t, h1, h2, h3⟩ := ih h
        have e2 : (d != c) = true := by simpa using e
        refine ⟨t, ?_, ?_, ?_⟩
        · rw [List.takeWhile_cons, if_pos e2, List.cons_append, ← h1]
        · rw [List.dropWhile_cons, if_pos e2, h2]
        · rw [List.takeWhile_cons, if_pos e2]
          intro h4
          rcases List.mem_cons.mp h4 with h4 | h4
          · exact e h4.symm
          · exact h3 h4
theorem split_no {r : List Nat} {c : Nat} (h : c ∉ r) : r.takeWhile (· != c) = r ∧ r.dropWhile (· != c) = [] := by
  induction r with
  | nil => exact ⟨rfl, rfl⟩
  | cons d r ih =>
    have e2 : (d != c) = true := by simpa using fun (e : d = c) => h (e ▸ .head _)
    obtain ⟨h1, h2⟩ := ih (fun hh => h (.tail _ hh))
    rw [List.takeWhile_cons, if_pos e2, List.dropWhile_cons, if_pos e2, h1, h2]
    exact ⟨rfl, rfl⟩
theorem split_sp (s : List Nat) : ∃ b, (∀ c ∈ b, isSp c = true) ∧ s = b ++ s.dropWhile isSp ∧ (∀ c r, s.dropWhile isSp = c :: r → isSp c = false) := by
  refine ⟨s.takeWhile isSp, fun c hc => List.all_eq_true.mp List.all_takeWhile c hc, (List.takeWhile_append_dropWhile).symm, ?_⟩
  intro c r h
  have := List.head?_dropWhile_not isSp s
  rw [h] at this
  simpa using this
theorem restF_due : ∀ (n : Nat) (s : List Nat), s.length < n → restF n s = (cutG [] false s).mapM dueP
  | 0, _, h => absurd h (by omega)
  | n + 1, s, h => by
    obtain ⟨b, hb, hs, hc⟩ := split_sp s
    have hlen : s.length = b.length + (s.dropWhile isSp).length := by conv => lhs; rw [hs, List.length_append]
    unfold restF
    cases hd : s.dropWhile isSp with
    | nil =>
      rw [hd, List.append_nil] at hs
      have e : cutG [] false s = [b] := by
        have := cutG_blank b [] [] hb
        rw [List.append_nil] at this
        rw [hs, this]; simp [cutG]
      rw [e, mapM_cons_some (dueP_blank hb)]; rfl
    | cons c r =>
      rw [hd] at hs hlen
      have hcs := hc c r hd
      dsimp only
      by_cases h34 : c = 34
      · subst h34
        rw [if_pos rfl]
        by_cases hr : 34 ∈ r
        · rw [if_pos hr]
          obtain ⟨x, hr1, hr2, hr3⟩ := split_at hr
          rw [hr2, List.drop_succ_cons, List.drop_zero]
          generalize r.takeWhile (· != 34) = q at *
          obtain ⟨bx, hbx, hxs, hxc⟩ := split_sp x
          have hrl : r.length = q.length + 1 + x.length := by rw [hr1]; simp; omega
          by_cases h44 : 44 ∈ x
          · obtain ⟨t, hx1, hx2, hx3⟩ := split_at h44
            generalize x.takeWhile (· != 44) = u at *
            have hxl : x.length = u.length + 1 + t.length := by rw [hx1]; simp; omega
            have e : cutG [] false s = (b ++ 34 :: (q ++ 34 :: u)) :: cutG [] false t := by
              rw [hs, hr1, hx1]; exact cutG_closed2 hb hr3 hx3
            rw [e]
            by_cases hu : ∀ c ∈ u, isSp c = true
            · have e2 : x.dropWhile isSp = 44 :: t := by
                rw [hx1, dropWhile_mid _ _ _ hu, List.dropWhile_cons, isSp44]; rfl
              rw [e2, mapM_cons_some (q := q) (by rw [dueP_closed hb hr3, if_pos (rstripL_all hu)])]
              dsimp only
              rw [if_pos rfl, restF_due n t (by rw [List.length_cons] at hlen; omega)]
            · have e3 : u.dropWhile isSp ≠ [] := fun e => by
                apply hu
                intro c hcu
                have := List.takeWhile_append_dropWhile (p := isSp) (l := u)
                rw [e, List.append_nil] at this
                rw [← this] at hcu
                exact List.all_eq_true.mp List.all_takeWhile c hcu
              have e4 : x.dropWhile isSp = u.dropWhile isSp ++ 44 :: t := by
                conv => lhs; rw [hx1]
                exact dropWhile_front _ _ _ _ isSp44
              rw [mapM_cons_none (by rw [dueP_closed hb hr3, if_neg (fun e => hu (rstripL_nil e))])]
              rw [e4]
              cases hu4 : u.dropWhile isSp with
              | nil => exact absurd hu4 e3
              | cons d t2 =>
                have hdu : d ∈ u := (List.dropWhile_sublist isSp).subset (hu4 ▸ .head _)
                rw [List.cons_append]
                dsimp only
                rw [if_neg (fun (e : d = 44) => hx3 (e ▸ hdu))]
          · have e : cutG [] false s = [b ++ 34 :: (q ++ 34 :: x)] := by
              rw [hs, hr1]; exact cutG_closed1 hb hr3 h44
            rw [e]
            cases hx4 : x.dropWhile isSp with
            | nil =>
              rw [hx4, List.append_nil] at hxs
              rw [mapM_cons_some (q := q) (by rw [dueP_closed hb hr3, if_pos (rstripL_all (hxs ▸ hbx))])]
              rfl
            | cons d t2 =>
              have hdx : d ∈ x := (List.dropWhile_sublist isSp).subset (hx4 ▸ .head _)
              dsimp only
              rw [if_neg (fun (e : d = 44) => h44 (e ▸ hdx))]
              rw [mapM_cons_none]
              rw [dueP_closed hb hr3, if_neg]
              intro e5
              have := rstripL_nil e5 d hdx
              rw [hxc d t2 hx4] at this; cases this
        · rw [if_neg hr]
          have e : cutG [] false s = [b ++ 34 :: r] := by
            rw [hs, cutG_quote hb, cutG_in1 _ _ hr]; simp
          rw [e, mapM_cons_some (dueP_open hb hr)]; rfl
      · rw [if_neg h34]
        by_cases h44c : c = 44
        · subst h44c
          have e : cutG [] false s = b :: cutG [] false r := by
            rw [hs]
            exact cutG_plain2 b [] r (notsp_of_mem hb isSp34) (notsp_of_mem hb isSp44)
          rw [e, mapM_cons_some (dueP_blank hb)]
          rw [← restF_due n r (by rw [List.length_cons] at hlen; omega)]
          simp [rstripL]
        · have hne : (c != 44) = true := by simpa using h44c
          have hnow : stripL isSp (b ++ [c]) ≠ [] := strip_ne hcs
          have hcut : ∀ y, cutG [] false (b ++ c :: y) = cutG (b ++ [c]) false y := by
            intro y
            rw [cutG_blank b [] _ hb, List.nil_append]
            conv => lhs; unfold cutG
            rw [if_neg (fun hh => h34 hh.1), if_neg (fun hh => h44c hh.1)]
          rw [List.takeWhile_cons, if_pos hne, List.dropWhile_cons, if_pos hne]
          by_cases h44 : 44 ∈ r
          · obtain ⟨t, hx1, hx2, hx3⟩ := split_at h44
            rw [hx2]
            generalize r.takeWhile (· != 44) = u at *
            have hrl : r.length = u.length + 1 + t.length := by rw [hx1]; simp; omega
            have e : cutG [] false s = (b ++ c :: u) :: cutG [] false t := by
              rw [hs, hx1, hcut, cutG_out2 _ _ _ hnow hx3]; simp
            rw [e, mapM_cons_some (dueP_bare hb hcs h34)]
            dsimp only
            rw [restF_due n t (by rw [List.length_cons] at hlen; omega)]
            have := rstripL_mid isSp [] c u hcs
            rw [List.nil_append, List.nil_append] at this
            rw [this]
          · obtain ⟨h1, h2⟩ := split_no h44
            rw [h2, h1]
            have e : cutG [] false s = [b ++ c :: r] := by
              rw [hs, hcut, cutG_out1 _ _ hnow h44]; simp
            rw [e, mapM_cons_some (dueP_bare hb hcs h34)]
            have := rstripL_mid isSp [] c r hcs
            rw [List.nil_append, List.nil_append] at this
            rw [this]; rfl
/-! told, as restF -/
theorem isBl_sp {c : Nat} (h : c ≠ 9) : isBl c = isSp c := by
  unfold isBl isSp; simp [h]
theorem dropWhile_bl : ∀ {s : List Nat}, 9 ∉ s → s.dropWhile isBl = s.dropWhile isSp
  | [], _ => rfl
  | c :: s, h => by
    rw [List.dropWhile_cons, List.dropWhile_cons, isBl_sp (fun e => h (e ▸ .head _)), dropWhile_bl (fun hh => h (.tail _ hh))]
theorem rstripL_bl {s : List Nat} (h : 9 ∉ s) : rstripL isBl s = rstripL isSp s := by
  unfold rstripL; rw [dropWhile_bl (by simpa using h)]
theorem blankEnd_drop (l : List Nat) (i : Nat) : l.drop (blankEnd l i) = (l.drop i).dropWhile isBl := by
  unfold blankEnd
  rw [← List.drop_drop, drop_takeWhile]
theorem idxFrom_drop {l : List Nat} {c i : Nat} : l.drop (idxFrom l c i) = (l.drop i).dropWhile (· != c) := by
  unfold idxFrom
  rw [← List.drop_drop, drop_takeWhile]
theorem idxFrom_take {l : List Nat} {c i : Nat} : (l.take (idxFrom l c i)).drop i = (l.drop i).takeWhile (· != c) := by
  unfold idxFrom
  rw [List.drop_take, Nat.add_sub_cancel_left]
  exact (List.prefix_iff_eq_take.mp (List.takeWhile_prefix _)).symm
theorem told_rest : ∀ (n : Nat) (l : List Nat) (i : Nat), 9 ∉ l → i ≤ l.length → (toldF n l i).map (·.map (·.1)) = restF n (l.drop i)
  | 0, _, _, _, _ => rfl
  | n + 1, l, i, h9, hi => by
    have hnd : ∀ j, 9 ∉ l.drop j := fun j h => h9 ((List.drop_sublist _ _).subset h)
    have hb := blankEnd_drop l i
    rw [dropWhile_bl (hnd i)] at hb
    have hbl := blankEnd_le hi
    unfold toldF restF fieldF
    generalize hbe : blankEnd l i = j at *
    rw [← hb]
    have hget : l[j]? = (l.drop j)[0]? := by rw [List.getElem?_drop]; rfl
    have hstep : ∀ e t, l.drop e = 44 :: t → l.drop (e + 1) = t ∧ e < l.length := by
      intro e t he
      refine ⟨?_, ?_⟩
      · rw [← List.drop_drop, he]; rfl
      · have := congrArg List.length he; simp at this; omega
    have hend : ∀ e, e ≤ l.length → l.drop e = [] → e = l.length := by
      intro e h1 he
      have := congrArg List.length he; simp at this; omega
    rw [hget]
    cases hs : l.drop j with
    | nil =>
      have := hend j hbl hs
      subst this
      simp [rstripL]
    | cons c r =>
      have hj : j < l.length := by have := congrArg List.length hs; simp at this; omega
      have hr : l.drop (j + 1) = r := by rw [← List.drop_drop, hs]; rfl
      by_cases h34 : c = 34
      · subst h34
        have e0 : (34 :: r)[0]? = some 34 := rfl
        rw [if_pos e0]
        dsimp only
        rw [if_pos rfl]
        unfold quotedF
        rw [hr]
        by_cases hm : 34 ∈ r
        · rw [if_pos hm, if_pos hm]
          dsimp only
          have ht := idxFrom_take (l := l) (c := 34) (i := j + 1)
          have hd := idxFrom_drop (l := l) (c := 34) (i := j + 1)
          have hlt := idxFrom_lt (l := l) (c := 34) (i := j + 1) (hr.symm ▸ hm)
          rw [hr] at ht hd
          generalize idxFrom l 34 (j + 1) = e at *
          have hk := blankEnd_drop l (e + 1)
          have hkl := blankEnd_le (l := l) (i := e + 1) hlt
          rw [dropWhile_bl (hnd _), ← List.drop_drop, hd] at hk
          generalize blankEnd l (e + 1) = k at *
          have hgk : l[k]? = (l.drop k)[0]? := by rw [List.getElem?_drop]; rfl
          rw [hgk, ← hk, ht]
          cases hks : l.drop k with
          | nil =>
            have := hend k hkl hks
            rw [if_pos (.inl this)]
            dsimp only
            rw [if_neg (by omega)]; rfl
          | cons d t =>
            have hkl2 : k < l.length := by have := congrArg List.length hks; simp at this; omega
            by_cases h44 : d = 44
            · subst h44
              have e1 : (44 :: t)[0]? = some 44 := rfl
              rw [if_pos (.inr e1)]
              dsimp only
              rw [if_pos hkl2, if_pos rfl]
              have ih := told_rest n l (k + 1) h9 hkl2
              rw [(hstep k t hks).1] at ih
              rw [← ih]
              cases toldF n l (k + 1) <;> rfl
            · have e1 : ¬ (k = l.length ∨ (d :: t)[0]? = some 44) := by
                rintro (h | h)
                · omega
                · exact h44 (Option.some.inj h)
              rw [if_neg e1]
              dsimp only
              rw [if_neg h44]; rfl
        · rw [if_neg hm, if_neg hm]
          dsimp only
          rw [if_pos (.inl rfl)]
          dsimp only
          rw [if_neg (by omega)]; rfl
      · have e0 : ¬ (c :: r)[0]? = some 34 := fun h => h34 (Option.some.inj h)
        rw [if_neg e0]
        dsimp only
        rw [if_neg h34]
        have ht := idxFrom_take (l := l) (c := 44) (i := j)
        have hd := idxFrom_drop (l := l) (c := 44) (i := j)
        rw [hs] at ht hd
        by_cases hm : 44 ∈ c :: r
        · rw [if_pos hm]
          have hlt := idxFrom_lt (l := l) (c := 44) (i := j) (hs.symm ▸ hm)
          obtain ⟨t, h1, h2, h3⟩ := split_at hm
          rw [if_pos hlt, ht, h2]
          rw [h2] at hd
          generalize idxFrom l 44 j = e at *
          have ih := told_rest n l (e + 1) h9 hlt
          rw [(hstep e t hd).1] at ih
          dsimp only
          rw [← ih, rstripL_bl (fun h => hnd j (hs.symm ▸ (List.takeWhile_sublist _).subset h))]
          cases toldF n l (e + 1) <;> rfl
        · rw [if_neg hm]
          obtain ⟨h1, h2⟩ := split_no hm
          rw [if_neg (by omega), h2, h1]
          rw [List.take_length, hs, rstripL_bl (fun h => hnd j (hs.symm ▸ h))]
          rfl
theorem told_due {l : List Nat} (h9 : 9 ∉ l) : (told l).map (·.map (·.1)) = dueF l := by
  have h1 := told_rest (l.length + 1) l 0 h9 (Nat.zero_le _)
  unfold told
  rw [h1, List.drop_zero, restF_due _ _ (Nat.lt_succ_self _)]
  unfold dueF
  rw [cutF_G]
theorem fitted_told {l : List Nat} {n : Nat} : fittedF l n = match (told l).map (·.map (·.1)) with | none => none | some ds => if ds.length = n then some ds else none := by
  unfold fittedF
  cases told l with
  | none => rfl
  | some ps => simp
theorem pieceF_sub {x : List Nat} {f c : Nat} (h : c ∈ pieceF x f) : c ∈ x ∨ c = 32 ∨ c = 34 := by
  unfold pieceF at h
  rcases List.mem_append.mp h with h | h
  · rcases List.mem_append.mp h with h | h
    · exact .inr (.inl (List.eq_of_mem_replicate h))
    · split at h
      · exact .inl h
      · rcases List.mem_cons.mp h with h | h
        · exact .inr (.inr h)
        · rcases List.mem_append.mp h with h | h
          · exact .inl h
          · exact .inr (.inr (List.mem_singleton.mp h))
  · exact .inr (.inl (List.eq_of_mem_replicate h))
theorem written_sub : ∀ (xs : List (List Nat)) (fs : List Nat) (c : Nat), c ∈ List.intercalate [44] (List.zipWith pieceF xs fs) → (∃ x ∈ xs, c ∈ x) ∨ c = 32 ∨ c = 34 ∨ c = 44
  | [], _, c, h => by simp [List.intercalate] at h
  | x :: xs, [], c, h => by simp [List.intercalate] at h
  | [x], f :: fs, c, h => by
    have e : List.intercalate [44] (List.zipWith pieceF [x] (f :: fs)) = pieceF x f := by simp [List.intercalate]
    rw [e] at h
    rcases pieceF_sub h with h | h | h
    · exact .inl ⟨x, .head _, h⟩
    · exact .inr (.inl h)
    · exact .inr (.inr (.inl h))
  | x :: x' :: xs, [f], c, h => by
    have e : List.intercalate [44] (List.zipWith pieceF (x :: x' :: xs) [f]) = pieceF x f := by simp [List.intercalate]
    rw [e] at h
    rcases pieceF_sub h with h | h | h
    · exact .inl ⟨x, .head _, h⟩
    · exact .inr (.inl h)
    · exact .inr (.inr (.inl h))
  | x :: x' :: xs, f :: f' :: fs, c, h => by
    have e : List.intercalate [44] (List.zipWith pieceF (x :: x' :: xs) (f :: f' :: fs)) = pieceF x f ++ 44 :: List.intercalate [44] (List.zipWith pieceF (x' :: xs) (f' :: fs)) := by simp [List.intercalate]
    rw [e] at h
    rcases List.mem_append.mp h with h | h
    · rcases pieceF_sub h with h | h | h
      · exact .inl ⟨x, .head _, h⟩
      · exact .inr (.inl h)
      · exact .inr (.inr (.inl h))
    · rcases List.mem_cons.mp h with h | h
      · exact .inr (.inr (.inr h))
      · rcases written_sub (x' :: xs) (f' :: fs) c h with ⟨y, hy, hc⟩ | h
        · exact .inl ⟨y, .tail _ hy, hc⟩
        · exact .inr h
/-- A: what is written is read -/
theorem written_told {xs : List (List Nat)} {y : List Nat} (hne : xs ≠ []) (h34 : ∀ x ∈ xs, 34 ∉ x) (h9 : ∀ x ∈ xs, 9 ∉ x) (hw : IsWritten xs y) : (told y).map (·.map (·.1)) = some xs := by
  obtain ⟨fs, hl, hf, rfl⟩ := hw
  rw [told_due, dueF, cutF_G, written_due xs fs hne hl h34]
  intro h
  rcases written_sub xs fs 9 h with ⟨x, hx, hc⟩ | h | h | h
  · exact h9 x hx hc
  · cases h
  · cases h
  · cases h
theorem written_fit {xs : List (List Nat)} {y : List Nat} (hne : xs ≠ []) (h34 : ∀ x ∈ xs, 34 ∉ x) (h9 : ∀ x ∈ xs, 9 ∉ x) (hw : IsWritten xs y) : fittedF y xs.length = some xs ∧ fittedF y (xs.length + 1) = none := by
  rw [fitted_told, fitted_told, written_told hne h34 h9 hw]
  exact ⟨if_pos rfl, if_neg (by omega)⟩
theorem cutG_sub : ∀ (l now : List Nat) (b : Bool) (p : List Nat) (c : Nat), p ∈ cutG now b l → c ∈ p → c ∈ now ∨ c ∈ l
  | [], now, b, p, c, hp, hc => by
    unfold cutG at hp
    rw [List.mem_singleton.mp hp] at hc; exact .inl hc
  | a :: r, now, b, p, c, hp, hc => by
    have snoc : c ∈ now ++ [a] ∨ c ∈ r → c ∈ now ∨ c ∈ a :: r := by
      rintro (h | h)
      · rcases List.mem_append.mp h with h | h
        · exact .inl h
        · rw [List.mem_singleton.mp h]; exact .inr (.head _)
      · exact .inr (.tail _ h)
    unfold cutG at hp
    split at hp
    · exact snoc (cutG_sub r _ _ p c hp hc)
    · split at hp
      · rcases List.mem_cons.mp hp with rfl | hp
        · exact .inl hc
        · rcases cutG_sub r _ _ p c hp hc with h | h
          · cases h
          · exact .inr (.tail _ h)
      · exact snoc (cutG_sub r _ _ p c hp hc)
theorem dueP_sub {p d : List Nat} {c : Nat} (h : dueP p = some d) (hc : c ∈ d) : c ∈ p := by
  unfold dueP at h
  split at h
  · rw [← Option.some.inj h] at hc; exact stripL_sub hc
  · split at h
    · rw [← Option.some.inj h] at hc; exact (List.drop_sublist _ _).subset hc
    · split at h
      · cases h
      · rw [← Option.some.inj h] at hc
        exact stripL_sub ((List.take_sublist _ _).subset ((List.drop_sublist _ _).subset hc))
theorem dueP_len {p d : List Nat} (h : dueP p = some d) : d.length ≤ p.length := by
  have := stripL_len isSp p
  unfold dueP at h
  split at h
  · rw [← Option.some.inj h]; exact this
  · split at h
    · rw [← Option.some.inj h, List.length_drop]; omega
    · split at h
      · cases h
      · rw [← Option.some.inj h, List.length_drop, List.length_take]; omega
theorem mapM_all : ∀ {ps : List (List Nat)} {ds : List (List Nat)}, ps.mapM dueP = some ds → ds.length = ps.length ∧ ∀ d ∈ ds, ∃ p ∈ ps, dueP p = some d
  | [], ds, h => by
    have : ds = [] := by simpa using h.symm
    subst this; exact ⟨rfl, fun _ h => nomatch h⟩
  | p :: ps, ds, h => by
    cases hp : dueP p with
    | none => rw [mapM_cons_none hp] at h; cases h
    | some q =>
      rw [mapM_cons_some hp] at h
      cases hm : ps.mapM dueP with
      | none => rw [hm] at h; cases h
      | some ds' =>
        rw [hm] at h
        have : q :: ds' = ds := Option.some.inj h
        subst this
        obtain ⟨h1, h2⟩ := mapM_all hm
        refine ⟨by rw [List.length_cons, List.length_cons, h1], ?_⟩
        intro d hd
        rcases List.mem_cons.mp hd with rfl | hd
        · exact ⟨p, .head _, hp⟩
        · obtain ⟨p', hp', e⟩ := h2 d hd
          exact ⟨p', .tail _ hp', e⟩
theorem cutG_ne (l now : List Nat) (b : Bool) : cutG now b l ≠ [] := by
  induction l generalizing now b with
  | nil => simp [cutG]
  | cons c r ih =>
    unfold cutG
    split
    · exact ih _ _
    · split
      · simp
      · exact ih _ _
/-- C: what is due -/
theorem due_facts {l : List Nat} {ds : List (List Nat)} (h : dueF l = some ds) : ds ≠ [] ∧ ds.length ≤ l.length + 1 ∧ ∀ d ∈ ds, d.length ≤ l.length ∧ ∀ c ∈ d, c ∈ l := by
  obtain ⟨h1, h2⟩ := mapM_all h
  have hn := cutF_num l
  refine ⟨?_, by omega, ?_⟩
  · intro e
    subst e
    have : cutF l = [] := List.eq_nil_of_length_eq_zero h1.symm
    rw [cutF_G] at this
    exact cutG_ne _ _ _ this
  · intro d hd
    obtain ⟨p, hp, e⟩ := h2 d hd
    refine ⟨Nat.le_trans (dueP_len e) (cutF_len p hp), fun c hc => ?_⟩
    have := cutG_sub l [] false p c (cutF_G l ▸ hp) (dueP_sub e hc)
    rcases this with h | h
    · cases h
    · exact h

-- part TL
local macro_rules | `(tactic| walk_at "CompSrc") => `(tactic| refine holdIf (by assumption) ?_)
local macro_rules | `(tactic| walk_at "compareOp NotEq ref ref") => `(tactic| refine hold ?_)
local macro_rules | `(tactic| walk_at "binaryOp Mult ref int") => `(tactic| refine hold ?_)
local macro_rules | `(tactic| walk_at "CompSrcT") => `(tactic| refine hold ?_)
theorem lawH : PySem.Challenge.rw_pq0134_01.Holds := hd (by
  w_strict (
    k_go0
    (all_goals try k_fold)
    k_steps
    rename IntsAre _ _ => hI
    rename Frag.In _ _ => KX
    rename Top _ _ _ _ _ _ => T0
    rename Below _ _ _ _ => B0
    rename ¬ ((63 : Nat) : Int) < _ => h63
    rename Heap.IsList _ _ _ => hL
    rename Fr _ _ _ _ => F0
    rename News _ _ _ _ => N0
    unfold Hold
    (try k_fold)
    k_dflt (refine LCg.ListComp_U (F₀ := F0) (by rfl) (by decide) (by rfl) (by decide) (by rfl) ?_)
    k_steps
    rename Fr _ _ _ _ => F1
    rename News _ _ _ _ => N1
    rename IntsAre _ (_ ++ _) => hI1
    have hn1 := hI1.length
    simp only [List.length_append, List.length_map, List.length_take, List.length_cons, List.length_nil] at hn1
    generalize List.map (fun k' : Int => if k' < 0 then -k' else k') _ ++ _ = xs1 at hI1
    have hn1b := hI1.length
    unfold Hold
    (try k_fold)
    have hmk : Mark2 := trivial
    k_dflt (refine LCg.Assign_ListComp_U (F₀ := F1) (by rfl) (by with_unfolding_all rfl) (by rfl) (by decide) (by rfl) (by decide) (by rfl) (by rfl) (by rfl) ?_)
    k_steps
    rename Fr _ _ _ _ => F2
    rename News _ _ _ _ => N2
    rename IntsAre _ (List.take _ _) => hI2
    have hn2 := hI2.length
    rw [List.length_take] at hn2
    have N2 := News.sub (news' := _ :: _ :: []) N2 (List.forall_mem_cons.mpr ⟨.head _, List.forall_mem_cons.mpr ⟨.tail _ (.head _), List.forall_mem_nil _⟩⟩)
    unfold Hold
    (try k_fold)
    refine LCg.CompSrc.ledger (by rfl) F2 N2 (.head _) (by rw [List.size_toArray, sizeLine_eq]; omega) ?_
    intro g2
    refine compAll (fun i ys => ys.length = i ∧ ∃ xs, All2 IsS ys xs ∧ ∀ x ∈ xs, x.length ≤ 5 ∧ ∀ c ∈ x, c ∈ signsT) ?_ _ 0 [] ⟨rfl, [], .nil, fun _ h => nomatch h⟩ ?_
    · intro i ys v I oI C oC D' m₂ h8 tk8 E' hR hv hC hx1 F8 N8 off
      obtain ⟨k3, t3, rfl, _⟩ := hI2.at i v (by simpa using hv)
      k_steps
      have Nold := N8
      unfold Hold
      refine (says_law_text _ k3 t3).use B0 F8 KX T0 rfl (by decide) (by decide) trivial ?_
      rintro r h tk F K ⟨x3, hx3, hx3l, hx3s⟩
      exact LCg.CompEnd.intro F (News.lift N8 K) _ (fun _ h => h) off (.inr ⟨_, .head _, rfl, _, rfl⟩) ⟨rfl, by
        obtain ⟨e1, xs, e2, e3⟩ := hR
        refine ⟨by simp; omega, xs ++ [x3], e2.append (.cons hx3 .nil), fun x hx => ?_⟩
        rcases List.mem_append.mp hx with hx | hx
        · exact e3 x hx
        · rw [List.mem_singleton.mp hx]; exact ⟨hx3l, hx3s⟩⟩
    · intro ys hR
      intro D9 h9 tk9 F9 N9 o9
      obtain ⟨hyl, xs, hxs, hxa⟩ := hR
      have N9 := News.sub (news' := _ :: _ :: []) N9 (List.forall_mem_cons.mpr ⟨.head _, List.forall_mem_cons.mpr ⟨.tail _ (.tail _ (.head _)), List.forall_mem_nil _⟩⟩)
      have hxl := hxs.length
      have q0 : 0 ≤ (xs1.getD 1 0).fmod 5 := Int.fmod_nonneg_of_pos _ (by decide)
      have q1 : (xs1.getD 1 0).fmod 5 < 5 := Int.fmod_lt_of_pos _ (by decide)
      have hy1 : 1 ≤ ys.length ∧ ys.length ≤ 5 := by
        rw [List.size_toArray] at hyl
        omega
      have hne : xs ≠ [] := fun e => by have : ys.length = 0 := by rw [hxl, e]; rfl
                                        omega
      have h34 : ∀ x ∈ xs, 34 ∉ x := fun x hx h => (signsT_ok ((hxa x hx).2 _ h)).2.1 rfl
      have h09 : ∀ x ∈ xs, 9 ∉ x := fun x hx h => (signsT_ok ((hxa x hx).2 _ h)).2.2 rfl
      have hco : ∀ x ∈ xs, ∀ c ∈ x, c < 1114112 := fun x hx c h => (signsT_ok ((hxa x hx).2 _ h)).1
      clear F2 N2 hmk
      (try dsimp only)
      (try k_fold)
      k_steps
      rename Fr _ _ _ _ => F10
      rename News _ _ _ _ => N10
      unfold Hold
      refine (says_written _ D9 ys xs _ _ hxs (by omega) (fun x hx => Nat.le_trans (hxa x hx).1 (by decide))).use B0 F10 KX T0 rfl (by decide) (by decide) (PyProof.Rows.News.isList N10 (.head _)) ?_
      rintro r11 h11 tk11 F11 K11 ⟨y, ⟨ty, rfl⟩, hyw⟩
      have N11 := News.lift N10 K11
      have hyz := isWritten_len hyw (by omega) (fun x hx => Nat.le_trans (hxa x hx).1 (by decide))
      have htold := written_told hne h34 h09 hyw
      have hfit := written_fit hne h34 h09 hyw
      clear F10 N10 K11
      (try dsimp only)
      (try k_fold)
      k_steps
      rename Fr _ _ _ _ => F12
      rename News _ _ _ _ => N12
      unfold Hold
      refine (says_parted _ y _ hyz).use B0 F12 KX T0 rfl (by decide) (by decide) trivial ?_
      intro r13 h13 tk13 F13 K13 P13
      have N13 := News.lift N12 K13
      rw [htold] at P13
      obtain ⟨D13, vs13, c13, rfl, hfr13, hvs13⟩ := P13
      have N13 := News.freshes F12 N13 hfr13
      clear F12 N12 K13
      (try dsimp only)
      (try k_fold)
      k_steps
      rename Fr _ _ _ _ => F14
      rename News _ _ _ _ => N14
      unfold Hold
      refine ne_texts N14 (.head _) (.tail _ (.head _)) hvs13 hxs hco hco (by exact Nat.le_of_ble_eq_true rfl) ?_
      intro b14 hb14
      have : b14 = false := by
        cases b14 with
        | false => rfl
        | true => exact absurd rfl (hb14.mp rfl)
      subst this
      (try dsimp only)
      (try k_fold)
      k_steps
      rename Fr _ _ _ _ => F15
      rename News _ _ _ _ => N15
      unfold Hold
      refine mul_text (n := ys.length) F15 N15 (.head _) (by rfl) (by omega) ?_
      intro D16 h16 F16 N16
      clear F15 N15
      (try dsimp only)
      (try k_fold)
      k_steps
      rename Fr _ _ _ _ => F17
      rename News _ _ _ _ => N17
      unfold Hold
      refine (says_fitted _ y _ _ (List.replicate ys.length _) hyz (all_rep ⟨_, rfl⟩) (by rw [List.length_replicate]; omega)).use B0 F17 KX T0 rfl (by decide) (by decide) (PyProof.Rows.News.isList N17 (.head _)) ?_
      intro r18 h18 tk18 F18 K18 P18
      have N18 := News.lift N17 K18
      rw [List.length_replicate, hxl, hfit.1] at P18
      obtain ⟨D18, vs18, c18, rfl, hfr18, hvs18⟩ := P18
      have N18 := News.freshes F17 N18 hfr18
      clear F17 N17 K18
      (try dsimp only)
      (try k_fold)
      k_steps
      rename Fr _ _ _ _ => F19
      rename News _ _ _ _ => N19
      unfold Hold
      refine ne_texts N19 (.head _) (.tail _ (.tail _ (.tail _ (.tail _ (.head _))))) hvs18 hxs hco hco (by exact Nat.le_of_ble_eq_true rfl) ?_
      intro b20 hb20
      have : b20 = false := by
        cases b20 with
        | false => rfl
        | true => exact absurd rfl (hb20.mp rfl)
      subst this
      have N19 := News.sub (news' := _ :: _ :: []) N19 (List.forall_mem_cons.mpr ⟨.tail _ (.tail _ (.tail _ (.tail _ (.head _)))), List.forall_mem_cons.mpr ⟨.tail _ (.tail _ (.tail _ (.tail _ (.tail _ (.head _))))), List.forall_mem_nil _⟩⟩)
      clear N18 N11 hfr13 hfr18
      (try dsimp only)
      (try k_fold)
      k_steps
      rename Fr _ _ _ _ => F20
      rename News _ _ _ _ => N20
      unfold Hold
      refine mul_text (n := ys.length + 1) F20 N20 (.head _) (by rfl) (by omega) ?_
      intro D21 h21 F21 N21
      clear F20 N20
      (try dsimp only)
      (try k_fold)
      k_steps
      rename Fr _ _ _ _ => F22
      rename News _ _ _ _ => N22
      unfold Hold
      refine (says_fitted _ y _ _ (List.replicate (ys.length + 1) _) hyz (all_rep ⟨_, rfl⟩) (by rw [List.length_replicate]; omega)).use B0 F22 KX T0 rfl (by decide) (by decide) (PyProof.Rows.News.isList N22 (.head _)) ?_
      intro r23 h23 tk23 F23 K23 P23
      have N23 := News.lift N22 K23
      rw [List.length_replicate, hxl, hfit.2] at P23
      obtain rfl : r23 = .none := P23
      have N23 := News.sub (news' := _ :: []) N23 (List.forall_mem_cons.mpr ⟨.tail _ (.tail _ (.tail _ (.head _))), List.forall_mem_nil _⟩)
      clear F22 N22 K23
      (try dsimp only)
      (try k_fold)
      k_steps
      rename Fr _ _ _ _ => F24
      rename News _ _ _ _ => N24
      unfold Hold
      refine For_turns F24 ?_
      k_steps
      rename Fr _ _ _ _ => F25
      rename News _ _ _ _ => N25
      unfold Hold
      refine turns_list (by rfl) (PyProof.Rows.News.isList N25 (.head _)) ((N25 _ (.head _)).2.1) F25 (News.sub N25 (news' := []) (fun _ h => nomatch h))
        (fun _ m nx => nx = [] ∧ Know m []) ⟨rfl, trivial⟩ ?_ ?_
      · rintro i v m₁ _ h₂ tk₂ own hv ⟨rfl, hkn⟩ hown F₂ N₂
        obtain ⟨k26, t26, rfl, _⟩ := hI1.at i v hv
        have F₂ := hkn.fr F₂
        have N₂ := News.sub N₂ (news' := own) (fun p hp => List.mem_append.mpr (.inl hp))
        clear F25 N25
        (try k_fold)
        k_steps
        rename Fr _ _ _ _ => F27
        rename News _ _ _ _ => N27
        unfold Hold
        refine (says_law_row _ k26 t26).use B0 F27 KX T0 rfl (by decide) (by decide) trivial ?_
        rintro r28 h28 tk28 F28 K28 ⟨x, ⟨t28, rfl⟩, hxz, hxr⟩
        have N28 := News.lift N27 K28
        clear F27 N27 K28
        have hSx : (S x).length ≤ 9 := by rw [S_len]; exact hxz
        have hx9 : 9 ∉ x := fun h => (signsR_ok (hxr _ h)).2 rfl
        have hdue := told_due hx9
        (try dsimp only)
        (try k_fold)
        k_steps
        rename Fr _ _ _ _ => F29
        rename News _ _ _ _ => N29
        unfold Hold
        refine (says_due _ x _ (by omega)).use B0 F29 KX T0 rfl (by decide) (by decide) trivial ?_
        intro r30 h30 tk30 F30 K30 P30
        have N30 := News.lift N29 K30
        cases hd : dueF x with
        | none =>
          rw [hd] at P30 hdue
          obtain rfl : r30 = .none := P30
          clear F29 N29 K30
          (try dsimp only)
          (try k_fold)
          k_steps
          rename Fr _ _ _ _ => F31
          rename News _ _ _ _ => N31
          unfold Hold
          refine (says_parted _ x _ (by omega)).use B0 F31 KX T0 rfl (by decide) (by decide) trivial ?_
          intro r32 h32 tk32 F32 K32 P32
          have N32 := News.lift N31 K32
          rw [hdue] at P32
          obtain rfl : r32 = .none := P32
          clear F31 N31 K32
          (try dsimp only)
          (try k_fold)
          k_steps
          rename Fr _ _ _ _ => F33
          rename News _ _ _ _ => N33
          exact turn_endU (news₂ := []) F33 N33 (fun q hq => (List.mem_append.mp hq).elim id (fun h => nomatch h)) (fun _ h => nomatch h) ⟨rfl, trivial⟩
        | some ds =>
          obtain ⟨hdn, hdl, hdc⟩ := due_facts hd
          have hdco : ∀ d ∈ ds, ∀ c ∈ d, c < 1114112 := fun d hd c hc => (signsR_ok (hxr _ ((hdc d hd).2 c hc))).1
          have hd9 : ∀ d ∈ ds, 9 ∉ d := fun d hd h => (signsR_ok (hxr _ ((hdc d hd).2 _ h))).2 rfl
          rw [hd] at P30 hdue
          obtain ⟨D30, vs30, c30, rfl, hfr30, hvs30⟩ := P30
          have N30 := News.freshes F29 N30 hfr30
          clear F29 N29 K30
          (try dsimp only)
          (try k_fold)
          k_steps
          rename Fr _ _ _ _ => F31
          rename News _ _ _ _ => N31
          unfold Hold
          refine (says_parted _ x _ (by omega)).use B0 F31 KX T0 rfl (by decide) (by decide) trivial ?_
          intro r32 h32 tk32 F32 K32 P32
          have N32 := News.lift N31 K32
          rw [hdue] at P32
          obtain ⟨D32, vs32, c32, rfl, hfr32, hvs32⟩ := P32
          have N32 := News.freshes F31 N32 hfr32
          clear F31 N31 K32
          (try dsimp only)
          (try k_fold)
          k_steps
          rename Fr _ _ _ _ => F33
          rename News _ _ _ _ => N33
          unfold Hold
          refine ne_texts N33 (.head _) (.tail _ (.head _)) hvs32 hvs30 hdco hdco (by exact Nat.le_of_ble_eq_true rfl) ?_
          intro b34 hb34
          have : b34 = false := by
            cases b34 with
            | false => rfl
            | true => exact absurd rfl (hb34.mp rfl)
          subst this
          have N33 := News.sub (news' := _ :: own) N33 (fun p hp => .tail _ hp)
          have hvl := hvs30.length
          clear N32 hfr30 hfr32
          (try dsimp only)
          (try k_fold)
          k_steps
          rename Fr _ _ _ _ => F34
          rename News _ _ _ _ => N34
          unfold Hold
          k_dflt (refine LCt.ListComp_T (F₀ := F34) (by rfl) (by decide) (by rfl) (by decide) (by rfl) ?_)
          k_steps
          unfold Hold
          refine LCt.CompSrcT.ledger (by rfl) F34 N34 (.head _) (by rw [List.size_toArray, sizeLine_eq]; omega) ?_
          intro g35
          refine compAllT (fun i ys => ys.length ≤ i ∧ (ys = [] → ∀ d ∈ ds.take i, 34 ∉ d)) ?_ _ 0 [] ⟨Nat.le_refl _, fun _ _ h => by simp at h⟩ ?_
          · intro i ys v I oI C oC D' m₂ h8 tk8 E' hR hv hC hx1 F8 N8 off
            obtain ⟨d, hdi, t36, rfl⟩ := hvs30.get (by simpa using hv)
            have hdz : (S d).length ≤ 9 := by
              rw [S_len]
              exact Nat.le_trans (hdc d (List.mem_of_getElem? hdi)).1 hxz
            (try k_fold)
            k_steps
            · have a1 := ‹(Builtin.Str.occurrences _ _ 0 _ 1).isEmpty = true›
              rw [lit_quote, noOcc_S, Bool.not_eq_true', decide_eq_false_iff_not] at a1
              refine LCg.CompEnd.intro (by assumption) N8 _ (fun _ h => h) off (.inr ⟨_, .head _, rfl, _, rfl⟩) ⟨rfl, by omega, fun e d' hd' => ?_⟩
              rw [List.take_add_one, hdi] at hd'
              rcases List.mem_append.mp hd' with h | h
              · exact hR.2 e d' h
              · rw [List.mem_singleton.mp h]; exact a1
            · exact LCg.CompEnd.intro (by assumption) N8 _ (fun _ h => h) off (.inr ⟨_, .head _, rfl, _, rfl⟩) ⟨rfl, by rw [List.length_append, List.length_singleton]; omega, fun e => by simp at e⟩
          · intro ys hR
            intro D9 h9 tk9 F9 N9 o9
            have hyz : ys.length ≤ 20 := by
              have := hR.1
              rw [List.size_toArray] at this; omega
            have hdsz : ds.length ≤ 10 := by omega
            have hd9l : ∀ d ∈ ds, d.length ≤ 20 := fun d hd => Nat.le_trans (hdc d hd).1 (by omega)
            clear N33 N34
            (try dsimp only)
            (try k_fold)
            k_steps
            · rename Fr _ _ _ _ => F50
              rename News _ _ _ _ => N50
              have hy0 : ys = [] := List.eq_nil_of_length_eq_zero (by omega)
              have hd34 : ∀ d ∈ ds, 34 ∉ d := fun d hd => by
                refine hR.2 hy0 d ?_
                rw [List.size_toArray, hvl, Nat.zero_add, List.take_length]; exact hd
              unfold Hold
              refine (says_written _ D30 vs30 ds _ _ hvs30 (by omega) hd9l).use B0 F50 KX T0 rfl (by decide) (by decide) (PyProof.Rows.News.isList N50 (.tail _ (.head _))) ?_
              rintro r51 h51 tk51 F51 K51 ⟨y2, ⟨t51, rfl⟩, hyw2⟩
              have N51 := News.lift N50 K51
              have N51 := News.sub (news' := _ :: own) N51 (fun p hp => .tail _ hp)
              have hyz2 := isWritten_len hyw2 (by omega) hd9l
              have htold2 := written_told hdn hd34 hd9 hyw2
              clear F50 N50 K51
              (try dsimp only)
              (try k_fold)
              k_steps
              rename Fr _ _ _ _ => F52
              rename News _ _ _ _ => N52
              unfold Hold
              refine (says_parted _ y2 _ hyz2).use B0 F52 KX T0 rfl (by decide) (by decide) trivial ?_
              intro r53 h53 tk53 F53 K53 P53
              have N53 := News.lift N52 K53
              rw [htold2] at P53
              obtain ⟨D53, vs53, c53, rfl, hfr53, hvs53⟩ := P53
              have N53 := News.freshes F52 N53 hfr53
              clear F52 N52 K53
              (try dsimp only)
              (try k_fold)
              k_steps
              rename Fr _ _ _ _ => F54
              rename News _ _ _ _ => N54
              unfold Hold
              refine ne_texts N54 (.head _) (.tail _ (.head _)) hvs53 hvs30 hdco hdco (by exact Nat.le_of_ble_eq_true rfl) ?_
              intro b54 hb54
              have : b54 = false := by
                cases b54 with
                | false => rfl
                | true => exact absurd rfl (hb54.mp rfl)
              subst this
              (try dsimp only)
              (try k_fold)
              k_steps
              rename Fr _ _ _ _ => F55
              rename News _ _ _ _ => N55
              exact turn_endU (news₂ := []) F55 N55 (fun q hq => (List.mem_append.mp hq).elim (fun h => .tail _ (.tail _ h)) (fun h => nomatch h)) (fun _ h => nomatch h) ⟨rfl, trivial⟩
            · rename Fr _ _ _ _ => F50
              rename News _ _ _ _ => N50
              exact turn_endU (news₂ := []) F50 N50 (fun q hq => (List.mem_append.mp hq).elim (fun h => .tail _ (.tail _ h)) (fun h => nomatch h)) (fun _ h => nomatch h) ⟨rfl, trivial⟩
      · rintro h7 tk7 m7 _ F7 N7 ⟨rfl, hkn⟩
        have F7 := hkn.fr F7
        (try dsimp only)
        (try k_fold)
        k_steps
        rename Fr _ _ _ _ => F40
        rename News _ _ _ _ => N40
        unfold Hold
        refine (says_value_whole _ _ _).use B0 F40 KX T0 rfl (by decide) (by decide) trivial ?_
        rintro r41 h41 tk41 F41 K41 ⟨t41, rfl⟩
        have N41 := News.lift N40 K41
        clear F40 N40 K41
        (try dsimp only)
        (try k_fold)
        k_steps
        rename Fr _ _ _ _ => F42
        rename News _ _ _ _ => N42
        unfold Hold
        refine (says_value_text _ _ _ _).use B0 F42 KX T0 rfl (by decide) (by decide) trivial ?_
        rintro r43 h43 tk43 F43 K43 ⟨t43, rfl⟩
        have N43 := News.lift N42 K43
        clear F42 N42 K43
        (try dsimp only)
        (try k_fold)
        k_steps))

end Mine
theorem PySem.Challenge.cw_pq0134_01_holds : PySem.Challenge.rw_pq0134_01.Holds :=
  Mine.lawH
