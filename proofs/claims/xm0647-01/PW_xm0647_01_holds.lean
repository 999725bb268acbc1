import PyProof.Rows.All
import Wide.All
import OpenK.AllK
import Wide.FinOn
import PySem.Challenge.RW_xm0647_01
open PySem PySem.W PySem.Calls PyProof.Rows
set_option Elab.async false
namespace Mine
section
set_option maxRecDepth 100000 in
set_option maxHeartbeats 8000000 in
open_top hd for PySem.Challenge.rw_xm0647_01
end
section
theorem fill : (fun (_ : OpenLaw) (_ : Params → Frag) => True) PySem.Challenge.rw_xm0647_01 Mine.hd.heap_39 := by
  k_fill
  trivial
/-- a call that only adds to the heap: what it hands back, at any caller's frame -/
abbrev Call0 (w : World) (mean : ExcName → Option Value) (mg mb : Str → Option Value) (k : Nat) (f : Addr) (vs : List Value) (R : Tok → Value) : Prop :=
  ∀ (dp un : Nat) (gd : Option (List Code)) (cn : Str) (cs : Scope) (a : Addr) (ccd : Value) (cl : List (Str × Addr)) (outer : List Env) (A₀ : Around) (base h₀ : Heap) (L : Addr) (m : Str → Option Value) (s : Shared) (Q E : Value → Shared → Prop),
    Below A₀ base outer h₀ → Fr h₀ L s.heap m → (Mine.hd.heap_39 w.params).In h₀ → Top Mine.hd.view_39 (looseW Mine.hd.view_39 []) mean mg mb h₀ → cs.kind = .function →
    dp + k < recursionLimit → un + 8 * k < cLine →
    (∀ (t : Tok) (h' : Heap) (tk' : Nat), (∀ b o, s.heap.get? b = some o → h'.get? b = some o) → Q (R t) { s with heap := h', toks := tk' }) →
      wpAny (model PySem.Challenge.rw_xm0647_01.row.prog w) (ktrTop dp un gd cn cs L a ccd cl outer) (call (.ref f) vs) Q E s
section
variable {prog : Program} {w : World} {A A₀ : Around} {E : Value → Shared → Prop} {s : Shared} {K : Frag} {L : Addr} {h₀ base : Heap} {m mg mb : Str → Option Value} {p : Program} {loose : List Str} {mean : ExcName → Option Value}
theorem enter0 {env : Env} {outer : List Env} {R : Result → Shared → Prop} {name qual : Str} {params : Arguments} {body : List Stmt} {scope : Scope} {dV kV doc pm cdv ct oc : Value} {an od : Option Addr} {osl : Array (Option Value)} {f : Addr} {args : Args} {binds : List (Str × Value)}
    (B : Below A₀ base outer h₀) (F : Fr h₀ L s.heap m) (X₀ : K.In h₀) (T : Top p loose mean mg mb h₀) (hA : A.frames = some (env :: outer)) (hf : env.frame = some L) (hke : env.scope.kind = .function)
    (ho : K.lookup f = some ⟨oc, od, .func (fnOf name qual params body scope dV kV doc pm an cdv ct), osl⟩) (hcd : codeIn K cdv qual = true) (hroom : A.depth < recursionLimit)
    (hbind : BindsTo s (fnOf name qual params body scope dV kV doc pm an cdv ct) args binds) (hloc : ∀ y ∈ binds, scope.names.lookup y.1 = some .local)
    (h : ∀ g L' h₁, g = s.heap → Fr g L' h₁ (fun y => binds.reverse.lookup y) → News g L' h₁ [] → Below A base (env :: outer) g → K.In g → Top p loose mean mg mb g →
      wpAny (model prog w) (A.deeper (envOf qual scope L' f cdv)) (execs body (envOf qual scope L' f cdv))
        (fun fl s' => R (.ok (.ret (match fl with | .ret v => v | _ => .none))) s')
        (fun e s' => wpAny (model prog w) (A.deeper (envOf qual scope L' f cdv)) (leaving (envOf qual scope L' f cdv) e) (fun _ s'' => R (.error e) s'') (fun e' s'' => R (.error e') s'') s')
        { s with heap := h₁, toks := s.toks + binds.length })
    (hco : scope.isCoroutine = false) (hgen : scope.isGenerator = false) (hk : scope.kind = .function)
    (hcell : ∀ x ∈ scope.names, x.2 ≠ .cell) : codeAny (model prog w) A (.call (.ref f) args) R s := by
  have B' := (groundX (R := R) B F News.nil hA hf hke).2.1
  refine codeAny_call_def (fd := fnX name qual params body scope [] dV kV doc pm an cdv ct) (body := body) (binds := binds) hroom ((X₀.keeps F.keep) _ _ ho) rfl (T.nolimit.keeps F.keep) (codeRec_of (X₀.keeps F.keep) hcd) rfl hbind hcell hloc (fun h₁ hns hk₁ => ?_) hco hgen hk
  exact h s.heap s.heap.objs.size h₁ rfl ⟨hns, hk₁, Nat.le_refl _⟩ News.nil B' (X₀.keeps F.keep) (T.keeps F.keep)
theorem enter0C {env : Env} {outer : List Env} {R : Result → Shared → Prop} {name qual : Str} {params : Arguments} {body : List Stmt} {scope : Scope} {dV kV doc pm cdv ct oc : Value} {an od : Option Addr} {osl : Array (Option Value)} {f : Addr} {args : Args} {binds : List (Str × Value)}
    (B : Below A₀ base outer h₀) (F : Fr h₀ L s.heap m) (X₀ : K.In h₀) (T : Top p loose mean mg mb h₀) (hA : A.frames = some (env :: outer)) (hf : env.frame = some L) (hke : env.scope.kind = .function)
    (ho : K.lookup f = some ⟨oc, od, .func (fnOf name qual params body scope dV kV doc pm an cdv ct), osl⟩) (hcd : codeIn K cdv qual = true) (hroom : A.depth < recursionLimit)
    (hbind : BindsTo s (fnOf name qual params body scope dV kV doc pm an cdv ct) args binds) (hkind : (binds.all fun y => scope.names.lookup y.1 == some .local || scope.names.lookup y.1 == some .cell) = true)
    (hnd : ((cellsFrom 0 scope.names []).map (·.1)).Nodup)
    (h : ∀ g L' h₁ tk cells, g = s.heap → Fr g L' h₁ (bindL (envOfC qual scope L' f cdv).kindOf binds fun _ => none) → News g L' h₁ cells →
      CellsAre (bindC (envOfC qual scope L' f cdv).kindOf binds fun _ => none) (cellsFrom (L' + 1) scope.names []) cells → Below A base (env :: outer) g → K.In g → Top p loose mean mg mb g →
      wpAny (model prog w) (A.deeper (envOfC qual scope L' f cdv)) (execs body (envOfC qual scope L' f cdv))
        (fun fl s' => R (.ok (.ret (match fl with | .ret v => v | _ => .none))) s')
        (fun e s' => wpAny (model prog w) (A.deeper (envOfC qual scope L' f cdv)) (leaving (envOfC qual scope L' f cdv) e) (fun _ s'' => R (.error e) s'') (fun e' s'' => R (.error e') s'') s')
        { s with heap := h₁, toks := tk })
    (hco : scope.isCoroutine = false) (hgen : scope.isGenerator = false) (hk : scope.kind = .function) : codeAny (model prog w) A (.call (.ref f) args) R s := by
  have B' := (groundX (R := R) B F News.nil hA hf hke).2.1
  refine codeAny_call_function hroom ((X₀.keeps F.keep) _ _ ho) rfl hco hgen rfl (codeRec_of (X₀.keeps F.keep) hcd) (hbind _ _ _ _ ?_)
  refine wpAny_newFunctionEnv_cells hk (kindsX hkind _) fun env' he s' x => ?_
  subst he
  refine ⟨(T.nolimit.keeps F.keep).keeps x.toInCall.keep, codeAny_func ?_⟩
  obtain ⟨h₁, tk, rfl, _⟩ := x.done
  have hk₁ := x.toInCall.keep
  obtain ⟨cells, NC, Y⟩ := Cl.news (h₀ := s.heap) (Nat.le_refl _) fun n c hm => ⟨x.cell n c (lookup_of_mem_nodup (cellsFrom_names scope.names 0 (s.heap.objs.size + 1) [] [] rfl ▸ hnd) hm), x.above n c hm⟩
  exact h s.heap s.heap.objs.size h₁ tk cells rfl ⟨x.toInCall.ns, hk₁, Nat.le_refl _⟩ NC Y B' (X₀.keeps F.keep) (T.keeps F.keep)
theorem ret0 {Q : Value → Shared → Prop} {R : Tok → Value} {g h' : Heap} {L' : Addr} {m' : Str → Option Value} {tk' : Nat} (t : Tok) {v : Value} (hret : ∀ (t : Tok) (h' : Heap) (tk' : Nat), (∀ b o, s.heap.get? b = some o → h'.get? b = some o) → Q (R t) { s with heap := h', toks := tk' })
    (hg : g = s.heap) (F : Fr g L' h' m') (e : v = R t) : Q v { s with heap := h', toks := tk' } := by
  subst e hg
  exact hret t h' tk' F.keep
end
end
section
open PySem.StrLaws PySem.Builtin PySem.Builtin.Str
/-- the signs' numbers -/
def tl (t : Str) : List Nat := t.cps.toList
theorem tl_length (t : Str) : (tl t).length = t.length := by simp [tl, Str.length]
theorem tl_inj {a b : Str} (h : tl a = tl b) : a = b := Str.ext' (Array.toList_inj.mp h)
theorem tl_append (a b : Str) : tl (a ++ b) = tl a ++ tl b := by simp [tl, Str.cps_append]
theorem tl_mk (l : List Nat) : tl ⟨l.toArray⟩ = l := rfl
theorem beq_tl (a b : Str) : (a == b) = (tl a == tl b) := by
  rw [Bool.eq_iff_iff, beq_iff_eq, beq_iff_eq]
  exact ⟨fun h => by rw [h], tl_inj⟩
theorem slice_sat (x : Str) (i : Option Int) (b : Int) (hb : (x.length : Int) ≤ b) : strSliceIndices i (some b) 1 x.length = strSliceIndices i (some (x.length : Int)) 1 x.length := by
  have e : (max 0 (min (if b < 0 then b + (x.length : Int) else b) (x.length : Int)) : Int) = max 0 (min (if (x.length : Int) < 0 then (x.length : Int) + (x.length : Int) else (x.length : Int)) (x.length : Int)) := by
    rw [if_neg (by omega), if_neg (by omega)]; omega
  simp only [strSliceIndices, show ((1 : Int) > 0) = True from by simp, if_true, e]
/-- a cut of a text, in signs -/
theorem tl_slice (x : Str) {a b : Int} (h0 : 0 ≤ a) (h1 : a ≤ b) (h2 : a ≤ (x.length : Int)) : tl (Txt.slice x (some a) (some b)) = ((tl x).drop a.toNat).take (b - a).toNat := by
  show tl (sliceText x (some a) (some b)) = _
  by_cases hb : b ≤ (x.length : Int)
  · rw [sliceText_plain ⟨h0, h1, by simpa [Str.length] using hb⟩]
    rfl
  · have e : sliceText x (some a) (some b) = sliceText x (some a) (some (x.length : Int)) := by
      unfold sliceText
      rw [slice_sat x _ b (by omega)]
    rw [e, sliceText_plain ⟨h0, h2, by simp [Str.length]⟩]
    show ((tl x).drop a.toNat).take ((x.length : Int) - a).toNat = ((tl x).drop a.toNat).take (b - a).toNat
    rw [List.take_of_length_le, List.take_of_length_le]
    · simp only [List.length_drop, tl_length]; omega
    · simp only [List.length_drop, tl_length]; omega
theorem tl_slice_from (x : Str) {a : Int} (h0 : 0 ≤ a) (h2 : a ≤ (x.length : Int)) : tl (Txt.slice x (some a) none) = (tl x).drop a.toNat := by
  show tl (sliceText x (some a) none) = _
  rw [sliceText_from ⟨h0, by simpa [Str.length] using h2⟩]
  show ((tl x).drop a.toNat).take _ = (tl x).drop a.toNat
  rw [List.take_of_length_le]
  have e : (x.cps.toList.length : Int) = x.length := by simp [Str.length]
  rw [e]
  simp only [List.length_drop, tl_length]; omega
/-- the mark y stands at place k -/
def sw (l y : List Nat) (k : Nat) : Bool := (l.drop k).take y.length == y
theorem sw_len {l y : List Nat} {k : Nat} (h : sw l y k = true) (hy : y ≠ []) : k + y.length ≤ l.length := by
  have h' := congrArg List.length (eq_of_beq h)
  rw [List.length_take, List.length_drop] at h'
  have : 0 < y.length := List.length_pos_iff.mpr hy
  omega
theorem slice_sw (x y : Str) {a : Int} {k : Int} (h0 : 0 ≤ a) (hk : k = (y.length : Int)) (h2 : a ≤ (x.length : Int)) : (Txt.slice x (some a) (some (a + k)) == y) = sw (tl x) (tl y) a.toNat := by
  rw [beq_tl, tl_slice x h0 (by omega) h2]
  unfold sw
  rw [tl_length]
  congr 3
  omega
theorem fromIndex_nat {len : Nat} {i : Int} (h0 : 0 ≤ i) : fromIndex len i = i.toNat := by
  unfold fromIndex
  rw [if_neg (by omega), Int.max_eq_right h0]
theorem subAt_sw (x y : Str) (k : Nat) : subAt x y k = sw (tl x) (tl y) k := by
  rw [subAt_eq]
  unfold sw tl
  have e : y.cps.toList.length = y.length := by simp [Str.length]
  rw [e]
theorem at_sw (x y : Str) (k : Nat) (hy : tl y ≠ []) : At x y x.length k ↔ sw (tl x) (tl y) k = true := by
  unfold At
  rw [subAt_sw]
  refine ⟨fun h => h.2, fun h => ⟨?_, h⟩⟩
  have := sw_len h hy
  rwa [tl_length, tl_length] at this
theorem startswith3_sw (x y : Str) {i : Int} (h0 : 0 ≤ i) (hy : tl y ≠ []) : Txt.startswith3 x y i = sw (tl x) (tl y) i.toNat := by
  unfold Txt.startswith3
  rw [fromIndex_nat h0, subAt_sw]
  cases h : sw (tl x) (tl y) i.toNat with
  | false => simp
  | true =>
    have := sw_len h hy
    rw [tl_length, tl_length] at this
    simp [this]
theorem find3_sw (x y : Str) {i : Int} (h0 : 0 ≤ i) (hy : tl y ≠ []) :
    (Txt.find3 x y i = -1 ∧ ∀ k, i.toNat ≤ k → sw (tl x) (tl y) k = false) ∨
    ∃ k : Nat, Txt.find3 x y i = (k : Int) ∧ i.toNat ≤ k ∧ sw (tl x) (tl y) k = true ∧ ∀ v, i.toNat ≤ v → v < k → sw (tl x) (tl y) v = false := by
  unfold Txt.find3
  rw [fromIndex_nat h0]
  rcases occ_head_from x y i.toNat 1 (Nat.le_refl 1) with ⟨e, hn⟩ | ⟨k, r, e, hlo, hk, hn⟩
  · rw [e]
    exact .inl ⟨rfl, fun k hk => by
      cases h : sw (tl x) (tl y) k with
      | false => rfl
      | true => exact absurd ((at_sw x y k hy).mpr h) (hn k hk)⟩
  · rw [e]
    refine .inr ⟨k, rfl, hlo, (at_sw x y k hy).mp hk, fun v h1 h2 => ?_⟩
    cases h : sw (tl x) (tl y) v with
    | false => rfl
    | true => exact absurd ((at_sw x y v hy).mpr h) (hn v h1 h2)

/-- how many signs stand up to behind the first mark y; all of them if there is none -/
def skipTo (y : List Nat) : List Nat → Nat
  | [] => 0
  | c :: r => if sw (c :: r) y 0 = true then y.length else skipTo y r + 1
theorem sw_succ (c : Nat) (r y : List Nat) (k : Nat) : sw (c :: r) y (k + 1) = sw r y k := by
  unfold sw; rw [List.drop_succ_cons]
theorem sw_drop (l y : List Nat) (a k : Nat) : sw (l.drop a) y k = sw l y (a + k) := by
  unfold sw; rw [List.drop_drop]
theorem skip_none {y : List Nat} : ∀ {l : List Nat}, (∀ k, sw l y k = false) → skipTo y l = l.length
  | [], _ => rfl
  | c :: r, h => by
    unfold skipTo
    rw [if_neg (by rw [h 0]; exact Bool.false_ne_true), skip_none (l := r) fun k => by rw [← sw_succ c r y k]; exact h (k + 1), List.length_cons]
theorem skip_at {y : List Nat} (hy : y ≠ []) : ∀ {l : List Nat} {k : Nat}, sw l y k = true → (∀ v, v < k → sw l y v = false) → skipTo y l = k + y.length
  | [], k, h, _ => by
    have h5 := sw_len h hy
    have h6 : 0 < y.length := List.length_pos_iff.mpr hy
    rw [List.length_nil] at h5
    omega
  | c :: r, 0, h, _ => by unfold skipTo; rw [if_pos h, Nat.zero_add]
  | c :: r, k + 1, h, hn => by
    unfold skipTo
    rw [if_neg (by rw [hn 0 (Nat.zero_lt_succ k)]; exact Bool.false_ne_true), skip_at hy (l := r) (k := k) (by rw [← sw_succ c r y k]; exact h) fun v hv => by rw [← sw_succ c r y v]; exact hn (v + 1) (Nat.succ_lt_succ hv)]
    omega
theorem skip_le (y : List Nat) (hy : y ≠ []) : ∀ l : List Nat, skipTo y l ≤ l.length
  | [] => Nat.le_refl 0
  | c :: r => by
    unfold skipTo
    split
    · rename_i h
      have := sw_len h hy
      omega
    · have := skip_le y hy r
      rw [List.length_cons]; omega
/-- the place behind the first mark at or behind j, the text's end if there is none -/
def closeAt (t y : Str) (j : Int) (k : Int) : Int := if Txt.find3 t y j < 0 then (t.length : Int) else Txt.find3 t y j + k
theorem closeAt_skip (t y : Str) {j k : Int} (h0 : 0 ≤ j) (h1 : j ≤ (t.length : Int)) (hy : tl y ≠ []) (hk : k = (y.length : Int)) : closeAt t y j k = j + (skipTo (tl y) ((tl t).drop j.toNat) : Nat) := by
  unfold closeAt
  rcases find3_sw t y h0 hy with ⟨e, hn⟩ | ⟨p, e, hlo, hp, hn⟩
  · rw [e, if_pos (by omega), skip_none fun v => by rw [sw_drop]; exact hn _ (Nat.le_add_right _ _), List.length_drop, tl_length]
    omega
  · have := skip_at hy (l := (tl t).drop j.toNat) (k := p - j.toNat) (by rw [sw_drop, show j.toNat + (p - j.toNat) = p by omega]; exact hp) fun v hv => by rw [sw_drop]; exact hn _ (Nat.le_add_right _ _) (by omega)
    rw [e, if_neg (by omega), this, tl_length, hk]
    omega
def keptEnd (t : Str) (i : Int) : Option Int :=
  if Txt.startswith3 t (Str.ofString "<![CDATA[") i = true then some (closeAt t (Str.ofString "]]>") (i + 9) 3)
  else if Txt.startswith3 t (Str.ofString "<!--") i = true then some (closeAt t (Str.ofString "-->") (i + 4) 3)
  else if Txt.startswith3 t (Str.ofString "<?") i = true then some (closeAt t (Str.ofString "?>") (i + 2) 2)
  else none
/-- the length of the part that begins at the head -/
def part (l : List Nat) : Option Nat :=
  if sw l [60, 33, 91, 67, 68, 65, 84, 65, 91] 0 = true then some (9 + skipTo [93, 93, 62] (l.drop 9))
  else if sw l [60, 33, 45, 45] 0 = true then some (4 + skipTo [45, 45, 62] (l.drop 4))
  else if sw l [60, 63] 0 = true then some (2 + skipTo [63, 62] (l.drop 2))
  else none
/-- no mark stands at a place from a to below b -/
def NoMark (t y : Str) (k a b : Int) : Prop := ∀ j : Int, a ≤ j → j < b → (Txt.slice t (some j) (some (j + k)) == y) = false
theorem NoMark.start (t y : Str) (k a : Int) : NoMark t y k a a := fun _ _ _ => by omega
theorem NoMark.step {t y : Str} {k a b : Int} (h : NoMark t y k a b) (e : (Txt.slice t (some b) (some (b + k)) != y) = true) : NoMark t y k a (b + 1) := fun j h1 h2 => by
  rcases Int.lt_or_eq_of_le (Int.lt_add_one_iff.mp h2) with h3 | rfl
  · exact h j h1 h3
  · simpa [bne] using e
theorem NoMark.sw {t y : Str} {k a b : Int} (h : NoMark t y k a b) (h0 : 0 ≤ a) (hk : k = (y.length : Int)) {v : Nat} (h1 : a.toNat ≤ v) (h2 : (v : Int) < b) (h3 : v ≤ t.length) : sw (tl t) (tl y) v = false := by
  have := h (v : Int) (by omega) h2
  rw [slice_sw t y (by omega) hk (by omega)] at this
  simpa using this
/-- the scan's end is the find's -/
theorem scan_end {t y : Str} {k a p : Int} (hy : tl y ≠ []) (hk : k = (y.length : Int)) (h0 : 0 ≤ a) (h1 : a ≤ (t.length : Int)) (hp : a ≤ p) (h : NoMark t y k a p) (hit : p < (t.length : Int) → (Txt.slice t (some p) (some (p + k)) != y) = false) :
    (if (t.length : Int) < p + k then (t.length : Int) else p + k) = closeAt t y a k := by
  have hyl : 0 < y.length := by rw [← tl_length]; exact List.length_pos_iff.mpr hy
  unfold closeAt
  by_cases hlt : p < (t.length : Int)
  · have e : sw (tl t) (tl y) p.toNat = true := by
      rw [← slice_sw t y (by omega) hk (by omega)]
      simpa [bne] using hit hlt
    have hl := sw_len e hy
    rw [tl_length, tl_length] at hl
    rw [if_neg (by omega)]
    rcases find3_sw t y h0 hy with ⟨_, hn⟩ | ⟨q, eq, hlo, hq, hn⟩
    · rw [hn p.toNat (by omega)] at e; cases e
    · have hql := sw_len hq hy
      rw [tl_length, tl_length] at hql
      have h3 : ¬ (q < p.toNat) := fun hlt' => by
        have := h.sw h0 hk (v := q) hlo (by omega) (by omega)
        rw [this] at hq; cases hq
      have h4 : ¬ (p.toNat < q) := fun hlt' => by
        have := hn p.toNat (by omega) hlt'
        rw [this] at e; cases e
      rw [eq, if_neg (by omega)]
      omega
  · rw [if_pos (by omega)]
    rcases find3_sw t y h0 hy with ⟨eq, hn⟩ | ⟨q, eq, hlo, hq, hn⟩
    · rw [eq, if_pos (by omega)]
    · have hql := sw_len hq hy
      rw [tl_length, tl_length] at hql
      have := h.sw h0 hk (v := q) hlo (by omega) (by omega)
      rw [this] at hq; cases hq
theorem lit_ne {s : String} {c : Nat} {r : List Nat} (h : tl (Str.ofString s) = c :: r) : tl (Str.ofString s) ≠ [] := by rw [h]; exact List.cons_ne_nil _ _
theorem tl_A : tl (Str.ofString "<![CDATA[") = [60, 33, 91, 67, 68, 65, 84, 65, 91] := by decide +kernel
theorem tl_A' : tl (Str.ofString "]]>") = [93, 93, 62] := by decide +kernel
theorem tl_B : tl (Str.ofString "<!--") = [60, 33, 45, 45] := by decide +kernel
theorem tl_B' : tl (Str.ofString "-->") = [45, 45, 62] := by decide +kernel
theorem tl_C : tl (Str.ofString "<?") = [60, 63] := by decide +kernel
theorem tl_C' : tl (Str.ofString "?>") = [63, 62] := by decide +kernel
theorem len_of_tl {t : Str} {l : List Nat} (h : tl t = l) : t.length = l.length := by rw [← tl_length, h]

theorem part_none_of {l : List Nat} (h1 : sw l [60, 33, 91, 67, 68, 65, 84, 65, 91] 0 = false) (h2 : sw l [60, 33, 45, 45] 0 = false) (h3 : sw l [60, 63] 0 = false) : part l = none := by
  unfold part; rw [h1, h2, h3]; rfl
theorem keptEnd_part (t : Str) {i : Int} (h0 : 0 ≤ i) (h1 : i ≤ (t.length : Int)) : keptEnd t i = (part ((tl t).drop i.toNat)).map fun k : Nat => i + (k : Int) := by
  unfold keptEnd part
  rw [startswith3_sw t _ h0 (lit_ne tl_A), startswith3_sw t _ h0 (lit_ne tl_B), startswith3_sw t _ h0 (lit_ne tl_C), tl_A, tl_B, tl_C, sw_drop, sw_drop, sw_drop, Nat.add_zero]
  by_cases a : sw (tl t) [60, 33, 91, 67, 68, 65, 84, 65, 91] i.toNat = true
  · have hl := sw_len a (by simp)
    rw [tl_length] at hl
    simp only [List.length_cons, List.length_nil] at hl
    rw [if_pos a, if_pos a, closeAt_skip t _ (by omega) (by omega) (lit_ne tl_A') (by rw [len_of_tl tl_A']; rfl), tl_A', List.drop_drop, show (i + 9).toNat = i.toNat + 9 by omega, Option.map_some, Option.some.injEq]
    omega
  rw [if_neg a, if_neg a]
  by_cases b : sw (tl t) [60, 33, 45, 45] i.toNat = true
  · have hl := sw_len b (by simp)
    rw [tl_length] at hl
    simp only [List.length_cons, List.length_nil] at hl
    rw [if_pos b, if_pos b, closeAt_skip t _ (by omega) (by omega) (lit_ne tl_B') (by rw [len_of_tl tl_B']; rfl), tl_B', List.drop_drop, show (i + 4).toNat = i.toNat + 4 by omega, Option.map_some, Option.some.injEq]
    omega
  rw [if_neg b, if_neg b]
  by_cases c : sw (tl t) [60, 63] i.toNat = true
  · have hl := sw_len c (by simp)
    rw [tl_length] at hl
    simp only [List.length_cons, List.length_nil] at hl
    rw [if_pos c, if_pos c, closeAt_skip t _ (by omega) (by omega) (lit_ne tl_C') (by rw [len_of_tl tl_C']; rfl), tl_C', List.drop_drop, show (i + 2).toNat = i.toNat + 2 by omega, Option.map_some, Option.some.injEq]
    omega
  rw [if_neg c, if_neg c]
  rfl
theorem part_bounds {l : List Nat} {k : Nat} (h : part l = some k) : 2 ≤ k ∧ k ≤ l.length := by
  unfold part at h
  split at h
  · rename_i a
    have hl := sw_len a (by simp)
    simp only [List.length_cons, List.length_nil] at hl
    have := skip_le [93, 93, 62] (by simp) (l.drop 9)
    rw [List.length_drop] at this
    have e := Option.some.inj h
    omega
  split at h
  · rename_i a
    have hl := sw_len a (by simp)
    simp only [List.length_cons, List.length_nil] at hl
    have := skip_le [45, 45, 62] (by simp) (l.drop 4)
    rw [List.length_drop] at this
    have e := Option.some.inj h
    omega
  split at h
  · rename_i a
    have hl := sw_len a (by simp)
    simp only [List.length_cons, List.length_nil] at hl
    have := skip_le [63, 62] (by simp) (l.drop 2)
    rw [List.length_drop] at this
    have e := Option.some.inj h
    omega
  cases h
theorem sw_head {c d : Nat} {r y : List Nat} (h : c ≠ d) : sw (c :: r) (d :: y) 0 = false := by
  unfold sw
  rw [List.drop_zero, List.length_cons, List.take_succ_cons]
  simp [h]
theorem part_head {c : Nat} {r : List Nat} (h : c ≠ 60) : part (c :: r) = none := part_none_of (sw_head h) (sw_head h) (sw_head h)
/-- what is left of a text: s signs are still to be blanked -/
def leftS : Nat → List Nat → List Nat
  | _, [] => []
  | s + 1, _ :: r => 32 :: leftS s r
  | 0, c :: r => match part (c :: r) with
    | none => c :: leftS 0 r
    | some k => 32 :: leftS (k - 1) r
theorem leftS_skip : ∀ (l : List Nat) (s : Nat), s ≤ l.length → leftS s l = List.replicate s 32 ++ leftS 0 (l.drop s)
  | _, 0, _ => by rw [List.replicate_zero, List.nil_append, List.drop_zero]
  | [], s + 1, h => by simp at h
  | _ :: r, s + 1, h => by
    have ih := leftS_skip r s (by simpa using h)
    rw [List.replicate_succ, List.cons_append, List.drop_succ_cons, ← ih]
    rfl
theorem left_none {l : List Nat} {i c : Nat} (hc : l[i]? = some c) (h : part (l.drop i) = none) : leftS 0 (l.drop i) = c :: leftS 0 (l.drop (i + 1)) := by
  obtain ⟨hi, e⟩ := List.getElem?_eq_some_iff.mp hc
  have ed : l.drop i = c :: l.drop (i + 1) := by rw [List.drop_eq_getElem_cons hi, e]
  rw [ed] at h
  rw [ed]
  conv => lhs; unfold leftS
  rw [h]
theorem left_some {l : List Nat} {k : Nat} (h : part l = some k) : leftS 0 l = List.replicate k 32 ++ leftS 0 (l.drop k) := by
  have hb := part_bounds h
  cases l with
  | nil => simp at hb; omega
  | cons c r =>
    conv => lhs; unfold leftS
    rw [h]
    have hs := leftS_skip r (k - 1) (by simp at hb; omega)
    show 32 :: leftS (k - 1) r = _
    rw [hs, show k = (k - 1) + 1 by omega, List.replicate_succ, List.cons_append, List.drop_succ_cons, Nat.add_sub_cancel]
/-- signs that open nothing stay -/
theorem left_free : ∀ (k : Nat) {l : List Nat}, k ≤ l.length → (∀ v, v < k → l[v]? ≠ some 60) → leftS 0 l = l.take k ++ leftS 0 (l.drop k)
  | 0, l, _, _ => by rw [List.take_zero, List.nil_append, List.drop_zero]
  | k + 1, [], h, _ => by simp at h
  | k + 1, c :: r, h, hn => by
    have ih := left_free k (l := r) (by simpa using h) fun v hv => by
      have := hn (v + 1) (Nat.succ_lt_succ hv)
      rwa [List.getElem?_cons_succ] at this
    have hc : c ≠ 60 := fun e => hn 0 (Nat.zero_lt_succ k) (by rw [e]; rfl)
    have := left_none (l := c :: r) (i := 0) (c := c) rfl (part_head hc)
    rw [List.drop_zero] at this
    rw [this, List.take_succ_cons, List.cons_append, List.drop_succ_cons]
    simpa using ih
def leftOf (t : Str) : Str := ⟨(leftS 0 (tl t)).toArray⟩
theorem tl_leftOf (t : Str) : tl (leftOf t) = leftS 0 (tl t) := rfl
def LeftInv (t f : Str) : Prop := tl f ++ leftS 0 ((tl t).drop f.length) = leftS 0 (tl t)
theorem LeftInv.start (t : Str) : LeftInv t (Str.ofString "") := by
  have e : tl (Str.ofString "") = [] := by decide +kernel
  unfold LeftInv
  rw [e, len_of_tl e]
  simp
theorem item_tl {t : Str} {i : Int} (h0 : 0 ≤ i) (h : i < (t.length : Int)) : ∃ c, (tl t)[i.toNat]? = some c ∧ tl (Txt.item t i) = [c] := by
  obtain ⟨n, hn⟩ := some_at (x := t) h0 h
  refine ⟨n, by simpa [tl] using hn, ?_⟩
  unfold Txt.item
  have e : Txt.charAt t i = some n := at_nonneg h0 hn
  rw [e]
  rfl
theorem keptEnd_bounds {t : Str} {i v : Int} (h0 : 0 ≤ i) (h1 : i ≤ (t.length : Int)) (h : keptEnd t i = some v) : i + 2 ≤ v ∧ v ≤ (t.length : Int) := by
  rw [keptEnd_part t h0 h1] at h
  obtain ⟨k, hk, e⟩ := Option.map_eq_some_iff.mp h
  have := part_bounds hk
  rw [List.length_drop, tl_length] at this
  omega
theorem LeftInv.one {t f : Str} (h : LeftInv t f) (hlt : (f.length : Int) < (t.length : Int)) (hke : keptEnd t (f.length : Int) = none) : LeftInv t (f ++ Txt.item t (f.length : Int)) := by
  obtain ⟨c, hc, e⟩ := item_tl (t := t) (i := (f.length : Int)) (by omega) hlt
  rw [keptEnd_part t (by omega) (by omega), Option.map_eq_none_iff] at hke
  unfold LeftInv at h ⊢
  have hi : ((f.length : Nat) : Int).toNat = f.length := by omega
  rw [hi] at hc hke
  rw [← h, tl_append, e, left_none hc hke, Str.length_append, show (Txt.item t (f.length : Int)).length = 1 from by rw [← tl_length, e]; rfl, List.append_assoc]
  rfl
theorem tl_blanks (n : Int) : tl (Txt.mul (Str.ofString " ") n) = List.replicate n.toNat 32 := by
  have e : Str.ofString " " = ⟨#[32]⟩ := by decide +kernel
  rw [e]
  exact mul_one_list 32 n
theorem LeftInv.more {t f : Str} {v : Int} (h : LeftInv t f) (hlt : (f.length : Int) < (t.length : Int)) (hke : keptEnd t (f.length : Int) = some v) : LeftInv t (f ++ Txt.mul (Str.ofString " ") (v - (f.length : Int))) := by
  rw [keptEnd_part t (by omega) (by omega)] at hke
  obtain ⟨k, hk, e⟩ := Option.map_eq_some_iff.mp hke
  unfold LeftInv at h ⊢
  have hi : ((f.length : Nat) : Int).toNat = f.length := by omega
  rw [hi] at hk
  have ek : (v - (f.length : Int)).toNat = k := by omega
  rw [← h, tl_append, tl_blanks, ek, left_some hk, List.drop_drop, Str.length_append, show (Txt.mul (Str.ofString " ") (v - (f.length : Int))).length = k from by rw [← tl_length, tl_blanks, ek, List.length_replicate], List.append_assoc]
theorem LeftInv.done {t f : Str} (h : LeftInv t f) (hge : ¬ (f.length : Int) < (t.length : Int)) : f = leftOf t := by
  unfold LeftInv at h
  rw [List.drop_eq_nil_of_le (by rw [tl_length]; omega)] at h
  refine tl_inj ?_
  rw [tl_leftOf, ← h]
  simp [leftS]

theorem len_item1 {t : Str} {i : Int} (h0 : 0 ≤ i) (h : i < (t.length : Int)) : (Txt.item t i).length = 1 := by
  obtain ⟨c, _, e⟩ := item_tl h0 h
  rw [← tl_length, e]; rfl
theorem len_blanks (n : Int) : (Txt.mul (Str.ofString " ") n).length = n.toNat := by rw [← tl_length, tl_blanks, List.length_replicate]
theorem len_nil : (Str.ofString "").length = 0 := by decide +kernel
theorem left_start (t : Str) : (Str.ofString "").length ≤ t.length ∧ LeftInv t (Str.ofString "") := ⟨by rw [len_nil]; exact Nat.zero_le _, LeftInv.start t⟩
theorem left_one {t f : Str} (h : LeftInv t f) (hlt : (f.length : Int) < (t.length : Int)) (hke : keptEnd t (f.length : Int) = none) : (f ++ Txt.item t (f.length : Int)).length ≤ t.length ∧ LeftInv t (f ++ Txt.item t (f.length : Int)) :=
  ⟨by rw [Str.length_append, len_item1 (by omega) hlt]; omega, h.one hlt hke⟩
theorem left_one_m {t f : Str} (hlt : (f.length : Int) < (t.length : Int)) : t.length - (f ++ Txt.item t (f.length : Int)).length < t.length - f.length := by
  rw [Str.length_append, len_item1 (by omega) hlt]; omega
theorem left_more {t f : Str} {v : Int} (h : LeftInv t f) (hlt : (f.length : Int) < (t.length : Int)) (hke : keptEnd t (f.length : Int) = some v) : (f ++ Txt.mul (Str.ofString " ") (v - (f.length : Int))).length ≤ t.length ∧ LeftInv t (f ++ Txt.mul (Str.ofString " ") (v - (f.length : Int))) := by
  have hb := keptEnd_bounds (by omega) (by omega) hke
  exact ⟨by rw [Str.length_append, len_blanks]; omega, h.more hlt hke⟩
theorem left_more_m {t f : Str} {v : Int} (hlt : (f.length : Int) < (t.length : Int)) (hke : keptEnd t (f.length : Int) = some v) : t.length - (f ++ Txt.mul (Str.ofString " ") (v - (f.length : Int))).length < t.length - f.length := by
  have hb := keptEnd_bounds (by omega) (by omega) hke
  rw [Str.length_append, len_blanks]; omega
theorem len_leftS : ∀ (l : List Nat) (s : Nat), (leftS s l).length = l.length
  | [], s => by unfold leftS; rfl
  | c :: r, s + 1 => by unfold leftS; rw [List.length_cons, len_leftS r s, List.length_cons]
  | c :: r, 0 => by
    unfold leftS
    split
    · rw [List.length_cons, len_leftS r 0, List.length_cons]
    · rw [List.length_cons, len_leftS r _, List.length_cons]
theorem len_leftOf (t : Str) : (leftOf t).length = t.length := by rw [← tl_length, tl_leftOf, len_leftS, tl_length]
theorem keptEnd_posts {t : Str} {i : Int} (h0 : 0 ≤ i) (h1 : i ≤ (t.length : Int)) : ∀ v, keptEnd t i = some v → i + 2 ≤ v ∧ v ≤ (t.length : Int) := fun _ h => keptEnd_bounds h0 h1 h
end
section
def optV (o : Option Int) (k : Tok) : Value := match o with | none => .none | some e => .int e k
theorem optV_some {o : Option Int} {e : Int} (k : Tok) (h : o = some e) : Value.int e k = optV o k := by rw [h]; rfl
theorem optV_none {o : Option Int} (k : Tok) (h : o = none) : Value.none = optV o k := by rw [h]; rfl
set_option maxRecDepth 100000 in
set_option maxHeartbeats 8000000 in
theorem kept_end_call {w : World} {mean : ExcName → Option Value} {mg mb : Str → Option Value} (t : Str) (tt : Tok) (i : Int) (ti : Tok) (hi0 : 0 ≤ i) (hi1 : i ≤ (t.length : Int)) (hlen : t.length ≤ 10000) :
    Call0 w mean mg mb 3 32 [.str t tt, .int i ti] (fun k => optV (keptEnd t i) k) := by
  intro dp un gd cn cs a ccd cl outer A₀ base h₀ L m s Q E B F X T hk hdp hun hret
  w_top off
  refine wpAny_call ?_
  k_dflt (refine' enter0 (binds := [(Str.ofString "text", Value.str t tt), (Str.ofString "at", Value.int i ti)]) ?k1 ?k2 ?k3 ?k5 ?kA ?kF ?kK ?k6 ?k7 ?k8 ?k9 ?kB ?_ ?c2 ?c3 ?c4 ?c5; (case kA => exact rfl); (case kF => exact rfl); (case kK => assumption); (case k1 => k_asm); (case k2 => k_asm); (case k3 => k_asm); (case k5 => k_asm); (case k6 => k_is); (case k7 => k_is); (case k8 => ktr_room); (case k9 => exact BindsTo.of_eq rfl); (case c5 => decide); (case kB => exact locs rfl); (case c2 => exact rfl); (case c3 => exact rfl); (case c4 => exact rfl); k_whole)
  intro g L' h1 hg F' N' B' X' T'
  (try dsimp only)
  (try k_fold)
  k_steps
  all_goals (try dsimp only)
  all_goals (try k_unfold)
  all_goals (try dsimp only)
  all_goals first
    | (refine ret0 _ hret hg (by assumption) (optV_some _ ?_); simp_all [keptEnd, closeAt, -Int.not_lt]; done)
    | (refine ret0 0 hret hg (by assumption) (optV_none _ ?_); simp_all [keptEnd, closeAt]; done)
end
section
theorem bne_false_of_eq {α : Type} [BEq α] {a b : α} (h : (a == b) = true) : (a != b) = false := by simp [bne, h]
/-- the cut at i is the mark: as startswith says it, and room for it -/
theorem cut_mark {t : Str} {i k : Int} {s : String} {b : Bool} (h0 : 0 ≤ i) (h1 : i ≤ (t.length : Int)) (hy : tl (Str.ofString s) ≠ []) (hk : k = ((Str.ofString s).length : Int)) (h : (Txt.slice t (some i) (some (i + k)) == Str.ofString s) = b) : Txt.startswith3 t (Str.ofString s) i = b := by
  rw [startswith3_sw t _ h0 hy, ← slice_sw t _ h0 hk h1]; exact h
theorem cut_room {t : Str} {i k : Int} {s : String} (h0 : 0 ≤ i) (h1 : i ≤ (t.length : Int)) (hy : tl (Str.ofString s) ≠ []) (hk : k = ((Str.ofString s).length : Int)) (h : (Txt.slice t (some i) (some (i + k)) == Str.ofString s) = true) : i + k ≤ (t.length : Int) := by
  rw [slice_sw t _ h0 hk h1] at h
  have := sw_len h hy
  rw [tl_length, tl_length] at this
  omega
section
variable {t : Str} {i p : Int} (h0 : 0 ≤ i) (h1 : i ≤ (t.length : Int))
include h0 h1
theorem end_A (a : (Txt.slice t (some i) (some (i + ((9 : Nat) : Int))) == Str.ofString "<![CDATA[") = true) (hp : i + 9 ≤ p) (h : NoMark t (Str.ofString "]]>") 3 (i + 9) p) (hit : p < (t.length : Int) → (Txt.slice t (some p) (some (p + ((3 : Nat) : Int))) != Str.ofString "]]>") = false) :
    keptEnd t i = some (if (t.length : Int) < p + ((3 : Nat) : Int) then (t.length : Int) else p + ((3 : Nat) : Int)) := by
  have k9 : ((9 : Nat) : Int) = ((Str.ofString "<![CDATA[").length : Int) := by rw [len_of_tl tl_A]; rfl
  have ha := cut_mark h0 h1 (lit_ne tl_A) k9 a
  have hr := cut_room h0 h1 (lit_ne tl_A) k9 a
  unfold keptEnd
  rw [if_pos ha, ← scan_end (lit_ne tl_A') (by rw [len_of_tl tl_A']; rfl) (by omega) (by omega) hp h hit]
  rfl
theorem end_B (a' : (Txt.slice t (some i) (some (i + ((9 : Nat) : Int))) == Str.ofString "<![CDATA[") = false) (a : (Txt.slice t (some i) (some (i + ((4 : Nat) : Int))) == Str.ofString "<!--") = true) (hp : i + 4 ≤ p) (h : NoMark t (Str.ofString "-->") 3 (i + 4) p) (hit : p < (t.length : Int) → (Txt.slice t (some p) (some (p + ((3 : Nat) : Int))) != Str.ofString "-->") = false) :
    keptEnd t i = some (if (t.length : Int) < p + ((3 : Nat) : Int) then (t.length : Int) else p + ((3 : Nat) : Int)) := by
  have k9 : ((9 : Nat) : Int) = ((Str.ofString "<![CDATA[").length : Int) := by rw [len_of_tl tl_A]; rfl
  have k4 : ((4 : Nat) : Int) = ((Str.ofString "<!--").length : Int) := by rw [len_of_tl tl_B]; rfl
  have ha' := cut_mark h0 h1 (lit_ne tl_A) k9 a'
  have ha := cut_mark h0 h1 (lit_ne tl_B) k4 a
  have hr := cut_room h0 h1 (lit_ne tl_B) k4 a
  unfold keptEnd
  rw [if_neg (by rw [ha']; exact Bool.false_ne_true), if_pos ha, ← scan_end (lit_ne tl_B') (by rw [len_of_tl tl_B']; rfl) (by omega) (by omega) hp h hit]
  rfl
theorem end_C (a' : (Txt.slice t (some i) (some (i + ((9 : Nat) : Int))) == Str.ofString "<![CDATA[") = false) (a'' : (Txt.slice t (some i) (some (i + ((4 : Nat) : Int))) == Str.ofString "<!--") = false) (a : (Txt.slice t (some i) (some (i + ((2 : Nat) : Int))) == Str.ofString "<?") = true) (hp : i + 2 ≤ p) (h : NoMark t (Str.ofString "?>") 2 (i + 2) p) (hit : p < (t.length : Int) → (Txt.slice t (some p) (some (p + ((2 : Nat) : Int))) != Str.ofString "?>") = false) :
    keptEnd t i = some (if (t.length : Int) < p + ((2 : Nat) : Int) then (t.length : Int) else p + ((2 : Nat) : Int)) := by
  have k9 : ((9 : Nat) : Int) = ((Str.ofString "<![CDATA[").length : Int) := by rw [len_of_tl tl_A]; rfl
  have k4 : ((4 : Nat) : Int) = ((Str.ofString "<!--").length : Int) := by rw [len_of_tl tl_B]; rfl
  have k2 : ((2 : Nat) : Int) = ((Str.ofString "<?").length : Int) := by rw [len_of_tl tl_C]; rfl
  have ha' := cut_mark h0 h1 (lit_ne tl_A) k9 a'
  have ha'' := cut_mark h0 h1 (lit_ne tl_B) k4 a''
  have ha := cut_mark h0 h1 (lit_ne tl_C) k2 a
  have hr := cut_room h0 h1 (lit_ne tl_C) k2 a
  unfold keptEnd
  rw [if_neg (by rw [ha']; exact Bool.false_ne_true), if_neg (by rw [ha'']; exact Bool.false_ne_true), if_pos ha, ← scan_end (lit_ne tl_C') (by rw [len_of_tl tl_C']; rfl) (by omega) (by omega) hp h hit]
  rfl
theorem end_D (a' : (Txt.slice t (some i) (some (i + ((9 : Nat) : Int))) == Str.ofString "<![CDATA[") = false) (a'' : (Txt.slice t (some i) (some (i + ((4 : Nat) : Int))) == Str.ofString "<!--") = false) (a : (Txt.slice t (some i) (some (i + ((2 : Nat) : Int))) == Str.ofString "<?") = false) :
    keptEnd t i = none := by
  have k9 : ((9 : Nat) : Int) = ((Str.ofString "<![CDATA[").length : Int) := by rw [len_of_tl tl_A]; rfl
  have k4 : ((4 : Nat) : Int) = ((Str.ofString "<!--").length : Int) := by rw [len_of_tl tl_B]; rfl
  have k2 : ((2 : Nat) : Int) = ((Str.ofString "<?").length : Int) := by rw [len_of_tl tl_C]; rfl
  have ha' := cut_mark h0 h1 (lit_ne tl_A) k9 a'
  have ha'' := cut_mark h0 h1 (lit_ne tl_B) k4 a''
  have ha := cut_mark h0 h1 (lit_ne tl_C) k2 a
  unfold keptEnd
  rw [if_neg (by rw [ha']; exact Bool.false_ne_true), if_neg (by rw [ha'']; exact Bool.false_ne_true), if_neg (by rw [ha]; exact Bool.false_ne_true)]
end
set_option maxRecDepth 100000 in
set_option maxHeartbeats 8000000 in
theorem law_end_call {w : World} {mean : ExcName → Option Value} {mg mb : Str → Option Value} (t : Str) (tt : Tok) (i : Int) (ti : Tok) (hi0 : 0 ≤ i) (hi1 : i ≤ (t.length : Int)) (hlen : t.length ≤ 10000) :
    Call0 w mean mg mb 3 67 [.str t tt, .int i ti] (fun k => optV (keptEnd t i) k) := by
  k_with_none
  k_with "exec While BoolOp cons nil" => k_while (fun script place => i + 2 ≤ place ∧ NoMark t (Str.ofString "?>") 2 (i + 2) place) (fun script place => (t.length - place).toNat) "place"
  k_with "exec While BoolOp cons nil" => k_while (fun script place => i + 4 ≤ place ∧ NoMark t (Str.ofString "-->") 3 (i + 4) place) (fun script place => (t.length - place).toNat) "place"
  k_with "exec While BoolOp cons nil" => k_while (fun script place => i + 9 ≤ place ∧ NoMark t (Str.ofString "]]>") 3 (i + 9) place) (fun script place => (t.length - place).toNat) "place"
  k_with "state" => exact ⟨by omega, NoMark.start _ _ _ _⟩
  k_with "state" => exact ⟨by omega, NoMark.step (by assumption) (by assumption)⟩
  intro dp un gd cn cs a ccd cl outer A₀ base h₀ L m s Q E B F X T hk hdp hun hret
  w_top off
  refine wpAny_call ?_
  k_dflt (refine' enter0 (binds := [(Str.ofString "text", Value.str t tt), (Str.ofString "at", Value.int i ti)]) ?k1 ?k2 ?k3 ?k5 ?kA ?kF ?kK ?k6 ?k7 ?k8 ?k9 ?kB ?_ ?c2 ?c3 ?c4 ?c5; (case kA => exact rfl); (case kF => exact rfl); (case kK => assumption); (case k1 => k_asm); (case k2 => k_asm); (case k3 => k_asm); (case k5 => k_asm); (case k6 => k_is); (case k7 => k_is); (case k8 => ktr_room); (case k9 => exact BindsTo.of_eq rfl); (case c5 => decide); (case kB => exact locs rfl); (case c2 => exact rfl); (case c3 => exact rfl); (case c4 => exact rfl); k_whole)
  intro g L' h1 hg F' N' B' X' T'
  (try dsimp only)
  (try k_fold)
  k_steps
  all_goals (try dsimp only)
  all_goals (try k_unfold)
  all_goals (try dsimp only)
  all_goals first
    | (refine ret0 _ hret hg (by assumption) (optV_some _ (end_A hi0 hi1 (by assumption) (by assumption) (by assumption) ?_)); (first | (intro _; assumption) | (intro _; exact absurd (by assumption) (by assumption))))
    | (refine ret0 _ hret hg (by assumption) (optV_some _ (end_B hi0 hi1 (by assumption) (by assumption) (by assumption) (by assumption) ?_)); (first | (intro _; assumption) | (intro _; exact absurd (by assumption) (by assumption))))
    | (refine ret0 _ hret hg (by assumption) (optV_some _ (end_C hi0 hi1 (by assumption) (by assumption) (by assumption) (by assumption) (by assumption) ?_)); (first | (intro _; assumption) | (intro _; exact absurd (by assumption) (by assumption))))
    | exact ret0 0 hret hg (by assumption) (optV_none _ (end_D hi0 hi1 (by assumption) (by assumption) (by assumption)))
  k_with_none
end
section
set_option maxRecDepth 100000 in
set_option maxHeartbeats 8000000 in
theorem law_left_call {w : World} {mean : ExcName → Option Value} {mg mb : Str → Option Value} (t : Str) (tt : Tok) (hlen : t.length ≤ 10000) :
    Call0 w mean mg mb 6 74 [.str t tt] (fun k => .str (leftOf t) k) := by
  k_with_none
  k_with "exec While Compare cons nil" => k_while (fun script found => found.length ≤ t.length ∧ LeftInv t found) (fun script found => (t.length - found.length)) "found"
  k_with "call ref" => (k_here; (refine' law_end_call _ _ _ _ ?h0 ?h1 ?h2 _ _ _ _ _ _ _ _ _ _ _ _ _ _ _ _ _ ?kB ?kF ?kX ?kT ?kK ?kd ?ku ?kR); (case h0 => omega); (case h1 => omega); (case h2 => assumption); (case kB => k_asm); (case kF => k_asm); (case kX => k_asm); (case kT => k_asm); (case kK => exact rfl); (case kd => ktr_room); (case ku => ktr_units); intro t9 h9 tk9 hk9; (have F9 := Fr.keeps (by assumption) hk9); (have N9 := News.grown (by assumption) hk9); (rcases hke : keptEnd t _ with _ | v9 <;> dsimp only [optV]); (all_goals (try (have hb9 := keptEnd_bounds (by omega) (by omega) hke))); (all_goals (try k_fold)))
  k_with "subscriptTail Name Call str int" => (refine item_str (fitsSsize_of (N := 9223372036854775808) (by omega) (by omega) (Int.le_refl _)) (by omega) (by omega) ?_; intro hit9)
  k_with "state" => exact left_start t
  k_with "state" => exact left_one (by assumption) (by assumption) (by assumption)
  k_with "state" => exact left_more (by assumption) (by assumption) (by assumption)
  k_with "measure" => exact left_one_m (by assumption)
  k_with "measure" => exact left_more_m (by assumption) (by assumption)
  intro dp un gd cn cs a ccd cl outer A₀ base h₀ L m s Q E B F X T hk hdp hun hret
  w_top off
  refine wpAny_call ?_
  k_dflt (refine' enter0 (binds := [(Str.ofString "text", Value.str t tt)]) ?k1 ?k2 ?k3 ?k5 ?kA ?kF ?kK ?k6 ?k7 ?k8 ?k9 ?kB ?_ ?c2 ?c3 ?c4 ?c5; (case kA => exact rfl); (case kF => exact rfl); (case kK => assumption); (case k1 => k_asm); (case k2 => k_asm); (case k3 => k_asm); (case k5 => k_asm); (case k6 => k_is); (case k7 => k_is); (case k8 => ktr_room); (case k9 => exact BindsTo.of_eq rfl); (case c5 => decide); (case kB => exact locs rfl); (case c2 => exact rfl); (case c3 => exact rfl); (case c4 => exact rfl); k_whole)
  intro g L' h1 hg F' N' B' X' T'
  (try dsimp only)
  (try k_fold)
  k_steps
  all_goals (try dsimp only)
  all_goals (try k_unfold)
  all_goals (try dsimp only)
  all_goals (refine ret0 _ hret hg (by assumption) (congrArg (fun x => Value.str x _) (LeftInv.done (by assumption) (by assumption))))
  k_with_none
end
section
open PySem.StrLaws PySem.Builtin PySem.Builtin.Str
def flat (xs : List Str) : List Nat := (xs.map tl).flatten
theorem flat_snoc (xs : List Str) (y : Str) : flat (xs ++ [y]) = flat xs ++ tl y := by simp [flat]
theorem tl_strjoin (xs : List Str) : tl (Str.join (Str.ofString "") xs) = flat xs := by
  have e : tl (Str.ofString "") = [] := by decide +kernel
  induction xs with
  | nil => rfl
  | cons x r ih =>
    cases r with
    | nil => simp [Str.join, flat]
    | cons y r =>
      show tl (x ++ Str.ofString "" ++ Str.join (Str.ofString "") (y :: r)) = _
      rw [tl_append, tl_append, e, ih, List.append_nil]
      rfl
theorem tl_join (xs : List Str) : tl (Txt.join (Str.ofString "") xs) = flat xs := by
  show tl (glued (Str.ofString "") xs) = _
  rw [glued_eq_join, tl_strjoin]
theorem flat_len : ∀ xs : List Str, (flat xs).length = (xs.map (·.length)).sum
  | [] => rfl
  | x :: r => by
    have := flat_len r
    unfold flat at this ⊢
    rw [List.map_cons, List.flatten_cons, List.length_append, this, List.map_cons, List.sum_cons, tl_length]
/-- what stands so far, what is kept, what is to come -/
def Cut (t : Str) (found : List Str) (b a : Nat) : Prop := flat found ++ ((tl t).drop b).take (a - b) ++ leftS 0 ((tl t).drop a) = leftS 0 (tl t)
def pl (t : Str) (i : Int) : Nat := if i < 0 then t.length else i.toNat
def WInv (t : Str) (found : List Str) (b i : Int) : Prop := Cut t found b.toNat (pl t i)
def WAll (t : Str) (found : List Str) (b i : Int) : Prop := WInv t found b i ∧ 0 ≤ b ∧ b ≤ t.length ∧ (i < 0 ∨ (b ≤ i ∧ i < t.length)) ∧ (found.length : Int) ≤ b
theorem take_more {α : Type} (l : List α) (b j k : Nat) (h : b ≤ j) (h2 : j ≤ k) : (l.drop b).take (j - b) ++ (l.drop j).take (k - j) = (l.drop b).take (k - b) := by
  have e : k - b = (j - b) + (k - j) := by omega
  rw [e, List.take_add, List.drop_drop, show b + (j - b) = j by omega]
theorem Cut.on {t : Str} {found : List Str} {b j : Nat} (h : Cut t found b j) (k : Nat) (hb : b ≤ j) (hj : j ≤ k) (hk : k ≤ t.length) (hn : ∀ v, j ≤ v → v < k → (tl t)[v]? ≠ some 60) : Cut t found b k := by
  unfold Cut at h ⊢
  have hf := left_free (k - j) (l := (tl t).drop j) (by rw [List.length_drop, tl_length]; omega) fun v hv => by
    rw [List.getElem?_drop]
    exact hn _ (Nat.le_add_right _ _) (by omega)
  rw [hf, List.drop_drop, show j + (k - j) = k by omega, ← List.append_assoc] at h
  rw [← h, ← take_more (tl t) b j k hb hj]
  simp only [List.append_assoc]
theorem tl_lt : tl (Str.ofString "<") = [60] := by decide +kernel
theorem sw_one (l : List Nat) (c k : Nat) : sw l [c] k = true ↔ l[k]? = some c := by
  unfold sw
  exact take1_drop
theorem find_next (t : Str) {j : Int} (h0 : 0 ≤ j) (h1 : j ≤ (t.length : Int)) :
    (Txt.find3 t (Str.ofString "<") j < 0 ∨ (j ≤ Txt.find3 t (Str.ofString "<") j ∧ Txt.find3 t (Str.ofString "<") j < (t.length : Int))) ∧
    (∀ v, j.toNat ≤ v → v < pl t (Txt.find3 t (Str.ofString "<") j) → (tl t)[v]? ≠ some 60) := by
  rcases find3_sw t (Str.ofString "<") h0 (lit_ne tl_lt) with ⟨e, hn⟩ | ⟨k, e, hlo, hk, hn⟩
  · rw [e]
    refine ⟨.inl (by omega), fun v h1 _ h3 => ?_⟩
    have := hn v h1
    rw [tl_lt, (sw_one _ _ _).mpr h3] at this
    cases this
  · rw [e]
    have hl := sw_len hk (lit_ne tl_lt)
    rw [tl_length, tl_length, len_of_tl tl_lt] at hl
    simp only [List.length_cons, List.length_nil] at hl
    refine ⟨.inr ⟨by omega, by omega⟩, fun v h1 h2 h3 => ?_⟩
    unfold pl at h2
    rw [if_neg (by omega)] at h2
    have := hn v h1 (by omega)
    rw [tl_lt, (sw_one _ _ _).mpr h3] at this
    cases this
theorem Cut.find {t : Str} {found : List Str} {b j : Int} (h : Cut t found b.toNat j.toNat) (hb0 : 0 ≤ b) (hb : b ≤ j) (hj : j ≤ (t.length : Int)) (hf : (found.length : Int) ≤ b) : WAll t found b (Txt.find3 t (Str.ofString "<") j) := by
  obtain ⟨h1, h2⟩ := find_next t (j := j) (by omega) hj
  refine ⟨?_, hb0, by omega, h1.imp id fun x => ⟨by omega, x.2⟩, hf⟩
  unfold WInv
  refine h.on _ (by omega) ?_ ?_ h2
  · unfold pl; split <;> omega
  · unfold pl; split <;> omega
theorem find_first (t : Str) : Txt.find t (Str.ofString "<") = Txt.find3 t (Str.ofString "<") 0 := by
  unfold Txt.find Txt.find3
  rw [fromIndex_nat (Int.le_refl 0)]
  rfl
theorem w_start (t : Str) : WAll t [] 0 (Txt.find t (Str.ofString "<")) := by
  rw [find_first]
  refine Cut.find ?_ (Int.le_refl 0) (Int.le_refl 0) (by omega) (by simp)
  unfold Cut
  simp [flat]
theorem w_one {t : Str} {found : List Str} {b i : Int} (h : WAll t found b i) (hi : 0 ≤ i) (hke : keptEnd t i = none) : WAll t found b (Txt.find3 t (Str.ofString "<") (i + ((1 : Nat) : Int))) := by
  obtain ⟨h1, h2, h3, h4, h5⟩ := h
  have h4' : b ≤ i ∧ i < t.length := h4.resolve_left (by omega)
  rw [keptEnd_part t hi (by omega), Option.map_eq_none_iff] at hke
  obtain ⟨c, hc⟩ : ∃ c, (tl t)[i.toNat]? = some c := by
    refine ⟨(tl t)[i.toNat]'(by rw [tl_length]; omega), List.getElem?_eq_getElem _⟩
  refine Cut.find ?_ h2 (by omega) (by omega) h5
  unfold WInv pl at h1
  rw [if_neg (by omega)] at h1
  unfold Cut at h1 ⊢
  rw [← h1, left_none hc hke, show (i + ((1 : Nat) : Int)).toNat = i.toNat + 1 by omega, ← take_more (tl t) b.toNat i.toNat (i.toNat + 1) (by omega) (by omega)]
  have e : ((tl t).drop i.toNat).take (i.toNat + 1 - i.toNat) = [c] := by
    rw [show i.toNat + 1 - i.toNat = 1 by omega, List.take_one, List.head?_drop, hc]
    rfl
  rw [e]
  simp only [List.append_assoc, List.singleton_append]
theorem w_more {t : Str} {found : List Str} {b i v : Int} (h : WAll t found b i) (hi : 0 ≤ i) (hke : keptEnd t i = some v) : WAll t (found ++ [Txt.slice t (some b) (some i) ++ Txt.mul (Str.ofString " ") (v - i)]) v (Txt.find3 t (Str.ofString "<") v) := by
  obtain ⟨h1, h2, h3, h4, h5⟩ := h
  have h4' : b ≤ i ∧ i < t.length := h4.resolve_left (by omega)
  have hb := keptEnd_bounds hi (by omega) hke
  rw [keptEnd_part t hi (by omega)] at hke
  obtain ⟨k, hk, e⟩ := Option.map_eq_some_iff.mp hke
  refine Cut.find ?_ (by omega) (Int.le_refl v) hb.2 (by rw [List.length_append, List.length_singleton]; omega)
  unfold WInv pl at h1
  rw [if_neg (by omega)] at h1
  unfold Cut at h1 ⊢
  rw [← h1, left_some hk, flat_snoc, tl_append, tl_slice t h2 (by omega) (by omega), tl_blanks, Nat.sub_self, List.take_zero, List.append_nil, List.drop_drop, show (v - i).toNat = k by omega, show v.toNat = i.toNat + k by omega, show (i - b).toNat = i.toNat - b.toNat by omega]
  simp only [List.append_assoc]
theorem w_one_m {t : Str} {found : List Str} {b i : Int} (h : WAll t found b i) (hi : 0 ≤ i) : (if Txt.find3 t (Str.ofString "<") (i + ((1 : Nat) : Int)) < 0 then 0 else ((t.length : Int) - Txt.find3 t (Str.ofString "<") (i + ((1 : Nat) : Int))).toNat) < (if i < 0 then 0 else ((t.length : Int) - i).toNat) := by
  obtain ⟨h1, h2, h3, h4, h5⟩ := h
  have h4' : b ≤ i ∧ i < t.length := h4.resolve_left (by omega)
  have := (find_next t (j := i + ((1 : Nat) : Int)) (by omega) (by omega)).1
  rw [if_neg (show ¬ i < 0 by omega)]
  split <;> omega
theorem w_more_m {t : Str} {found : List Str} {b i v : Int} (h : WAll t found b i) (hi : 0 ≤ i) (hke : keptEnd t i = some v) : (if Txt.find3 t (Str.ofString "<") v < 0 then 0 else ((t.length : Int) - Txt.find3 t (Str.ofString "<") v).toNat) < (if i < 0 then 0 else ((t.length : Int) - i).toNat) := by
  obtain ⟨h1, h2, h3, h4, h5⟩ := h
  have h4' : b ≤ i ∧ i < t.length := h4.resolve_left (by omega)
  have hb := keptEnd_bounds hi (by omega) hke
  have := (find_next t (j := v) (by omega) (by omega)).1
  rw [if_neg (show ¬ i < 0 by omega)]
  split <;> omega
theorem w_weight {t : Str} {found : List Str} {b i : Int} (h : WAll t found b i) : (found.map (·.length)).sum + found.length ≤ 2 * t.length := by
  obtain ⟨h1, h2, h3, h4, h5⟩ := h
  unfold WInv Cut at h1
  have := congrArg List.length h1
  rw [List.length_append, List.length_append, flat_len, len_leftS (tl t), tl_length] at this
  omega
theorem w_done {t : Str} {found : List Str} {b i : Int} (h : WAll t found b i) (hi : ¬ 0 ≤ i) : Txt.join (Str.ofString "") found ++ Txt.slice t (some b) none = leftOf t := by
  obtain ⟨h1, h2, h3, h4, h5⟩ := h
  refine tl_inj ?_
  unfold WInv pl at h1
  rw [if_pos (by omega)] at h1
  unfold Cut at h1
  rw [tl_leftOf, tl_append, tl_join, tl_slice_from t h2 h3, ← h1, List.drop_eq_nil_of_le (as := tl t) (i := t.length) (by rw [tl_length]; exact Nat.le_refl _), List.take_of_length_le (by rw [List.length_drop, tl_length]; exact Nat.le_refl _)]
  simp [leftS]
end
section
theorem w_fit {t : Str} {found : List Str} {b i : Int} (h : WAll t found b i) (hl : t.length ≤ 10000) : (found.map (·.length)).sum + found.length * (Str.ofString "").length ≤ 16777216 := by
  have := w_weight h
  rw [len_nil]
  omega
theorem w_jlen {t : Str} {found : List Str} {b i : Int} (h : WAll t found b i) : (Txt.join (Str.ofString "") found).length ≤ 2 * t.length := by
  have := w_weight h
  rw [← tl_length, tl_join, flat_len]
  omega
theorem news_tail {h₀ h : Heap} {L : Addr} {p : Addr × Obj} {rest : List (Addr × Obj)} (N : News h₀ L h (p :: rest)) : News h₀ L h rest := fun q hq => N q (List.mem_cons_of_mem _ hq)
theorem strs_snoc {vs : List Value} {ys : List Str} (h : PyProof.Rows.StrsAre vs ys) (y : Str) (t : Tok) : PyProof.Rows.StrsAre (vs ++ [.str y t]) (ys ++ [y]) := PyProof.Rows.StrsAre.append' h (.cons y t .nil)
local macro_rules | `(tactic| walk_at "KswEnd") => `(tactic| ((rename News _ _ _ _ => nE'); (try simp only [List.push_toArray] at nE'); (rename PyProof.Rows.StrsAre _ _ => sA'); (first
  | (refine ksw_end ⟨_, _, _, _, _, _, _⟩ (by assumption) nE' (by kst_in) sA' (by kst_all) (by ksw_same) (by kst_p) (by ksw_less))
  | (refine ksw_end ⟨_, _, _, _, _, _, _⟩ (by assumption) nE' (by kst_in) (strs_snoc sA' _ _) (by kst_all) (by ksw_same) (by kst_p) (by ksw_less)))))
theorem wf {t : Str} {found : List Str} {b i : Int} (h : WAll t found b i) : WAll t found b i ∧ 0 ≤ b ∧ b ≤ t.length ∧ (i < 0 ∨ (b ≤ i ∧ i < t.length)) ∧ (found.length : Int) ≤ b := ⟨h, h.2⟩
set_option maxRecDepth 100000 in
set_option maxHeartbeats 2000000 in
theorem without_kept_call {w : World} {mean : ExcName → Option Value} {mg mb : Str → Option Value} (t : Str) (tt : Tok) (hlen : t.length ≤ 10000) :
    Call0 w mean mg mb 6 39 [.str t tt] (fun k => .str (leftOf t) k) := by
  k_with_none
  k_with "exec While Compare cons nil" => ((rename News _ _ _ _ => nW); (replace nW := news_tail nW); (have hs9 : PyProof.Rows.StrsAre [] [] := PyProof.Rows.StrsAre.nil); (have hw0 := wf (w_start t)); k_while (fun script found b i => WAll t found b i ∧ 0 ≤ b ∧ b ≤ t.length ∧ (i < 0 ∨ (b ≤ i ∧ i < t.length)) ∧ (found.length : Int) ≤ b) (fun script found b i => if i < 0 then 0 else (t.length - i).toNat) "found$" "begin" "at")
  k_with "call ref" => (k_here; (refine' kept_end_call _ _ _ _ ?h0 ?h1 ?h2 _ _ _ _ _ _ _ _ _ _ _ _ _ _ _ _ _ ?kB ?kF ?kX ?kT ?kK ?kd ?ku ?kR); (case h0 => omega); (case h1 => omega); (case h2 => assumption); (case kB => k_asm); (case kF => k_asm); (case kX => k_asm); (case kT => k_asm); (case kK => exact rfl); (case kd => ktr_room); (case ku => ktr_units); intro t9 h9 tk9 hk9; (have F9 := Fr.keeps (by assumption) hk9); (have N9 := News.grown (by assumption) hk9); ((rcases hke : keptEnd t _ with _ | v9) <;> (first | ((have hw9 := wf (w_one (by assumption) (by assumption) hke)); (have hm9 := w_one_m (t := t) (by assumption) (by assumption)); (dsimp only [optV]); (try k_fold)) | ((have hw9 := wf (w_more (by assumption) (by assumption) hke)); (have hm9 := w_more_m (by assumption) (by assumption) hke); (have hb9 := keptEnd_bounds (by omega) (by omega) hke); (dsimp only [optV]); (try k_fold)))))
  k_with "call builtin:str.join" => ((refine join_list (News.isList (by k_asm) (by k_mem)) (by assumption) (w_fit (by assumption) hlen) ?_); intro t8 k8; (have hj8 := w_jlen (by assumption)))
  k_with "state" => assumption
  k_with "measure" => assumption
  intro dp un gd cn cs a ccd cl outer A₀ base h₀ L m s Q E B F X T hk hdp hun hret
  w_top off
  refine wpAny_call ?_
  k_dflt (refine' enter0 (binds := [(Str.ofString "text", Value.str t tt)]) ?k1 ?k2 ?k3 ?k5 ?kA ?kF ?kK ?k6 ?k7 ?k8 ?k9 ?kB ?_ ?c2 ?c3 ?c4 ?c5; (case kA => exact rfl); (case kF => exact rfl); (case kK => assumption); (case k1 => k_asm); (case k2 => k_asm); (case k3 => k_asm); (case k5 => k_asm); (case k6 => k_is); (case k7 => k_is); (case k8 => ktr_room); (case k9 => exact BindsTo.of_eq rfl); (case c5 => decide); (case kB => exact locs rfl); (case c2 => exact rfl); (case c3 => exact rfl); (case c4 => exact rfl); k_whole)
  intro g L' h1 hg F' N' B' X' T'
  (try dsimp only)
  (try k_fold)
  k_steps
  all_goals (try dsimp only)
  all_goals (try k_unfold)
  all_goals (try dsimp only)
  all_goals (refine ret0 _ hret hg (by assumption) (congrArg (fun x => Value.str x _) (w_done (by assumption) (by assumption))))
  k_with_none
end
section
/-- a turn's end -/
def SignPost (s : Shared) (h₀ : Heap) (L I : Addr) (it : Obj) (J : (Str → Option Value) → Prop) (f : Flow) (s₃ : Shared) : Prop :=
  f = .next ∧ ∃ h' tk' m', s₃ = { s with heap := h', toks := tk' } ∧ Fr h₀ L h' m' ∧ News h₀ L h' [(I, it)] ∧ J m'
/-- a for over a written text of plain signs: each sign's token is a new one -/
theorem for_signs {prog : Program} {w : World} {A : Around} {E : Value → Shared → Prop} {s : Shared} {env : Env} {h₀ : Heap} {x : Str} {px pos : Pos} {iter : Expr} {body : List Stmt} {Q : Flow → Shared → Prop} {tx : Str} {t : Tok}
    (hA : tx.cps.all (· < 128) = true) (hh : A.handled = none) (hx : env.kindOf x = some .local)
    (hp : (env.scope.kind == .class || (env.scope.kind == .module && env.locals != env.globals)) = false)
    (J : Nat → (Str → Option Value) → Prop)
    (he : wpAny (model prog w) A (eval iter env) (fun xv s₁ => xv = .str tx t ∧ 0 < s₁.toks ∧ (∃ h tk, s₁ = { s with heap := h, toks := tk }) ∧ ∃ m, Fr h₀ env.locals s₁.heap m ∧ J 0 m) E s)
    (turn : ∀ i c u m I it h tk (E' : Value → Shared → Prop), tx.cps[i]? = some c → 0 < u → u < tk → J i m → Fr h₀ env.locals h (fun y => if y = x then some (.str ⟨#[c]⟩ u) else m y) → News h₀ env.locals h [(I, it)] →
      wpAny (model prog w) A (execs body env) (SignPost s h₀ env.locals I it (J (i + 1))) E' { s with heap := h, toks := tk })
    (done : ∀ h tk m, J tx.cps.size m → Fr h₀ env.locals h m → Q .next { s with heap := h, toks := tk })
    (hs : ∀ x, foldedSetIterable iter env x = pure x := by intro _; rfl) :
    wpAny (model prog w) A (exec (.For (.Name x px) iter body [] pos) env) Q E s := by
  refine wpAny_For (wpAny_mono he (fun xv s₁ h₁ => ?_) fun _ _ e => e) hs
  obtain ⟨rfl, h0, ⟨h, tk, rfl⟩, m, F, hj⟩ := h₁
  refine wpAny_pyIter_ascii hA ?_
  have hI₀ : h₀.get? h.objs.size = none := next_is_new F
  have hIL : h.objs.size ≠ env.locals := Nat.ne_of_gt F.ns.lt
  refine codeAny_forLoop_any (fun k s' => ∃ h' tk' i m', s' = { s with heap := h', toks := tk' } ∧ 0 < tk' ∧ h'.IsStrIter h.objs.size "str_ascii_iterator" tx t i ∧ Fr h₀ env.locals h' m' ∧ J i m' ∧ i ≤ tx.cps.size ∧ k = tx.cps.size + 1 - i) ?_ (tx.cps.size + 1)
    ⟨_, _, 0, m, rfl, h0, ⟨_, Heap.get?_push_size _ rfl, rfl, rfl⟩, F.push _, hj, Nat.zero_le _, rfl⟩
  rintro k s' ⟨h', tk', i, m', rfl, h0', hit, F', hj', hi, rfl⟩
  by_cases hlt : i < tx.cps.size
  · refine wpAny_pyNext_ascii_item hit (c := tx.cps[i]) (by simp [hlt]) fun h₂ hit₂ hs₂ => ?_
    show wpAny (model prog w) A (pure ()) _ _ _
    refine wpAny_pure ?_
    have F₂ : Fr h₀ env.locals h₂ m' := F'.change hs₂ hIL hI₀
    refine wpAny_assign_Name (wpAny_storeName_local hx F₂.ns (fun h₃ hn₃ hs₃ => ?_) hp)
    have hit₃ := hit₂.extBut hs₃.extBut hIL
    obtain ⟨it, hget, hic, hid⟩ := hit₃
    have F₃ : Fr h₀ env.locals h₃ (fun y => if y = x then some (.str ⟨#[tx.cps[i]]⟩ tk') else m' y) := F₂.set hn₃ hs₃
    have N₃ : News h₀ env.locals h₃ [(h.objs.size, it)] := fun p hp => by
      rw [List.mem_singleton.mp hp]
      exact ⟨hget, hIL, hI₀⟩
    refine wpAny_mono (wpAny_toks_of (n := tk') (show tk' ≤ tk' + 1 + 1 by omega) (turn i tx.cps[i] tk' m' _ it h₃ (tk' + 1 + 1) _ (by simp [hlt]) h0' (show tk' < tk' + 1 + 1 by omega) hj' F₃ N₃)) (fun f s₄ h₄ => ?_) fun _ _ e => e.2
    obtain ⟨hle, rfl, h₅, tk₅, m₅, rfl, F₅, N₅, hj₅⟩ := h₄
    exact ⟨tx.cps.size + 1 - (i + 1), by omega, h₅, tk₅, i + 1, m₅, rfl, Nat.lt_of_lt_of_le h0' hle, ⟨it, (N₅ _ (.head _)).1, hic, hid⟩, F₅, hj₅, hlt, rfl⟩
  · obtain rfl : i = tx.cps.size := Nat.le_antisymm hi (Nat.not_lt.mp hlt)
    refine wpAny_pyNext_ascii_end hh hit (by simp) fun h₂ hs₂ => wpAny_execs_nil ?_
    refine done h₂ _ m' hj' ⟨F'.ns.at' fun o e => hs₂ _ o (Ne.symm hIL) e, fun b o e => hs₂ b o (fun q => ?_) (F'.keep b o e), F'.above⟩
    rw [q, hI₀] at e; cases e
end
section
open PySem.StrLaws PySem.Builtin PySem.Builtin.Str
/-- a sign's blank -/
def sub1 (c : Nat) (k : Nat) : Nat := if k = c then 32 else k
theorem map_free (c : Nat) : ∀ l : List Nat, c ∉ l → l.map (sub1 c) = l
  | [], _ => rfl
  | k :: r, h => by
    rw [List.mem_cons, not_or] at h
    rw [List.map_cons, map_free c r h.2]
    unfold sub1
    rw [if_neg (Ne.symm h.1)]
theorem join_sub (c : Nat) : ∀ parts : List Str, (∀ p ∈ parts, c ∉ p.cps.toList) → tl (Str.join ⟨#[32]⟩ parts) = (tl (Str.join ⟨#[c]⟩ parts)).map (sub1 c)
  | [], _ => rfl
  | [x], h => (map_free c (tl x) (h x (List.mem_cons_self ..))).symm
  | x :: y :: r, h => by
    have ih := join_sub c (y :: r) fun p hp => h p (List.mem_cons_of_mem _ hp)
    show tl (x ++ (⟨#[32]⟩ : Str) ++ Str.join ⟨#[32]⟩ (y :: r)) = (tl (x ++ (⟨#[c]⟩ : Str) ++ Str.join ⟨#[c]⟩ (y :: r))).map (sub1 c)
    rw [tl_append, tl_append, tl_append, tl_append, List.map_append, List.map_append, ih, map_free c (tl x) (h x (List.mem_cons_self ..))]
    show tl x ++ [32] ++ _ = tl x ++ [sub1 c c] ++ _
    unfold sub1
    rw [if_pos rfl]
theorem blank_is : Str.ofString " " = ⟨#[32]⟩ := by decide +kernel
theorem tl_replace (x : Str) (c : Nat) : tl (Txt.replace x ⟨#[c]⟩ (Str.ofString " ")) = (tl x).map (sub1 c) := by
  rw [blank_is, replace_one, join_sub c _ (split_free x c), join_split]
def rep1 (x : Str) (c : Nat) : Str := Txt.replace x ⟨#[c]⟩ (Str.ofString " ")
theorem len_rep1 (x : Str) (c : Nat) : (rep1 x c).length = x.length := by
  rw [← tl_length, rep1, tl_replace, List.length_map, tl_length]
theorem len_reps (x : Str) : ∀ cs : List Nat, (cs.foldl rep1 x).length = x.length
  | [] => rfl
  | c :: r => by rw [List.foldl_cons, len_reps (rep1 x c) r, len_rep1]
def blankOf (t : Str) : Str := [9, 13, 10].foldl rep1 t
def sub3 (k : Nat) : Nat := sub1 10 (sub1 13 (sub1 9 k))
theorem tl_blankOf (t : Str) : tl (blankOf t) = (tl t).map sub3 := by
  show tl (rep1 (rep1 (rep1 t 9) 13) 10) = _
  unfold rep1
  rw [tl_replace, tl_replace, tl_replace, List.map_map, List.map_map]
  rfl
theorem spaces_cps : (Str.ofString "\t\x0d\n").cps = #[9, 13, 10] := by decide +kernel
theorem spaces_at {i c : Nat} (h : (Str.ofString "\t\x0d\n").cps[i]? = some c) : (c = 9 ∨ c = 13 ∨ c = 10) ∧ ([9, 13, 10] : List Nat).take (i + 1) = ([9, 13, 10] : List Nat).take i ++ [c] := by
  rw [spaces_cps] at h
  have h' : ([9, 13, 10] : List Nat)[i]? = some c := by simpa using h
  refine ⟨?_, by rw [List.take_add_one, h']; rfl⟩
  have := List.mem_of_getElem? h'
  simpa using this
theorem sign_not_blank {c : Nat} (h : c = 9 ∨ c = 13 ∨ c = 10) : ((⟨#[c]⟩ : Str) == Str.ofString " ") = false := by
  rcases h with rfl | rfl | rfl <;> decide +kernel
end
section
def BlankJ (t : Str) (i : Nat) (m : Str → Option Value) : Prop := ∃ (tt : Tok) (m₀ : Str → Option Value), m = fun y => if y = Str.ofString "text" then some (.str ((([9, 13, 10] : List Nat).take i).foldl rep1 t) tt) else m₀ y
set_option maxRecDepth 100000 in
set_option maxHeartbeats 2000000 in
theorem blank_call {w : World} {mean : ExcName → Option Value} {mg mb : Str → Option Value} (t : Str) (tt : Tok) (hlen : t.length ≤ 10000) :
    Call0 w mean mg mb 6 25 [.str t tt] (fun k => .str (blankOf t) k) := by
  k_with_none
  intro dp un gd cn cs a ccd cl outer A₀ base h₀ L m s Q E B F X T hk hdp hun hret
  w_top off
  refine wpAny_call ?_
  k_dflt (refine' enter0 (binds := [(Str.ofString "text", Value.str t tt)]) ?k1 ?k2 ?k3 ?k5 ?kA ?kF ?kK ?k6 ?k7 ?k8 ?k9 ?kB ?_ ?c2 ?c3 ?c4 ?c5; (case kA => exact rfl); (case kF => exact rfl); (case kK => assumption); (case k1 => k_asm); (case k2 => k_asm); (case k3 => k_asm); (case k5 => k_asm); (case k6 => k_is); (case k7 => k_is); (case k8 => ktr_room); (case k9 => exact BindsTo.of_eq rfl); (case c5 => decide); (case kB => exact locs rfl); (case c2 => exact rfl); (case c3 => exact rfl); (case c4 => exact rfl); k_whole)
  intro g L' h1 hg F' N' B' X' T'
  (try dsimp only)
  (try k_fold)
  refine wpAny_execs_cons ?_
  have hpos : 0 < s.toks + 1 := Nat.succ_pos _
  generalize s.toks + 1 = tk1 at hpos
  refine for_signs (h₀ := g) (tx := Str.ofString "\t\x0d\n") (t := 189) (by decide +kernel) (by rfl) (by rfl) (by rfl) (BlankJ t) ?he ?turn ?done
  case he =>
    walk1
    exact ⟨rfl, hpos, ⟨_, _, rfl⟩, _, F', tt, fun _ => none, by
      funext y
      show List.lookup y [(Str.ofString "text", Value.str t tt)] = if y = Str.ofString "text" then some (Value.str t tt) else none
      rw [List.lookup_cons]
      by_cases e : y = Str.ofString "text"
      · subst e; simp
      · rw [if_neg e, beq_false_of_ne e]; rfl⟩
  case turn =>
    intro i c u m I it h tk E' hc h0 hu hj F2 N2
    obtain ⟨tt2, m₀, rfl⟩ := hj
    obtain ⟨hc3, htake⟩ := spaces_at hc
    dsimp only at F2
    have hnb := sign_not_blank hc3
    have hl2 := len_reps t (([9, 13, 10] : List Nat).take i)
    generalize hT : (([9, 13, 10] : List Nat).take i).foldl rep1 t = T at F2 hl2
    k_with "call builtin:str.replace" => (refine SC.replaceW (Nat.pos_iff_ne_zero.mp h0) (Nat.ne_of_gt (Nat.lt_trans h0 hu)) (Nat.ne_of_lt hu) hnb (by rw [hl2]; omega) (by decide) ?_; intro t8 k8)
    k_steps
    dsimp only
    refine ⟨rfl, _, _, _, rfl, by assumption, by assumption, t8, fun y => if y = Str.ofString "sign" then some (Value.str ⟨#[c]⟩ u) else if y = Str.ofString "text" then some (Value.str T tt2) else m₀ y, ?_⟩
    rw [htake, List.foldl_append, hT]
    rfl
  case done =>
    intro h tk m hj F2
    obtain ⟨tt2, m₀, rfl⟩ := hj
    have N2 : News g L' h [] := News.nil
    k_steps
    dsimp only
    k_unfold
    exact ret0 _ hret hg F2 (by rw [show (Str.ofString "\t\x0d\n").cps.size = 3 from by rw [spaces_cps]; rfl]; rfl)
  k_with_none
end
section
def toP : Option Int → PyData
  | none => .none
  | some i => .int i
theorem carried_opt (o : Option Int) (k : Tok) : Carried (optV o k) (toP o) := by
  cases o with
  | none => exact .none
  | some i => exact .int i k
theorem carried_snoc {v : Value} {d : PyData} (hv : Carried v d) : ∀ {vs : List Value} {ds : List PyData}, CarriedAll vs ds → CarriedAll (vs ++ [v]) (ds ++ [d])
  | _, _, .nil => .cons hv .nil
  | _, _, .cons h r => .cons h (carried_snoc hv r)
theorem toP_lay : ∀ os : List (Option Int), PyData.canLayAll0 (os.map toP) = true ∧ PyData.depthAll (os.map toP) = 0
  | [] => by simp [PyData.canLayAll0, PyData.depthAll]
  | o :: r => by
    have := toP_lay r
    cases o <;> simp [toP, PyData.canLayAll0, PyData.canLay0, PyData.depthAll, PyData.depth, this]
theorem toP_shaped (os : List (Option Int)) : SeqAt.shaped (.list (os.map toP)) = true := by
  simp [SeqAt.shaped, PyData.canLay0, PyData.depth, toP_lay os]
theorem toP_eqv : ∀ os : List (Option Int), PyData.eqvAll (os.map toP) (os.map toP) = true
  | [] => rfl
  | o :: r => by
    have := toP_eqv r
    cases o <;> simp [toP, PyData.eqvAll, PyData.eqv, this]
theorem toP_shaped2 (f : Nat → Option Int) (n : Nat) : SeqAt.shaped (.list ((List.range n).map fun i => toP (f i))) = true := by
  have := toP_shaped ((List.range n).map f)
  rwa [List.map_map] at this
theorem toP_eqv2 (f : Nat → Option Int) (n : Nat) : PyData.eqv (.list ((List.range n).map fun i => toP (f i))) (.list ((List.range n).map fun i => toP (f i))) = true := by
  have := toP_eqv ((List.range n).map f)
  rw [List.map_map] at this
  exact this
theorem ne_lists {prog : Program} {w : World} {A : Around} {E : Value → Shared → Prop} {s : Shared} {h₀ : Heap} {L a b : Addr} {news : List (Addr × Obj)} {xs ys : List Value} {f : Nat → Option Int} {n : Nat} {Q : Value → Shared → Prop}
    (N : News h₀ L s.heap news) (ha : (a, LCg.lst xs) ∈ news) (hb : (b, LCg.lst ys) ∈ news) (cx : CarriedAll xs ((List.range n).map fun i => toP (f i))) (cy : CarriedAll ys ((List.range n).map fun i => toP (f i)))
    (hu : A.units + 64 < cLine) (h : Q (.bool false) s) : wpAny (model prog w) A (compareOp .NotEq (.ref a) (.ref b)) Q E s :=
  ne_dataH (reads_newData ⟨_, N.get ha, rfl, _, rfl⟩ cx) (reads_newData ⟨_, N.get hb, rfl, _, rfl⟩ cy) (toP_shaped2 _ _) (toP_shaped2 _ _) hu (by rw [toP_eqv2]; exact h)
def OptEl (news : List (Addr × Obj)) (o : Option Int) (y : Value) (news' : List (Addr × Obj)) : Prop := news' = news ∧ ∃ t : Tok, y = optV o t
section
variable {prog : Program} {w : World} {A : Around} {h₀ : Heap} {L : Addr} {m : Str → Option Value} {env : Env} {elt : Expr} {x : Str} {scope : Scope} {cl : List (Str × Addr)} {s : Shared} {S : List (Addr × Obj) → Prop} {P : Nat → Value → Prop} {Fin : List Value → List (Addr × Obj) → Prop}
/-- a block's turns by what holds between them -/
theorem inv_rest {n : Nat} (J : Nat → List Value → List (Addr × Obj) → Prop)
    (turn : ∀ i v ys news I oI C oC D m₂ h tk (E' : Value → Shared → Prop), i < n → P i v → J i ys news → LCg.NsObj oC m₂ → m₂ x = some v → Fr h₀ L h m → News h₀ L h ((I, oI) :: (C, oC) :: (D, LCg.lst ys) :: news) → LCg.Off3 I C D news → ((@Ne Nat I C) ∧ (@Ne Nat I D) ∧ (@Ne Nat C D)) →
      wpAny (model prog w) A (eval elt (compEnvC scope cl C env)) (LCg.CompEnd h₀ L m { s with heap := h, toks := tk } I oI C oC D (LCg.lst ys) S (fun y news' => J (i + 1) (ys ++ [y]) news')) E' { s with heap := h, toks := tk })
    (fin : ∀ ys news, J n ys news → Fin ys news) : ∀ (j i : Nat) (ys : List Value) (news : List (Addr × Obj)), i + j = n → J i ys news → LCg.CompRest prog w A h₀ L m env elt x scope cl s S P Fin j i ys news
  | 0, i, ys, news, hi, hj => LCg.CompRest.zero (fin ys news (by rw [← hi, Nat.add_zero]; exact hj))
  | j + 1, i, ys, news, hi, hj => LCg.CompRest.succ fun v I oI C oC D m₂ h tk E' hv hC hx F N off ne =>
    wpAny_mono (turn i v ys news I oI C oC D m₂ h tk E' (by omega) hv hj hC hx F N off ne) (fun y s₂ hq => by
      obtain ⟨h', tk', nw, e, F', N', off', hS, hJ⟩ := hq
      exact ⟨h', tk', nw, e, F', N', off', hS, inv_rest J turn fin j (i + 1) (ys ++ [y]) nw (by omega) hJ⟩) fun _ _ e => e
theorem opt_rest {n : Nat} {a : Int} {news : List (Addr × Obj)} (f : Nat → Option Int)
    (turn : ∀ i t ys I oI C oC D m₂ h tk (E' : Value → Shared → Prop), i < n → LCg.NsObj oC m₂ → m₂ x = some (.int (a + (i : Int)) t) → Fr h₀ L h m → News h₀ L h ((I, oI) :: (C, oC) :: (D, LCg.lst ys) :: news) → LCg.Off3 I C D news → ((@Ne Nat I C) ∧ (@Ne Nat I D) ∧ (@Ne Nat C D)) →
      wpAny (model prog w) A (eval elt (compEnvC scope cl C env)) (LCg.CompEnd h₀ L m { s with heap := h, toks := tk } I oI C oC D (LCg.lst ys) S (OptEl news (f i))) E' { s with heap := h, toks := tk })
    (fin : ∀ ys, CarriedAll ys ((List.range n).map fun i => toP (f i)) → Fin ys news) : LCg.CompRest prog w A h₀ L m env elt x scope cl s S (fun i v => ∃ t, v = .int (a + (i : Int)) t) Fin n 0 [] news := by
  refine inv_rest (n := n) (fun i ys nw => nw = news ∧ CarriedAll ys ((List.range i).map fun i => toP (f i))) ?_ ?_ n 0 [] news (Nat.zero_add n) ⟨rfl, .nil⟩
  · rintro i v ys nw I oI C oC D m₂ h tk E' hi ⟨t, rfl⟩ ⟨rfl, hy⟩ hC hx F N off ne
    refine wpAny_mono (turn i t ys I oI C oC D m₂ h tk E' hi hC hx F N off ne) (fun y s₂ hq => ?_) fun _ _ e => e
    obtain ⟨h', tk', nw', e, F', N', off', hS, rfl, t', rfl⟩ := hq
    refine ⟨h', tk', nw', e, F', N', off', hS, rfl, ?_⟩
    rw [List.range_succ, List.map_append]
    exact carried_snoc (carried_opt _ _) hy
  · rintro ys nw ⟨rfl, hy⟩
    exact fin ys hy
end
local macro_rules | `(tactic| walk_at "eval ListComp") => `(tactic| (k_here; k_dflt (refine LCg.ListComp_U (F₀ := by k_asm) (by with_unfolding_all rfl) (by decide) (by rfl) (by decide) (by rfl) ?_)))
local macro_rules | `(tactic| walk_at "CompSrc") => `(tactic| (k_here; k_extra "my src"))
local macro_rules | `(tactic| walk_at "compareOp NotEq ref ref") => `(tactic| (k_here; k_extra "my ne"))
local macro_rules | `(tactic| walk_at "CompEnd") => `(tactic| (k_here; k_extra "my end"))
set_option maxRecDepth 100000 in
set_option maxHeartbeats 400000 in
theorem law_right_call {w : World} {mean : ExcName → Option Value} {mg mb : Str → Option Value} (t : Str) (tt : Tok) (hlen : t.length ≤ 10000) :
    Call0 w mean mg mb 15 79 [.str t tt] (fun _ => .bool true) := by
  k_with_none
  k_with "my src" => (k_dflt ((refine LCg.CompSrc.range (by exact rfl) (by k_asm) (by k_asm) (by assumption) (by exact small_one (by omega) (by omega) (by omega) (by omega)) (by exact rangeSize_nat _ _) (by rw [PySem.sizeLine_eq]; omega) ?_); intro g5; refine opt_rest (fun i => keptEnd t (0 + (i : Int))) (fun i5 t5 ys5 I5 oI5 C5 oC5 D5 m5 h5 tk5 E5 hi5 hC5 hx5 F5 N5 off5 ne5 => ?_) (fun ys6 hy6 => ?_)))
  k_with "my end" => (k_dflt (exact LCg.CompEnd.intro (by assumption) (by assumption) _ (fun p hp => hp) (by assumption) trivial ⟨rfl, _, rfl⟩))
  k_with "call ref" => (k_here; k_dflt ((refine kept_end_call _ _ _ _ (by omega) (by omega) (by assumption) _ _ _ _ _ _ _ _ _ _ _ _ _ _ _ _ _ (by k_asm) (by k_asm) (by k_asm) (by k_asm) (by exact rfl) (by ktr_room) (by ktr_units) ?_); intro t9 h9 tk9 hk9; (have F9 := Fr.keeps (by assumption) hk9); (have N9 := News.grown (by assumption) hk9); (try dsimp only); (try k_fold)))
  k_with "call ref" => (k_here; k_dflt ((refine law_end_call _ _ _ _ (by omega) (by omega) (by assumption) _ _ _ _ _ _ _ _ _ _ _ _ _ _ _ _ _ (by k_asm) (by k_asm) (by k_asm) (by k_asm) (by exact rfl) (by ktr_room) (by ktr_units) ?_); intro t9 h9 tk9 hk9; (have F9 := Fr.keeps (by assumption) hk9); (have N9 := News.grown (by assumption) hk9); (try dsimp only); (try k_fold)))
  k_with "call ref" => (k_here; k_dflt ((refine without_kept_call _ _ (by assumption) _ _ _ _ _ _ _ _ _ _ _ _ _ _ _ _ _ (by k_asm) (by k_asm) (by k_asm) (by k_asm) (by exact rfl) (by ktr_room) (by ktr_units) ?_); intro t9 h9 tk9 hk9; (have F9 := Fr.keeps (by assumption) hk9); (have N9 := News.grown (by assumption) hk9); (try dsimp only); (try k_fold)))
  k_with "call ref" => (k_here; k_dflt ((refine law_left_call _ _ (by assumption) _ _ _ _ _ _ _ _ _ _ _ _ _ _ _ _ _ (by k_asm) (by k_asm) (by k_asm) (by k_asm) (by exact rfl) (by ktr_room) (by ktr_units) ?_); intro t9 h9 tk9 hk9; (have F9 := Fr.keeps (by assumption) hk9); (have N9 := News.grown (by assumption) hk9); (try dsimp only); (try k_fold)))
  k_with "my ne" => (k_dflt (refine ne_lists (f := fun i => keptEnd t (0 + (i : Int))) (by k_asm) (by k_mem) (by k_mem) (by assumption) (by assumption) (by ktr_units) ?_))
  intro dp un gd cn cs a ccd cl outer A₀ base h₀ L m s Q E B F X T hk hdp hun hret
  w_top off
  refine wpAny_call ?_
  k_dflt (refine' enter0C (binds := [(Str.ofString "text", Value.str t tt)]) ?k1 ?k2 ?k3 ?k5 ?kA ?kF ?kK ?k6 ?k7 ?k8 ?k9 ?kB ?kD ?_ ?c2 ?c3 ?c4; (case kA => exact rfl); (case kF => exact rfl); (case kK => assumption); (case k1 => k_asm); (case k2 => k_asm); (case k3 => k_asm); (case k5 => k_asm); (case k6 => k_is); (case k7 => k_is); (case k8 => ktr_room); (case k9 => exact BindsTo.of_eq rfl); (case kB => exact rfl); (case kD => decide +kernel); (case c2 => exact rfl); (case c3 => exact rfl); (case c4 => exact rfl); k_whole)
  intro g L' h1 tk1 cells hg F' N' Y' B' X' T'
  k_cells Y'
  (try simp only [List.cons_append, List.nil_append] at N')
  (try dsimp only)
  (try k_fold)
  k_steps
  all_goals (refine ret0 0 hret hg (by assumption) (congrArg Value.bool (beq_self_eq_true _)))
  k_with_none
end
section
/-- the source of draws -/
def srcO (a : Int) (ta : Tok) (b : Int) (tb : Tok) (n : Nat) : Obj := listOf #[.int a ta, .int b tb] n
/-- a call that turns the source alone -/
abbrev CallS (w : World) (mean : ExcName → Option Value) (mg mb : Str → Option Value) (k : Nat) (f src : Addr) (G : Int) (vs : List Value) (pre : Shared → Prop) (R : Value → Prop) : Prop :=
  ∀ (dp un : Nat) (gd : Option (List Code)) (cn : Str) (cs : Scope) (a : Addr) (ccd : Value) (cl : List (Str × Addr)) (outer : List Env) (A₀ : Around) (base h₀ : Heap) (L : Addr) (m : Str → Option Value) (s : Shared) (Q E : Value → Shared → Prop) (x y : Int) (tx ty : Tok) (n : Nat),
    Below A₀ base outer h₀ → Fr h₀ L s.heap m → (Mine.hd.heap_39 w.params).In h₀ → Top Mine.hd.view_39 (looseW Mine.hd.view_39 []) mean mg mb h₀ → cs.kind = .function →
    dp + k < recursionLimit → un + 8 * k < cLine → News h₀ L s.heap [(src, srcO x tx y ty n)] → 0 ≤ x → x ≤ G → 0 ≤ y → y < 2147483647 → pre s →
    (∀ (v : Value) (h' : Heap) (tk' : Nat) (x' y' : Int) (tx' ty' : Tok) (n' : Nat), R v → 0 ≤ x' → x' ≤ G → 0 ≤ y' → y' < 2147483647 → h'.get? src = some (srcO x' tx' y' ty' n') →
      (∀ b o, b ≠ src → s.heap.get? b = some o → h'.get? b = some o) → Fr h₀ L h' m → Q v { s with heap := h', toks := tk' }) →
      wpAny (model PySem.Challenge.rw_xm0647_01.row.prog w) (ktrTop dp un gd cn cs L a ccd cl outer) (call (.ref f) vs) Q E s
theorem mix_ok {x z : Int} : IntMulOk ([x, z.fmod 2147483647].getD (Int.toNat 1) 0) ([x, z.fmod 2147483647].getD (Int.toNat 1) 0) := by
  have h0 : 0 ≤ z.fmod 2147483647 := fmod_lo z (by decide)
  have h1 : z.fmod 2147483647 < 2147483647 := fmod_hi z (by decide)
  have e : ([x, z.fmod 2147483647] : List Int).getD (Int.toNat 1) 0 = z.fmod 2147483647 := rfl
  rw [e]
  exact IntMulOk.of_left (intBits_le_64 (by omega) (by omega))
theorem fdiv_bounds {x top : Int} (hx : 0 ≤ x) (ht : 1 ≤ top) : 0 ≤ x.fdiv top ∧ x.fdiv top ≤ x := by
  rw [Int.fdiv_eq_ediv_of_nonneg x (by omega)]
  exact ⟨Int.ediv_nonneg hx (by omega), Int.ediv_le_self _ hx⟩
set_option maxRecDepth 100000 in
set_option maxHeartbeats 400000 in
theorem take_call {w : World} {mean : ExcName → Option Value} {mg mb : Str → Option Value} (src : Addr) (G : Int) (top : Int) (tt : Tok) (h1t : 1 ≤ top) (h2t : top ≤ 13) :
    CallS w mean mg mb 3 53 src G [.ref src, .int top tt] (fun _ => True) (fun v => ∃ r t, v = .int r t ∧ 0 ≤ r ∧ r < top) := by
  k_with_none
  intro dp un gd cn cs a ccd cl outer A₀ base h₀ L m s Q E x y tx ty n B F X T hk hdp hun N hx0 hxG hy0 hyP _ hret
  unfold srcO at N
  w_top off
  refine wpAny_call ?_
  k_dflt (refine' code_defG (binds := [(Str.ofString "source", Value.ref src), (Str.ofString "top", Value.int top tt)]) ?k1 ?k2 ?k3 ?k4 ?k5 ?kA ?kF ?kK ?k6 ?k7 ?k8 ?k9 ?kB ?_ ?c2 ?c3 ?c4 ?c5; (case kA => exact rfl); (case kF => exact rfl); (case kK => assumption); (case k1 => k_asm); (case k2 => k_asm); (case k3 => k_asm); (case k4 => k_asm); (case k5 => k_asm); (case k6 => k_is); (case k7 => k_is); (case k8 => ktr_room); (case k9 => exact BindsTo.of_eq rfl); (case c5 => decide); (case kB => exact locs rfl); (case c2 => exact rfl); (case c3 => exact rfl); (case c4 => exact rfl); k_whole)
  intro g L' h1 FG' F' N' B' X' T' GS
  (try dsimp only)
  (try k_fold)
  k_with "binaryOp Mult int int" => (k_dflt (refine mul_int ?_ mix_ok))
  k_steps
  · refine hret _ _ _ _ _ _ _ _ ⟨_, _, rfl, fmod_lo _ (by omega), fmod_hi _ (by omega)⟩ (fdiv_bounds hx0 h1t).1 (Int.le_trans (fdiv_bounds hx0 h1t).2 hxG) hy0 hyP (by exact News.get (by assumption) (.head _)) (fun b o hb e => Fr.keep (by assumption) b o (GS b o e (by simpa using hb))) (by assumption)
  · refine hret _ _ _ _ _ _ _ _ ⟨_, _, rfl, fmod_lo _ (by omega), fmod_hi _ (by omega)⟩ hx0 hxG (fmod_lo _ (by decide)) (fmod_hi _ (by decide)) (by exact News.get (by assumption) (.head _)) (fun b o hb e => Fr.keep (by assumption) b o (GS b o e (by simpa using hb))) (by assumption)
  k_with_none
end
section
theorem strs_at : ∀ {vs : List Value} {ys : List Str}, StrsAre vs ys → ∀ i, i < vs.length → ∃ y t, vs[i]? = some (.str y t) ∧ y ∈ ys
  | _, _, .nil, i, h => by simp at h
  | _, _, .cons y t _, 0, _ => ⟨y, t, rfl, List.mem_cons_self ..⟩
  | _, _, .cons y t r, i + 1, h => by
    obtain ⟨z, u, hz, hm⟩ := strs_at r i (by simpa using h)
    exact ⟨z, u, by simpa using hz, List.mem_cons_of_mem _ hm⟩
/-- an item of a list of texts at any place in it -/
theorem pick_item {prog : Program} {w : World} {A : Around} {E : Value → Shared → Prop} {s : Shared} {value slice : PySem.Expr} {l : Addr} {vs : List Value} {ys : List Str} {k : Int} {u : Tok} {Q : Value → Shared → Prop}
    (hl : s.heap.IsList l vs.toArray) (hv : StrsAre vs ys) (h0 : 0 ≤ k) (hk : k < (vs.length : Int)) (hb : vs.length ≤ 1000) (h : ∀ y t, y ∈ ys → Q (.str y t) s)
    (hs : subscripted slice false (.ref l) (.int k u) = operate [.ref l, .int k u] (getItem (.ref l) (.int k u)) := by with_unfolding_all rfl) :
    wpAny (model prog w) A (subscriptTail value slice (.ref l) (.int k u)) Q E s := by
  obtain ⟨y, t, hy, hm⟩ := strs_at hv k.toNat (by omega)
  exact tail_any hl.typeIs slot_list_getitem.lookup (wpAny_getItem_list hl h0 (by omega) (by simpa using hy) (h y t hm)) hs
theorem news_one {h₀ h h' : Heap} {L src : Addr} {o o' : Obj} (N : News h₀ L h [(src, o)]) (hs : h'.get? src = some o') : News h₀ L h' [(src, o')] := fun p hp => by
  rw [List.mem_singleton.mp hp]
  exact ⟨hs, (N (src, o) (.head _)).2⟩
theorem len_things {prog : Program} {w : World} {A : Around} {E : Value → Shared → Prop} {s : Shared} {l : Addr} {vs : List Value} {Q : Value → Shared → Prop} (hl : s.heap.IsList l vs.toArray) (hb : vs.length ≤ 1000)
    (h : ∀ t k, Q (.int (vs.length : Int) t) { s with toks := k }) : wpAny (model prog w) A (call (.builtin "len") [.ref l]) Q E s :=
  PyProof.Rows.len_list hl (by rw [List.size_toArray]; omega) (by rw [List.size_toArray]; exact h _ _)
set_option maxRecDepth 100000 in
set_option maxHeartbeats 400000 in
theorem one_call {w : World} {mean : ExcName → Option Value} {mg mb : Str → Option Value} (src : Addr) (G : Int) (lst : Addr) (vs : List Value) (ys : List Str) (hv : StrsAre vs ys) (h1 : 1 ≤ vs.length) (h2 : vs.length ≤ 13) :
    CallS w mean mg mb 6 60 src G [.ref src, .ref lst] (fun s => s.heap.IsList lst vs.toArray ∧ lst ≠ src) (fun v => ∃ y t, v = .str y t ∧ y ∈ ys) := by
  k_with_none
  intro dp un gd cn cs a ccd cl outer A₀ base h₀ L m s Q E x y tx ty n B F X T hk hdp hun N hx0 hxG hy0 hyP hpre hret
  obtain ⟨hl, hne⟩ := hpre
  k_with "call ref" => (k_here; k_dflt ((refine take_call src G _ _ (by omega) (by omega) _ _ _ _ _ _ _ _ _ _ _ _ _ _ _ _ _ _ _ _ _ _ (by k_asm) (by k_asm) (by k_asm) (by k_asm) (by exact rfl) (by ktr_room) (by ktr_units) (by assumption) (by assumption) (by assumption) (by assumption) (by assumption) trivial ?_); intro v9 h9 tk9 x9 y9 tx9 ty9 n9 hr9 hx9 hxG9 hy9 hyP9 hs9 hk9 F9; (obtain ⟨r9, t9, rfl, hr0, hr1⟩ := hr9); (have N9 := news_one N' hs9); (try dsimp only); (try k_fold)))
  unfold srcO at N
  w_top off
  refine wpAny_call ?_
  k_dflt (refine' code_defG (binds := [(Str.ofString "source", Value.ref src), (Str.ofString "things", Value.ref lst)]) ?k1 ?k2 ?k3 ?k4 ?k5 ?kA ?kF ?kK ?k6 ?k7 ?k8 ?k9 ?kB ?_ ?c2 ?c3 ?c4 ?c5; (case kA => exact rfl); (case kF => exact rfl); (case kK => assumption); (case k1 => k_asm); (case k2 => k_asm); (case k3 => k_asm); (case k4 => k_asm); (case k5 => k_asm); (case k6 => k_is); (case k7 => k_is); (case k8 => ktr_room); (case k9 => exact BindsTo.of_eq rfl); (case c5 => decide); (case kB => exact locs rfl); (case c2 => exact rfl); (case c3 => exact rfl); (case c4 => exact rfl); k_whole)
  intro g L' h1 FG' F' N' B' X' T' GS
  (try dsimp only)
  (try k_fold)
  have hgl : g.IsList lst vs.toArray := hl.at fun o e => GS lst o e (by simpa using hne)
  k_with "call builtin:len" => (k_here; k_dflt ((refine len_things (hgl.at fun o e => Fr.keep (by k_asm) lst o e) (by omega) ?_); intro t8 k8; (try dsimp only)))
  k_with "subscriptTail Name Call ref int" => (k_here; k_dflt ((refine pick_item (hgl.at fun o e => Fr.keep (by k_asm) lst o e) hv (by omega) (by omega) (by omega) ?_); intro y7 t7 hm7; (try dsimp only)))
  k_steps
  all_goals (refine hret _ _ _ _ _ _ _ _ ⟨y7, t7, rfl, hm7⟩ hx9 hxG9 hy9 hyP9 hs9 (fun b o hb e => hk9 b o hb (Fr.keep F' b o (GS b o e (by simpa using hb)))) (by assumption))
  k_with_none
end
section
theorem first_is : keptEnd (Str.ofString "<!-->x-->") 0 = some 9 := by decide +kernel
theorem second_is : leftOf (Str.ofString "a<!-->x-->b") = Str.ofString "a         b" := by decide +kernel
theorem first_len : (Str.ofString "<!-->x-->").length = 9 := by decide +kernel
theorem second_len : (Str.ofString "a<!-->x-->b").length = 11 := by decide +kernel
theorem first_call {w : World} {mean : ExcName → Option Value} {mg mb : Str → Option Value} (tt ti : Tok) : Call0 w mean mg mb 3 32 [.str (Str.ofString "<!-->x-->") tt, .int 0 ti] (fun k => .int 9 k) := by
  have h := kept_end_call (w := w) (mean := mean) (mg := mg) (mb := mb) (Str.ofString "<!-->x-->") tt 0 ti (Int.le_refl 0) (by rw [first_len]; decide) (by rw [first_len]; decide)
  rw [first_is] at h
  exact h
theorem second_call {w : World} {mean : ExcName → Option Value} {mg mb : Str → Option Value} (tt : Tok) : Call0 w mean mg mb 6 39 [.str (Str.ofString "a<!-->x-->b") tt] (fun k => .str (Str.ofString "a         b") k) := by
  have h := without_kept_call (w := w) (mean := mean) (mg := mg) (mb := mb) (Str.ofString "a<!-->x-->b") tt (by rw [second_len]; decide)
  rw [second_is] at h
  exact h
theorem pool_nonneg (c : Int) (b : Bool) : 0 ≤ (if -1 - c > c then -1 - c else c) * (if b = true then (1 : Int) else 0) := by
  refine Int.mul_nonneg ?_ ?_
  · split <;> omega
  · split <;> decide
theorem ret_pool {s : Shared} {Q : Value → Shared → Prop} {g h' : Heap} {L' b : Addr} {m' : Str → Option Value} {x y : Int} {tx ty : Tok} {n tk' : Nat}
    (hret : ∀ (b : Addr) (h' : Heap) (tk' : Nat) (x y : Int) (tx ty : Tok) (n : Nat), 0 ≤ x → 0 ≤ y → y < 2147483647 → h'.get? b = some (srcO x tx y ty n) → s.heap.get? b = none →
      (∀ b o, s.heap.get? b = some o → h'.get? b = some o) → Q (.ref b) { s with heap := h', toks := tk' })
    (hg : g = s.heap) (F : Fr g L' h' m') (N : News g L' h' [(b, listOf #[.int x tx, .int y ty] n)]) (hx : 0 ≤ x) (hy : 0 ≤ y) (hyP : y < 2147483647) : Q (.ref b) { s with heap := h', toks := tk' } := by
  subst hg
  exact hret b h' tk' x y tx ty n hx hy hyP (N.get (.head _)) (N.fresh (.head _)) F.keep
set_option maxRecDepth 100000 in
set_option maxHeartbeats 400000 in
theorem pool_call {w : World} {mean : ExcName → Option Value} {mg mb : Str → Option Value} (sl : Addr) (vs : List Value) (ns : List Int) (hi : IntsAre vs ns) (hn : ns.length ≤ 63) (tz : Tok) :
    ∀ (dp un : Nat) (gd : Option (List Code)) (cn : Str) (cs : Scope) (a : Addr) (ccd : Value) (cl : List (Str × Addr)) (outer : List Env) (A₀ : Around) (base h₀ : Heap) (L : Addr) (m : Str → Option Value) (s : Shared) (Q E : Value → Shared → Prop),
    Below A₀ base outer h₀ → Fr h₀ L s.heap m → (Mine.hd.heap_39 w.params).In h₀ → Top Mine.hd.view_39 (looseW Mine.hd.view_39 []) mean mg mb h₀ → cs.kind = .function →
    dp + 3 < recursionLimit → un + 24 < cLine → h₀.IsList sl vs.toArray →
    (∀ (b : Addr) (h' : Heap) (tk' : Nat) (x y : Int) (tx ty : Tok) (n : Nat), 0 ≤ x → 0 ≤ y → y < 2147483647 → h'.get? b = some (srcO x tx y ty n) → s.heap.get? b = none →
      (∀ b o, s.heap.get? b = some o → h'.get? b = some o) → Q (.ref b) { s with heap := h', toks := tk' }) →
      wpAny (model PySem.Challenge.rw_xm0647_01.row.prog w) (ktrTop dp un gd cn cs L a ccd cl outer) (call (.ref 46) [.ref sl, .int 0 tz]) Q E s := by
  k_with_none
  intro dp un gd cn cs a ccd cl outer A₀ base h₀ L m s Q E B F X T hk hdp hun hl hret
  w_top off
  refine wpAny_call ?_
  k_dflt (refine' enter0 (binds := [(Str.ofString "script", Value.ref sl), (Str.ofString "k", Value.int 0 tz)]) ?k1 ?k2 ?k3 ?k5 ?kA ?kF ?kK ?k6 ?k7 ?k8 ?k9 ?kB ?_ ?c2 ?c3 ?c4 ?c5; (case kA => exact rfl); (case kF => exact rfl); (case kK => assumption); (case k1 => k_asm); (case k2 => k_asm); (case k3 => k_asm); (case k5 => k_asm); (case k6 => k_is); (case k7 => k_is); (case k8 => ktr_room); (case k9 => exact BindsTo.of_eq rfl); (case c5 => decide); (case kB => exact locs rfl); (case c2 => exact rfl); (case c3 => exact rfl); (case c4 => exact rfl); k_whole)
  intro g L' h1 hg F' N' B' X' T'
  (try dsimp only)
  (try k_fold)
  have hgl : g.IsList sl vs.toArray := hl.at fun o e => by rw [hg]; exact F.keep sl o e
  k_steps
  all_goals (try dsimp only)
  all_goals (try k_unfold)
  all_goals (try dsimp only)
  all_goals (refine ret_pool hret hg (by assumption) (by assumption) (pool_nonneg _ _) (fmod_lo _ (by decide)) (fmod_hi _ (by decide)))
  k_with_none
end
section
theorem off1_of {s : Shared} {h₀ : Heap} {L b : Addr} : ∀ {news : List (Addr × Obj)}, News h₀ L s.heap news → s.heap.get? b = none → LCg.Off1 b news
  | [], _, _ => trivial
  | p :: r, N, hb => by
    refine ⟨fun e => ?_, off1_of (fun q hq => N q (.tail _ hq)) hb⟩
    have h1 := (N p (.head _)).1
    have e' : p.1 = b := e
    rw [e', hb] at h1
    cases h1
theorem off1_at {b : Addr} : ∀ {l : List (Addr × Obj)}, LCg.Off1 b l → ∀ p ∈ l, p.1 ≠ b
  | [], _, _, h => nomatch h
  | _ :: _, x, p, h => by
    rcases List.mem_cons.mp h with rfl | h
    · exact x.1
    · exact off1_at x.2 p h
theorem news_new {s : Shared} {h₀ h' : Heap} {L b : Addr} {m : Str → Option Value} {o : Obj} {news : List (Addr × Obj)} (F : Fr h₀ L s.heap m) (N : News h₀ L s.heap news) (hs : h'.get? b = some o) (hb : s.heap.get? b = none)
    (hk : ∀ b o, s.heap.get? b = some o → h'.get? b = some o) : News h₀ L h' ((b, o) :: news) := fun p hp => by
  rcases List.mem_cons.mp hp with rfl | hp
  · refine ⟨hs, fun e => ?_, ?_⟩
    · obtain ⟨oL, _, _, hL, _⟩ := F.ns
      have e' : b = L := e
      rw [← e', hb] at hL; cases hL
    · cases q : h₀.get? b with
      | none => rfl
      | some o' => have := F.keep b o' q; rw [hb] at this; cases this
  · exact ⟨hk _ _ (N p hp).1, (N p hp).2⟩
theorem news_src {h₀ h h' : Heap} {L src : Addr} {o o' : Obj} (pre rest : List (Addr × Obj)) (N : News h₀ L h (pre ++ (src, o) :: rest)) (h1 : LCg.Off1 src pre) (h2 : LCg.Off1 src rest)
    (hk : ∀ b o, b ≠ src → h.get? b = some o → h'.get? b = some o) (hs : h'.get? src = some o') : News h₀ L h' (pre ++ (src, o') :: rest) := fun p hp => by
  rcases List.mem_append.mp hp with q | q
  · exact ⟨hk _ _ (off1_at h1 p q) (N p (List.mem_append_left _ q)).1, (N p (List.mem_append_left _ q)).2⟩
  · rcases List.mem_cons.mp q with rfl | q
    · exact ⟨hs, (N (src, o) (List.mem_append_right _ (.head _))).2⟩
    · exact ⟨hk _ _ (off1_at h2 p q) (N p (List.mem_append_right _ (.tail _ q))).1, (N p (List.mem_append_right _ (.tail _ q))).2⟩
theorem news_head {h₀ h : Heap} {L : Addr} {p q : Addr × Obj} {rest : List (Addr × Obj)} (N : News h₀ L h (p :: q :: rest)) : News h₀ L h (q :: p :: rest) := fun x hx => N x (by
  rcases List.mem_cons.mp hx with rfl | hx
  · exact .tail _ (.head _)
  · rcases List.mem_cons.mp hx with rfl | hx
    · exact .head _
    · exact .tail _ (.tail _ hx))
theorem news_at {h₀ h : Heap} {L src : Addr} {o : Obj} {news : List (Addr × Obj)} (N : News h₀ L h news) (hm : (src, o) ∈ news) : News h₀ L h [(src, o)] := fun p hp => by
  rw [List.mem_singleton.mp hp]
  exact N _ hm
theorem list_at {h₀ h : Heap} {L l : Addr} {vs : List Value} {n : Nat} {news : List (Addr × Obj)} (N : News h₀ L h news) (hm : (l, listOf vs.toArray n) ∈ news) : h.IsList l vs.toArray := ⟨_, N.get hm, rfl, _, rfl⟩
/-- a value of one of two written numbers -/
def IfEnd (s : Shared) (v : Value) (s' : Shared) : Prop := ∃ top tt tk, v = .int top tt ∧ s' = { s with toks := tk } ∧ 1 ≤ top ∧ top ≤ 13
theorem if_join {M : Model} {A : Around} {t : Sem Value} {E : Value → Shared → Prop} {s : Shared} {Q : Value → Shared → Prop} (h : wpAny M A t (IfEnd s) E s) (k : ∀ top tt tk, 1 ≤ top → top ≤ 13 → Q (.int top tt) { s with toks := tk }) : wpAny M A t Q E s :=
  wpAny_mono h (fun _ _ ⟨top, tt, tk, e1, e2, h1, h2⟩ => by rw [e1, e2]; exact k top tt tk h1 h2) fun _ _ e => e
def menu1 : List Str := [Str.ofString "<![CDATA[", Str.ofString "]]>", Str.ofString "<!--", Str.ofString "-->", Str.ofString "<?", Str.ofString "?>", Str.ofString "<", Str.ofString "-", Str.ofString "]", Str.ofString ">", Str.ofString "ab", Str.ofString "&c;"]
def menu2 : List Str := [Str.ofString "a", Str.ofString " ", Str.ofString "\t", Str.ofString "\n", Str.ofString "\x0d"]
theorem menu1_len : ∀ z ∈ menu1, z.length ≤ 9 := by decide +kernel
theorem menu2_len : ∀ z ∈ menu2, z.length ≤ 9 := by decide +kernel
theorem sum_len : ∀ (zs : List Str), (∀ z ∈ zs, z.length ≤ 9) → (zs.map (·.length)).sum ≤ 9 * zs.length
  | [], _ => by simp
  | z :: r, h => by
    have h1 := h z (.head _)
    have h2 := sum_len r fun y hy => h y (.tail _ hy)
    simp only [List.map_cons, List.sum_cons, List.length_cons]
    omega
theorem fit_len {zs : List Str} (h : ∀ z ∈ zs, z.length ≤ 9) (hn : zs.length ≤ 12) : (zs.map (·.length)).sum + zs.length * (Str.ofString "").length ≤ 16777216 := by
  have := sum_len zs h
  rw [len_nil]; omega
theorem join_len {zs : List Str} (h : ∀ z ∈ zs, z.length ≤ 9) (hn : zs.length ≤ 12) : (Txt.join (Str.ofString "") zs).length ≤ 10000 := by
  have := sum_len zs h
  rw [← tl_length, tl_join, flat_len]
  omega
def Bounds (G x y : Int) : Prop := 0 ≤ x ∧ x ≤ G ∧ 0 ≤ y ∧ y < 2147483647
def DrawEl (src : Addr) (rest : List (Addr × Obj)) (G : Int) (menu : List Str) (v : Value) (news' : List (Addr × Obj)) : Prop :=
  ∃ z t x tx y ty n, v = .str z t ∧ z ∈ menu ∧ news' = (src, srcO x tx y ty n) :: rest ∧ Bounds G x y
section
variable {prog : Program} {w : World} {A : Around} {h₀ : Heap} {L : Addr} {m : Str → Option Value} {env : Env} {elt : Expr} {x : Str} {scope : Scope} {cl : List (Str × Addr)} {s : Shared} {S : List (Addr × Obj) → Prop} {P : Nat → Value → Prop} {Fin : List Value → List (Addr × Obj) → Prop}
theorem draw_rest {n : Nat} {src : Addr} {rest : List (Addr × Obj)} (G : Int) (menu : List Str) {x0 y0 : Int} {tx0 ty0 : Tok} {n0 : Nat} (hB : Bounds G x0 y0)
    (turn : ∀ i ys xx tx y ty n' I oI C oC D m₂ h tk (E' : Value → Shared → Prop), i < n → Bounds G xx y → LCg.NsObj oC m₂ → Fr h₀ L h m → News h₀ L h ((I, oI) :: (C, oC) :: (D, LCg.lst ys) :: (src, srcO xx tx y ty n') :: rest) → LCg.Off3 I C D ((src, srcO xx tx y ty n') :: rest) →
      wpAny (model prog w) A (eval elt (compEnvC scope cl C env)) (LCg.CompEnd h₀ L m { s with heap := h, toks := tk } I oI C oC D (LCg.lst ys) S (DrawEl src rest G menu)) E' { s with heap := h, toks := tk })
    (fin : ∀ ys zs xx tx y ty n', StrsAre ys zs → zs.length = n → (∀ z ∈ zs, z ∈ menu) → Bounds G xx y → Fin ys ((src, srcO xx tx y ty n') :: rest)) :
    LCg.CompRest prog w A h₀ L m env elt x scope cl s S P Fin n 0 [] ((src, srcO x0 tx0 y0 ty0 n0) :: rest) := by
  refine inv_rest (n := n) (fun i ys nw => ∃ xx tx y ty n', nw = (src, srcO xx tx y ty n') :: rest ∧ Bounds G xx y ∧ ∃ zs, StrsAre ys zs ∧ zs.length = i ∧ ∀ z ∈ zs, z ∈ menu) ?_ ?_ n 0 [] _ (Nat.zero_add n) ⟨x0, tx0, y0, ty0, n0, rfl, hB, [], .nil, rfl, fun _ h => nomatch h⟩
  · rintro i v ys nw I oI C oC D m₂ h tk E' hi _ ⟨xx, tx, y, ty, n', rfl, hb, zs, hz, hl, hm⟩ hC _ F N off _
    refine wpAny_mono (turn i ys xx tx y ty n' I oI C oC D m₂ h tk E' hi hb hC F N off) (fun v' s₂ hq => ?_) fun _ _ e => e
    obtain ⟨h', tk', nw', e, F', N', off', hS, z, t, x1, tx1, y1, ty1, n1, rfl, hzm, rfl, hb1⟩ := hq
    exact ⟨h', tk', _, e, F', N', off', hS, x1, tx1, y1, ty1, n1, rfl, hb1, zs ++ [z], strs_snoc hz z t, by rw [List.length_append, List.length_singleton, hl], fun u hu => by
      rcases List.mem_append.mp hu with hu | hu
      · exact hm u hu
      · rw [List.mem_singleton.mp hu]; exact hzm⟩
  · rintro ys nw ⟨xx, tx, y, ty, n', rfl, hb, zs, hz, hl, hm⟩
    exact fin ys zs xx tx y ty n' hz hl hm hb
end
/-- a letter's blank -/
def hA (z : Str) : Str := if (z == Str.ofString "a") = true then Str.ofString "a" else Str.ofString " "
theorem menu2_sub : ∀ z ∈ menu2, (tl z).map sub3 = tl (hA z) := by decide +kernel
theorem flat_sub : ∀ zs : List Str, (∀ z ∈ zs, z ∈ menu2) → (flat zs).map sub3 = flat (zs.map hA)
  | [], _ => rfl
  | z :: r, h => by
    have h1 := menu2_sub z (h z (.head _))
    have h2 := flat_sub r fun y hy => h y (.tail _ hy)
    unfold flat at h2 ⊢
    rw [List.map_cons, List.flatten_cons, List.map_append, h1, h2]
    rfl
theorem blanks_agree {zs : List Str} (h : ∀ z ∈ zs, z ∈ menu2) : blankOf (Txt.join (Str.ofString "") zs) = Txt.join (Str.ofString "") (zs.map hA) := by
  refine tl_inj ?_
  rw [tl_blankOf, tl_join, tl_join, flat_sub zs h]
theorem hA_len (z : Str) : (hA z).length ≤ 9 := by
  unfold hA
  split <;> decide
end
section
def MapEl (news : List (Addr × Obj)) (z : Str) (v : Value) (news' : List (Addr × Obj)) : Prop := news' = news ∧ ∃ t, v = .str (hA z) t
theorem map_a {news : List (Addr × Obj)} {z : Str} {t : Tok} (h : (z == Str.ofString "a") = true) : MapEl news z (.str (Str.ofString "a") t) news := ⟨rfl, t, by unfold hA; rw [if_pos h]⟩
theorem map_b {news : List (Addr × Obj)} {z : Str} {t : Tok} (h : (z == Str.ofString "a") = false) : MapEl news z (.str (Str.ofString " ") t) news := ⟨rfl, t, by unfold hA; rw [if_neg (by rw [h]; exact Bool.false_ne_true)]⟩
theorem strs_get : ∀ {vs : List Value} {zs : List Str}, StrsAre vs zs → ∀ (i : Nat) (v : Value), vs[i]? = some v → ∃ z t, v = Value.str z t ∧ zs[i]? = some z
  | _, _, .nil, i, v, h => by simp at h
  | _, _, .cons y t r, i, v, h => by
    cases i with
    | zero => exact ⟨y, t, (Option.some.inj h).symm, rfl⟩
    | succ i =>
      obtain ⟨z, u, hz, hm⟩ := strs_get r i v (by simpa using h)
      exact ⟨z, u, hz, by simpa using hm⟩
theorem lst_mem {h₀ h : Heap} {L l : Addr} {vs : List Value} {news : List (Addr × Obj)} (N : News h₀ L h news) (hm : (l, LCg.lst vs) ∈ news) : h.IsList l vs.toArray := ⟨_, N.get hm, rfl, _, rfl⟩
theorem join_any {prog : Program} {w : World} {A : Around} {E : Value → Shared → Prop} {s : Shared} {D : Addr} {ys : List Value} {zs : List Str} {t0 : Tok} {Q : Value → Shared → Prop} (hl : s.heap.IsList D ys.toArray) (hz : StrsAre ys zs) (h9 : ∀ z ∈ zs, z.length ≤ 9) (hn : zs.length ≤ 12)
    (k : ∀ t k, (Txt.join (Str.ofString "") zs).length ≤ 10000 → Q (.str (Txt.join (Str.ofString "") zs) t) { s with toks := k }) : wpAny (model prog w) A (call (.builtin "str.join") [.str (Str.ofString "") t0, .ref D]) Q E s :=
  join_list hl hz (fit_len h9 hn) fun t' k' => k t' k' (join_len h9 hn)
theorem ne_same {prog : Program} {w : World} {A : Around} {E : Value → Shared → Prop} {s : Shared} {a b : Str} {t u : Tok} {Q : Value → Shared → Prop} (e : a = b) (h : Q (.bool false) s) : wpAny (model prog w) A (compareOp .NotEq (.str a t) (.str b u)) Q E s := by
  subst e
  refine PyProof.Rows.ne_str ?_
  rw [bne_self_eq_false]
  exact h
theorem menu1_are (t1 t2 t3 t4 t5 t6 t7 t8 t9 t10 t11 t12 : Tok) : StrsAre [.str (Str.ofString "<![CDATA[") t1, .str (Str.ofString "]]>") t2, .str (Str.ofString "<!--") t3, .str (Str.ofString "-->") t4, .str (Str.ofString "<?") t5, .str (Str.ofString "?>") t6, .str (Str.ofString "<") t7, .str (Str.ofString "-") t8, .str (Str.ofString "]") t9, .str (Str.ofString ">") t10, .str (Str.ofString "ab") t11, .str (Str.ofString "&c;") t12] menu1 :=
  .cons _ _ (.cons _ _ (.cons _ _ (.cons _ _ (.cons _ _ (.cons _ _ (.cons _ _ (.cons _ _ (.cons _ _ (.cons _ _ (.cons _ _ (.cons _ _ .nil)))))))))))
theorem menu2_are (t1 t2 t3 t4 t5 : Tok) : StrsAre [.str (Str.ofString "a") t1, .str (Str.ofString " ") t2, .str (Str.ofString "\t") t3, .str (Str.ofString "\n") t4, .str (Str.ofString "\x0d") t5] menu2 :=
  .cons _ _ (.cons _ _ (.cons _ _ (.cons _ _ (.cons _ _ .nil))))
section
variable {prog : Program} {w : World} {A : Around} {h₀ : Heap} {L : Addr} {m : Str → Option Value} {env : Env} {elt : Expr} {x : Str} {scope : Scope} {cl : List (Str × Addr)} {s : Shared} {S : List (Addr × Obj) → Prop} {Fin : List Value → List (Addr × Obj) → Prop}
theorem map_rest {vs : List Value} {zs : List Str} {news : List (Addr × Obj)} (hz : StrsAre vs zs)
    (turn : ∀ ys z tz I oI C oC D m₂ h tk (E' : Value → Shared → Prop), LCg.NsObj oC m₂ → m₂ x = some (.str z tz) → Fr h₀ L h m → News h₀ L h ((I, oI) :: (C, oC) :: (D, LCg.lst ys) :: news) → LCg.Off3 I C D news →
      wpAny (model prog w) A (eval elt (compEnvC scope cl C env)) (LCg.CompEnd h₀ L m { s with heap := h, toks := tk } I oI C oC D (LCg.lst ys) S (MapEl news z)) E' { s with heap := h, toks := tk })
    (fin : ∀ ys, StrsAre ys (zs.map hA) → Fin ys news) : LCg.CompRest prog w A h₀ L m env elt x scope cl s S (fun i v => vs.toArray[i]? = some v) Fin vs.toArray.size 0 [] news := by
  refine inv_rest (n := vs.toArray.size) (fun i ys nw => nw = news ∧ StrsAre ys ((zs.take i).map hA)) ?_ ?_ vs.toArray.size 0 [] _ (Nat.zero_add _) ⟨rfl, .nil⟩
  · rintro i v ys nw I oI C oC D m₂ h tk E' hi hv ⟨rfl, hy⟩ hC hx F N off _
    obtain ⟨z, tz, rfl, hzi⟩ := strs_get hz i v (by simpa using hv)
    refine wpAny_mono (turn ys z tz I oI C oC D m₂ h tk E' hC hx F N off) (fun v' s₂ hq => ?_) fun _ _ e => e
    obtain ⟨h', tk', nw', e, F', N', off', hS, rfl, t, rfl⟩ := hq
    refine ⟨h', tk', _, e, F', N', off', hS, rfl, ?_⟩
    rw [List.take_add_one, hzi, List.map_append]
    exact strs_snoc hy _ t
  · rintro ys nw ⟨rfl, hy⟩
    rw [List.size_toArray, List.take_of_length_le (Nat.le_of_eq hz.length.symm)] at hy
    exact fin ys hy
end
local macro_rules | `(tactic| walk_at "eval ListComp") => `(tactic| (k_here; k_dflt (refine LCg.ListComp_U (F₀ := by k_asm) (by with_unfolding_all rfl) (by decide) (by rfl) (by decide) (by rfl) ?_)))
local macro_rules | `(tactic| walk_at "exec Assign cons ListComp") => `(tactic| (k_here; k_dflt (refine LCg.Assign_ListComp_U (F₀ := by k_asm) (by rfl) (by with_unfolding_all rfl) (by with_unfolding_all rfl) (by decide) (by rfl) (by decide) (by rfl) (by rfl) (by rfl) ?_)))
local macro_rules | `(tactic| walk_at "CompSrc") => `(tactic| (k_here; k_extra "my src"))
local macro_rules | `(tactic| walk_at "CompEnd") => `(tactic| (k_here; k_extra "my end"))
local macro_rules | `(tactic| walk_at "eval IfExp") => `(tactic| (k_here; k_extra "my if"))
set_option maxRecDepth 100000 in
set_option maxHeartbeats 400000 in
theorem law_holds : PySem.Challenge.rw_xm0647_01.Holds := Mine.hd (by
  k_with_none
  k_go0
  (all_goals try k_fold)
  k_with "my if" => ((with_reducible show wpAny _ _ (eval (Expr.IfExp _ (Expr.Constant (Const.int 13) _ _) _ _) _) _ _ _); (fail_if_success (with_reducible show wpAny _ _ _ (IfEnd _) _ _)); k_dflt (refine if_join ?_ (fun top9 tt9 tk9 h19 h29 => ?_)))
  k_with "my src" => (k_dflt ((refine LCg.CompSrc.range (by exact rfl) (by k_asm) (by k_asm) (by assumption) (by exact small_one (by omega) (by omega) (by omega) (by omega)) (by exact rangeSize_nat _ _) (by rw [PySem.sizeLine_eq]; omega) ?_); intro g5; refine draw_rest _ menu1 hB9 (fun i5 ys5 xx5 tx5 y5 ty5 n5 I5 oI5 C5 oC5 D5 m5 h5 tk5 E5 hi5 hb5 hC5 F5 N5 off5 => ?_) (fun ys6 zs6 xx6 tx6 y6 ty6 n6 hz6 hl6 hm6 hb6 => have h96 : ∀ z ∈ zs6, z.length ≤ 9 := fun z hz => menu1_len z (hm6 z hz); have hn6 : zs6.length ≤ 12 := (by omega); ?_)))
  k_with "my src" => (k_dflt ((have gd := hz6); (refine LCg.CompSrc.range (by exact rfl) (by k_asm) (by k_asm) (by assumption) (by exact small_one (by omega) (by omega) (by omega) (by omega)) (by exact rangeSize_nat _ _) (by rw [PySem.sizeLine_eq]; omega) ?_); intro g5; refine draw_rest _ menu2 hB9 (fun i5 ys5 xx5 tx5 y5 ty5 n5 I5 oI5 C5 oC5 D5 m5 h5 tk5 E5 hi5 hb5 hC5 F5 N5 off5 => ?_) (fun ys7 zs7 xx7 tx7 y7 ty7 n7 hz7 hl7 hm7 hb7 => have h97 : ∀ z ∈ zs7, z.length ≤ 9 := fun z hz => menu2_len z (hm7 z hz); have hn7 : zs7.length ≤ 12 := (by omega); ?_)))
  k_with "my src" => (k_dflt ((have gd := hz7); (refine LCg.CompSrc.ledger (by exact rfl) (by k_asm) (by k_asm) (by k_mem) (by rw [PySem.sizeLine_eq, List.size_toArray, hz7.length]; omega) ?_); intro g5; refine map_rest hz7 (fun ys5 z5 tz5 I5 oI5 C5 oC5 D5 m5 h5 tk5 E5 hC5 hx5 F5 N5 off5 => ?_) (fun ys8 hz8 => have h98 : ∀ z ∈ zs7.map hA, z.length ≤ 9 := (fun z hz => by obtain ⟨y, _, rfl⟩ := List.mem_map.mp hz; exact hA_len y); have hn8 : (zs7.map hA).length ≤ 12 := (by rw [List.length_map]; exact hn7); ?_)))
  k_with "my end" => (k_dflt (exact LCg.CompEnd.intro F9 N9 _ (fun p hp => hp) off5 trivial ⟨z9, t9, x8, tx8, y8, ty8, n8, rfl, hz9, rfl, hx8, hxG8, hy8, hyP8⟩))
  k_with "my end" => (k_dflt ((have gd := hz6); exact LCg.CompEnd.intro F9 N9 _ (fun p hp => List.mem_cons_of_mem _ hp) off5 trivial ⟨z9, t9, x8, tx8, y8, ty8, n8, rfl, hz9, rfl, hx8, hxG8, hy8, hyP8⟩))
  k_with "my end" => (k_dflt ((have gd := hz7); exact LCg.CompEnd.intro (by assumption) (by assumption) _ (fun p hp => hp) off5 (Or.inr ⟨_, by k_mem, rfl, _, rfl⟩) (map_a (by assumption))))
  k_with "my end" => (k_dflt ((have gd := hz7); exact LCg.CompEnd.intro (by assumption) (by assumption) _ (fun p hp => hp) off5 (Or.inr ⟨_, by k_mem, rfl, _, rfl⟩) (map_b (by assumption))))
  k_with "call builtin:str.join" => (k_here; k_dflt ((rename News _ _ _ _ => nW); (refine join_any (lst_mem nW (by k_mem)) (by assumption) (by assumption) (by assumption) ?_); intro t8 k8 hj8; (first | (have gd := hz7) | (have nT := news_tail nW)); (try dsimp only)))
  k_with "compareOp NotEq str str" => (k_dflt (refine ne_same (blanks_agree hm7) ?_))
  k_with "call ref" => (k_here; k_dflt ((rename News _ _ _ _ => nW); (refine take_call _ _ _ _ (by omega) (by omega) _ _ _ _ _ _ _ _ _ _ _ _ _ _ _ _ _ _ _ _ _ _ (by k_asm) (by k_asm) (by k_asm) (by k_asm) (by exact rfl) (by ktr_room) (by ktr_units) (by exact news_at nW (by k_mem)) (by assumption) (by exact Int.le_refl _) (by assumption) (by assumption) trivial ?_); intro v9 h9 tk9 x8 y8 tx8 ty8 n8 hr9 hx8 hxG8 hy8 hyP8 hs9 hk9 F9; (obtain ⟨r9, t9, rfl, hr0, hr1⟩ := hr9); (have N9 := news_head (news_src [_] _ nW (by simp only [LCg.Off1, and_true]; omega) (by simp only [LCg.Off1, and_true]; omega) hk9 hs9)); (have hB9 : Bounds _ x8 y8 := ⟨hx8, hxG8, hy8, hyP8⟩); (try dsimp only); (try k_fold)))
  k_with "call ref" => (k_here; k_dflt ((rename News _ _ _ _ => nW); (refine take_call _ _ _ _ (by omega) (by omega) _ _ _ _ _ _ _ _ _ _ _ _ _ _ _ _ _ _ _ _ _ _ (by k_asm) (by k_asm) (by k_asm) (by k_asm) (by exact rfl) (by ktr_room) (by ktr_units) (by exact news_at nW (by k_mem)) (hb6.1) (hb6.2.1) (hb6.2.2.1) (hb6.2.2.2) trivial ?_); intro v9 h9 tk9 x8 y8 tx8 ty8 n8 hr9 hx8 hxG8 hy8 hyP8 hs9 hk9 F9; (obtain ⟨r9, t9, rfl, hr0, hr1⟩ := hr9); (have N9 := news_src [] _ nW trivial (by simp only [LCg.Off1, and_true]; omega) hk9 hs9); (have hB9 : Bounds _ x8 y8 := ⟨hx8, hxG8, hy8, hyP8⟩); (try dsimp only); (try k_fold)))
  k_with "call ref" => (k_here; k_dflt ((rename News _ _ _ _ => nW); (have off6 := off5); (simp only [LCg.Off3, and_true] at off6); (have hL5 := list_at nW (.tail _ (.tail _ (.tail _ (.tail _ (.head _)))))); (refine one_call _ _ _ _ _ (menu1_are _ _ _ _ _ _ _ _ _ _ _ _) (by exact Nat.le_of_ble_eq_true rfl) (by exact Nat.le_of_ble_eq_true rfl) _ _ _ _ _ _ _ _ _ _ _ _ _ _ _ _ _ _ _ _ _ _ (by k_asm) (by k_asm) (by k_asm) (by k_asm) (by exact rfl) (by ktr_room) (by ktr_units) (by exact news_at nW (by k_mem)) hb5.1 hb5.2.1 hb5.2.2.1 hb5.2.2.2 (by exact ⟨hL5, neN (by omega)⟩) ?_); intro v9 h9 tk9 x8 y8 tx8 ty8 n8 hr9 hx8 hxG8 hy8 hyP8 hs9 hk9 F9; (obtain ⟨z9, t9, rfl, hz9⟩ := hr9); (have N9 := news_src [_, _, _] _ nW (by simp only [LCg.Off1, and_true]; omega) (by simp only [LCg.Off1, and_true]; omega) hk9 hs9); (try dsimp only); (try k_fold)))
  k_with "call ref" => (k_here; k_dflt ((rename News _ _ _ _ => nW); (have off6 := off5); (simp only [LCg.Off3, and_true] at off6); (have hL5 := list_at nW (.head _)); (refine one_call _ _ _ _ _ (menu2_are _ _ _ _ _) (by exact Nat.le_of_ble_eq_true rfl) (by exact Nat.le_of_ble_eq_true rfl) _ _ _ _ _ _ _ _ _ _ _ _ _ _ _ _ _ _ _ _ _ _ (by k_asm) (by k_asm) (by k_asm) (by k_asm) (by exact rfl) (by ktr_room) (by ktr_units) (by exact news_at nW (by k_mem)) hb5.1 hb5.2.1 hb5.2.2.1 hb5.2.2.2 (by exact ⟨hL5, neN (by omega)⟩) ?_); intro v9 h9 tk9 x8 y8 tx8 ty8 n8 hr9 hx8 hxG8 hy8 hyP8 hs9 hk9 F9; (obtain ⟨z9, t9, rfl, hz9⟩ := hr9); (have N9 := news_src [_, _, _, _] _ nW (by simp only [LCg.Off1, and_true]; omega) (by simp only [LCg.Off1, and_true]; omega) hk9 hs9); (try dsimp only); (try k_fold)))
  k_with "call ref" => (k_here; k_dflt ((refine blank_call _ _ (by assumption) _ _ _ _ _ _ _ _ _ _ _ _ _ _ _ _ _ (by k_asm) (by k_asm) (by k_asm) (by k_asm) (by exact rfl) (by ktr_room) (by ktr_units) ?_); intro t9 h9 tk9 hk9; (have F9 := Fr.keeps (by assumption) hk9); (have N9 := News.grown (by assumption) hk9); (try dsimp only); (try k_fold)))
  k_with "call ref" => (k_here; k_dflt ((refine law_right_call _ _ (by assumption) _ _ _ _ _ _ _ _ _ _ _ _ _ _ _ _ _ (by k_asm) (by k_asm) (by k_asm) (by k_asm) (by exact rfl) (by ktr_room) (by ktr_units) ?_); intro t9 h9 tk9 hk9; (have F9 := Fr.keeps (by assumption) hk9); (have N9 := News.grown (by assumption) hk9); (try dsimp only); (try k_fold)))
  k_with "call ref" => (k_here; k_dflt ((refine pool_call _ _ _ (by assumption) (by omega) _ _ _ _ _ _ _ _ _ _ _ _ _ _ _ _ _ _ (by k_asm) (by k_asm) (by k_asm) (by k_asm) (by exact rfl) (by ktr_room) (by ktr_units) (by assumption) ?_); intro b9 h9 tk9 x9 y9 tx9 ty9 n9 hx9 hy9 hyP9 hs9 hb9 hk9; (rename News _ _ _ _ => nW); (have N9 := news_new (by assumption) nW hs9 hb9 hk9); (have off9 := off1_of nW hb9); (simp only [LCg.Off1, and_true] at off9); (have F9 := Fr.keeps (by assumption) hk9); (try dsimp only); (try k_fold)))
  k_with "call ref" => (k_here; k_dflt ((refine first_call _ _  _ _ _ _ _ _ _ _ _ _ _ _ _ _ _ _ _ (by k_asm) (by k_asm) (by k_asm) (by k_asm) (by exact rfl) (by ktr_room) (by ktr_units) ?_); intro t9 h9 tk9 hk9; (have F9 := Fr.keeps (by assumption) hk9); (have N9 := News.grown (by assumption) hk9); (try dsimp only); (try k_fold)))
  k_with "call ref" => (k_here; k_dflt ((refine second_call _  _ _ _ _ _ _ _ _ _ _ _ _ _ _ _ _ _ (by k_asm) (by k_asm) (by k_asm) (by k_asm) (by exact rfl) (by ktr_room) (by ktr_units) ?_); intro t9 h9 tk9 hk9; (have F9 := Fr.keeps (by assumption) hk9); (have N9 := News.grown (by assumption) hk9); (try dsimp only); (try k_fold)))
  k_steps
  all_goals (exact ⟨_, _, _, rfl, rfl, by decide, by decide⟩))
end
end Mine
theorem PySem.Challenge.cw_xm0647_01_holds : PySem.Challenge.rw_xm0647_01.Holds :=
  Mine.law_holds
