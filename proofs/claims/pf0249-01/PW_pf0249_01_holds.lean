import PyProof.Rows.All
import Wide.All
import OpenK.AllK
import Wide.FinOn
import Lean
import PySem.Challenge.RW_pf0249_01
open PySem PySem.W PySem.Spec PySem.Calls PyProof.Rows
set_option Elab.async false
set_option compiler.extract_closed false
set_option maxRecDepth 100000
set_option maxHeartbeats 8000000
set_option linter.unusedVariables false
namespace Mine
open_top hd for PySem.Challenge.rw_pf0249_01

/-- the ground heap of a call: the state's heap less the ledger -/
structure Hid (h : Heap) (news : List (Addr × Obj)) (g : Heap) : Prop where
  eq : g = hideAll h (news.map (·.1))

section
variable {prog : Program} {w : World} {A₀ A : Around} {s : Shared} {base h₀ : Heap} {outer : List Env} {L : Addr} {m mg mb : Str → Option Value} {env : Env} {news : List (Addr × Obj)} {K : Frag} {p : Program} {loose : List Str} {mean : ExcName → Option Value}
  {R : Result → Shared → Prop} {name qual : Str} {params : Arguments} {body : List Stmt} {scope : Scope} {dV kV doc pm cdv ct oc : Value} {an od : Option Addr} {osl : Array (Option Value)} {f : Addr} {args : Args} {binds : List (Str × Value)}

/-- a def is entered, and the ground of its frame is told -/
theorem enter_told (B : Below A₀ base outer h₀) (F : Fr h₀ L s.heap m) (X₀ : K.In h₀) (N : News h₀ L s.heap news) (T : Top p loose mean mg mb h₀) (hA : A.frames = some (env :: outer)) (hf : env.frame = some L) (hke : env.scope.kind = .function)
    (ho : K.lookup f = some ⟨oc, od, .func (fnOf name qual params body scope dV kV doc pm an cdv ct), osl⟩) (hcd : codeIn K cdv qual = true) (hroom : A.depth < recursionLimit)
    (hbind : BindsTo s (fnOf name qual params body scope dV kV doc pm an cdv ct) args binds) (hloc : ∀ y ∈ binds, scope.names.lookup y.1 = some .local)
    (h : ∀ g L' h₁, Hid s.heap news g → Fr h₀ L g m → Fr g L' h₁ (fun y => binds.reverse.lookup y) → News g L' h₁ news → Below A base (env :: outer) g → K.In g → Top p loose mean mg mb g →
      wpAny (model prog w) (A.deeper (envOf qual scope L' f cdv)) (execs body (envOf qual scope L' f cdv))
        (fun fl s' => LeaveK h₀ L m g R (match fl with | .ret v => v | _ => .none) s')
        (fun e s' => wpAny (model prog w) (A.deeper (envOf qual scope L' f cdv)) (leaving (envOf qual scope L' f cdv) e) (fun _ s'' => R (.error e) s'') (fun e' s'' => R (.error e') s'') s')
        { s with heap := h₁, toks := s.toks + binds.length })
    (hco : scope.isCoroutine = false) (hgen : scope.isGenerator = false) (hk : scope.kind = .function)
    (hcell : ∀ x ∈ scope.names, x.2 ≠ .cell) : codeAny (model prog w) A (.call (.ref f) args) R s := by
  obtain ⟨FG, BG, st, lv⟩ := groundX (R := R) B F N hA hf hke
  refine codeAny_call_def (fd := fnOf name qual params body scope dV kV doc pm an cdv ct) (body := body) (binds := binds) hroom ((X₀.keeps F.keep) _ _ ho) rfl (T.nolimit.keeps F.keep) (codeRec_of (X₀.keeps F.keep) hcd) rfl hbind hcell hloc (fun h₁ hns hk₁ => ?_) hco hgen hk
  have nN : News (hideAll s.heap (news.map (·.1))) s.heap.objs.size h₁ news := fun q hq => ⟨hk₁ _ _ (N q hq).1, Nat.ne_of_lt (Heap.lt_size (N q hq).1), hideAll_none _ (List.mem_map_of_mem hq)⟩
  have nF : Fr (hideAll s.heap (news.map (·.1))) s.heap.objs.size h₁ (fun y => binds.reverse.lookup y) := ⟨hns, fun b o e => hk₁ b o (of_hideAll _ e), Nat.le_of_eq (hideAll_size _ _)⟩
  exact wpAny_mono (h _ _ h₁ ⟨rfl⟩ FG nF nN BG (X₀.keeps st) (T.keeps st)) (fun fl s' hl => lv _ _ hl) fun _ _ y => y
end

/-- what a call of a def does, said of the part of the ledger that it reads or turns; all else stands -/
def Does (w : World) (mean : ExcName → Option Value) (mg mb : Str → Option Value) (f : Addr) (d : Nat) (news : List (Addr × Obj)) (args : List Value) (Post : Value → List (Addr × Obj) → Prop) : Prop :=
  ∀ (dp un : Nat) (gd : Option (List Code)) (cn : Str) (cs : Scope) (a : Addr) (ccd : Value) (cl : List (Str × Addr)) (outer : List Env) (A₀ : Around) (base h₀ : Heap) (L : Addr) (m : Str → Option Value) (s : Shared) (Q E : Value → Shared → Prop),
    Below A₀ base outer h₀ → Fr h₀ L s.heap m → (hd.heap_39 w.params).In h₀ → News h₀ L s.heap news → Top hd.view_39 (looseW hd.view_39 []) mean mg mb h₀ → cs.kind = .function →
    dp + d < recursionLimit → un + 100 + 8 * d < cLine →
    (∀ v news' h' tk', Fr h₀ L h' m → News h₀ L h' news' → (∀ b o, (hideAll s.heap (news.map (·.1))).get? b = some o → h'.get? b = some o) → (∀ q ∈ news', (hideAll s.heap (news.map (·.1))).get? q.1 = none) → Post v news' → Q v { s with heap := h', toks := tk' }) →
    wpAny (model PySem.Challenge.rw_pf0249_01.row.prog w) (ktrTop dp un gd cn cs L a ccd cl outer) (call (.ref f) args) Q E s

/-- its use: the caller's ledger is parted in what the call takes and the rest -/
theorem Does.use {w : World} {mean : ExcName → Option Value} {mg mb : Str → Option Value} {f : Addr} {d : Nat} {news rest led : List (Addr × Obj)} {args : List Value} {Post : Value → List (Addr × Obj) → Prop}
    {dp un : Nat} {gd : Option (List Code)} {cn : Str} {cs : Scope} {a : Addr} {ccd : Value} {cl : List (Str × Addr)} {outer : List Env} {A₀ : Around} {base h₀ : Heap} {L : Addr} {m : Str → Option Value} {s : Shared} {Q E : Value → Shared → Prop}
    (S : Does w mean mg mb f d news args Post)
    (B : Below A₀ base outer h₀) (F : Fr h₀ L s.heap m) (X : (hd.heap_39 w.params).In h₀) (N : News h₀ L s.heap led) (T : Top hd.view_39 (looseW hd.view_39 []) mean mg mb h₀) (hk : cs.kind = .function)
    (hn : ∀ q ∈ news, q ∈ led) (hr : ∀ q ∈ rest, q ∈ led) (hs : ∀ q ∈ rest, ∀ r ∈ news, @Ne Nat q.1 r.1)
    (hd : dp + d < recursionLimit) (hu : un + 100 + 8 * d < cLine)
    (ret : ∀ v news' h' tk', Fr h₀ L h' m → News h₀ L h' (news' ++ rest) → (∀ q ∈ news', ∀ r ∈ rest, @Ne Nat q.1 r.1) → Post v news' → Q v { s with heap := h', toks := tk' }) :
    wpAny (model PySem.Challenge.rw_pf0249_01.row.prog w) (ktrTop dp un gd cn cs L a ccd cl outer) (call (.ref f) args) Q E s := by
  refine S dp un gd cn cs a ccd cl outer A₀ base h₀ L m s Q E B F X (fun q hq => N q (hn q hq)) T hk hd hu fun v news' h' tk' F' N' hkeep hfresh hp => ?_
  have hrest : ∀ q ∈ rest, (hideAll s.heap (news.map (·.1))).get? q.1 = some q.2 := fun q hq => by
    refine hideAll_get _ (N q (hr q hq)).1 fun hm => ?_
    obtain ⟨r, hr', e⟩ := List.mem_map.mp hm
    exact hs q hq r hr' e.symm
  refine ret v news' h' tk' F' (fun q hq => ?_) (fun q hq r hr' e => ?_) hp
  · rcases List.mem_append.mp hq with h1 | h1
    · exact N' q h1
    · exact ⟨hkeep _ _ (hrest q h1), (N q (hr q h1)).2⟩
  · have h1 := hfresh q hq
    have h2 := hrest r hr'
    rw [e] at h1
    rw [h1] at h2; cases h2

/-- the end of a def's walk -/
theorem does_end {h₀ g h' : Heap} {L L' : Addr} {m m' : Str → Option Value} {s : Shared} {news news' news₁ : List (Addr × Obj)} {v : Value} {tk' : Nat} {Post : Value → List (Addr × Obj) → Prop} {Q : Value → Shared → Prop}
    (ret : ∀ v news' h' tk', Fr h₀ L h' m → News h₀ L h' news' → (∀ b o, (hideAll s.heap (news.map (·.1))).get? b = some o → h'.get? b = some o) → (∀ q ∈ news', (hideAll s.heap (news.map (·.1))).get? q.1 = none) → Post v news' → Q v { s with heap := h', toks := tk' })
    (H : Hid s.heap news g) (F : Fr h₀ L h' m) (N : News h₀ L h' news₁) (F' : Fr g L' h' m') (N' : News g L' h' news₁) (hs : ∀ q ∈ news', q ∈ news₁) (hp : Post v news') : Q v { s with heap := h', toks := tk' } := by
  obtain ⟨rfl⟩ := H
  exact ret v news' h' tk' F (fun q hq => N q (hs q hq)) (fun b o e => F'.keep b o e) (fun q hq => (N' q (hs q hq)).2.2) hp

/-- a call that turns one object x of the ledger and reads the others -/
def Does1 (w : World) (mean : ExcName → Option Value) (mg mb : Str → Option Value) (f : Addr) (d : Nat) (x : Addr) (o : Obj) (ro : List (Addr × Obj)) (args : List Value) (Post : Value → Obj → Prop) : Prop :=
  Does w mean mg mb f d ((x, o) :: ro) args (fun v news' => ∃ o', news' = (x, o') :: ro ∧ Post v o')

theorem Does1.use {w : World} {mean : ExcName → Option Value} {mg mb : Str → Option Value} {f : Addr} {d : Nat} {x : Addr} {o : Obj} {ro led : List (Addr × Obj)} {g : Obj → List (Addr × Obj)} {args : List Value} {Post : Value → Obj → Prop}
    {dp un : Nat} {gd : Option (List Code)} {cn : Str} {cs : Scope} {a : Addr} {ccd : Value} {cl : List (Str × Addr)} {outer : List Env} {A₀ : Around} {base h₀ : Heap} {L : Addr} {m : Str → Option Value} {s : Shared} {Q E : Value → Shared → Prop}
    (S : Does1 w mean mg mb f d x o ro args Post)
    (B : Below A₀ base outer h₀) (F : Fr h₀ L s.heap m) (X : (hd.heap_39 w.params).In h₀) (N : News h₀ L s.heap led) (T : Top hd.view_39 (looseW hd.view_39 []) mean mg mb h₀) (hk : cs.kind = .function)
    (U : UpdF x o led g) (hro : ∀ q ∈ ro, q ∈ led) (hne : ∀ q ∈ ro, @Ne Nat q.1 x)
    (hd : dp + d < recursionLimit) (hu : un + 100 + 8 * d < cLine)
    (ret : ∀ v o' h' tk', Fr h₀ L h' m → News h₀ L h' (g o') → Post v o' → Q v { s with heap := h', toks := tk' }) :
    wpAny (model PySem.Challenge.rw_pf0249_01.row.prog w) (ktrTop dp un gd cn cs L a ccd cl outer) (call (.ref f) args) Q E s := by
  obtain ⟨pre, post, rfl, hg, h1, h2⟩ := U.split
  have sub : ∀ q ∈ pre ++ post, q ∈ pre ++ (x, o) :: post := fun q hq => by
    rcases List.mem_append.mp hq with h | h
    · exact List.mem_append_left _ h
    · exact List.mem_append_right _ (.tail _ h)
  have hro' : ∀ q ∈ ro, q ∈ pre ++ post := fun q hq => by
    rcases List.mem_append.mp (hro q hq) with h | h
    · exact List.mem_append_left _ h
    · rcases List.mem_cons.mp h with h | h
      · exact absurd (congrArg Prod.fst h) (hne q hq)
      · exact List.mem_append_right _ h
  have hx : ∀ q ∈ pre ++ post, @Ne Nat q.1 x := fun q hq => by
    rcases List.mem_append.mp hq with h | h
    · exact h1 q h
    · exact h2 q h
  refine Does.use (rest := (pre ++ post).filter (fun q => !(ro.map (·.1)).contains q.1)) S B F X N T hk ?_ ?_ ?_ hd hu ?_
  · intro q hq
    rcases List.mem_cons.mp hq with h | h
    · subst h; exact List.mem_append_right _ (.head _)
    · exact hro q h
  · intro q hq
    exact sub q (List.mem_filter.mp hq).1
  · intro q hq r hr
    obtain ⟨h3, h4⟩ := List.mem_filter.mp hq
    rcases List.mem_cons.mp hr with h | h
    · rw [h]; exact hx q h3
    · intro e
      have h5 : (ro.map (·.1)).contains q.1 = true := List.contains_iff_mem.mpr (e ▸ List.mem_map_of_mem h)
      rw [h5] at h4; cases h4
  · rintro v news' h' tk' F' N' _ ⟨o', rfl, hp⟩
    refine ret v o' h' tk' F' ?_ hp
    rw [hg]
    have key : ∀ q ∈ pre ++ post, h'.get? q.1 = some q.2 ∧ q.1 ≠ L ∧ h₀.get? q.1 = none := fun q hq => by
      cases e : (ro.map (·.1)).contains q.1 with
      | true =>
        obtain ⟨r, hr, er⟩ := List.mem_map.mp (List.contains_iff_mem.mp e)
        have e1 := (N q (sub q hq)).1
        have e2 := (N r (hro r hr)).1
        rw [← er] at e1
        have e3 := Option.some.inj (e1.symm.trans e2)
        have := N' r (List.mem_append_left _ (.tail _ hr))
        rw [← er, e3]; exact this
      | false => exact N' q (List.mem_append_right _ (List.mem_filter.mpr ⟨hq, by rw [e]; rfl⟩))
    intro q hq
    rcases List.mem_append.mp hq with h | h
    · exact key q (List.mem_append_left _ h)
    · rcases List.mem_cons.mp h with h | h
      · rw [h]; exact N' _ (List.mem_append_left _ (.head _))
      · exact key q (List.mem_append_right _ h)

theorem does_end1 {h₀ g h' : Heap} {L L' : Addr} {m m' : Str → Option Value} {s : Shared} {x : Addr} {o' : Obj} {ro news news₁ : List (Addr × Obj)} {v : Value} {tk' : Nat} {Post : Value → Obj → Prop} {Q : Value → Shared → Prop}
    (ret : ∀ v news' h' tk', Fr h₀ L h' m → News h₀ L h' news' → (∀ b o, (hideAll s.heap (news.map (·.1))).get? b = some o → h'.get? b = some o) → (∀ q ∈ news', (hideAll s.heap (news.map (·.1))).get? q.1 = none) → (∃ o', news' = (x, o') :: ro ∧ Post v o') → Q v { s with heap := h', toks := tk' })
    (H : Hid s.heap news g) (F : Fr h₀ L h' m) (N : News h₀ L h' news₁) (F' : Fr g L' h' m') (N' : News g L' h' news₁) (hs : ∀ q ∈ (x, o') :: ro, q ∈ news₁) (hp : Post v o') : Q v { s with heap := h', toks := tk' } :=
  does_end ret H F N F' N' hs ⟨_, rfl, hp⟩

/-! ## small rules -/
def IsMin (m : Int) (l : List Int) : Prop := m ∈ l ∧ ∀ x, x ∈ l → m ≤ x
theorem IsMin.one (x : Int) : IsMin x [x] := ⟨by simp, by intro y hy; simp at hy; omega⟩
theorem IsMin.snoc {m x : Int} {l : List Int} (h : IsMin m l) : IsMin (if x < m then x else m) (l ++ [x]) := by
  obtain ⟨h1, h2⟩ := h
  split
  · refine ⟨by simp, fun y hy => ?_⟩
    rcases List.mem_append.mp hy with h3 | h3
    · have := h2 y h3; omega
    · simp at h3; omega
  · refine ⟨List.mem_append_left _ h1, fun y hy => ?_⟩
    rcases List.mem_append.mp hy with h3 | h3
    · exact h2 y h3
    · simp at h3; omega
section
variable {prog : Program} {w : World} {A : Around} {E : Value → Shared → Prop} {s : Shared} {h₀ : Heap} {L l : Addr} {m : Str → Option Value} {news : List (Addr × Obj)} {vs : List Value} {ns : List Int} {Q : Value → Shared → Prop}
theorem min_told {M : Int} (F : Fr h₀ L s.heap m) (N : News h₀ L s.heap news) (hl : s.heap.IsList l vs.toArray) (hi : IntsAre vs ns) (hm : IsMin M ns) (hh : A.handled = none)
    (h : ∀ h' (t : Tok) tk, Fr h₀ L h' m → News h₀ L h' news → Q (.int M t) { s with heap := h', toks := tk }) : wpAny (model prog w) A (call (.builtin "min") [.ref l]) Q E s :=
  kso_min F N hl hi (List.length_pos_of_mem hm.1) hh fun h' M' t tk F' N' h1 h2 => by
    have e : M' = M := Int.le_antisymm (h2 _ hm.1) (hm.2 _ h1)
    subst e
    exact h h' t tk F' N'
theorem menu_told {value slice : PySem.Expr} {k : Int} {u : Tok} {lo hi : Int} (hl : s.heap.IsList l vs.toArray) (hi' : IntsAre vs ns)
    (h0 : 0 ≤ k) (h1 : k < ns.length) (hfit : k < 2 ^ 63) (hb : ns.all (fun k => decide (lo ≤ k) && decide (k ≤ hi)) = true) (h : ∀ v t, lo ≤ v → v ≤ hi → Q (.int v t) s)
    (hs : subscripted slice false (.ref l) (.int k u) = operate [.ref l, .int k u] (getItem (.ref l) (.int k u)) := by with_unfolding_all rfl) :
    wpAny (model prog w) A (subscriptTail value slice (.ref l) (.int k u)) Q E s :=
  item_anyK hl hi' h0 h1 hfit (fun t => by
    have := kmn_in (l := ns) (i := k.toNat) (d := 0) (lo := lo) (hi := hi) (by omega) hb
    exact h _ t this.1 this.2) hs
end

def whole (rest win way gap : Int) : Int := (if 4 * way - 1 < rest then 4 * way - 1 else rest) + 5 * win * gap
def Earned (burst left rest win way gap left' rest' : Int) : Prop :=
  (burst ≤ left + (whole rest win way gap).fdiv (4 * way) → left' = burst ∧ rest' = 0) ∧
  (¬ burst ≤ left + (whole rest win way gap).fdiv (4 * way) → left' = left + (whole rest win way gap).fdiv (4 * way) ∧ rest' = (whole rest win way gap).fmod (4 * way))
/-- what wait_for tells -/
def Waits (size left rest win way W : Int) : Prop :=
  (size ≤ left → W = 0) ∧ (¬ size ≤ left → 1 ≤ W ∧ size ≤ left + (whole rest win way W).fdiv (4 * way) ∧ left + (whole rest win way (W - 1)).fdiv (4 * way) < size)

theorem waits_law {size left rest win way : Int} (hw : 1 ≤ win) (hy : 1 ≤ way) (h : ¬ size ≤ left) :
    Waits size left rest win way ((((size - left) * (4 * way) - (if 4 * way - 1 < rest then 4 * way - 1 else rest)) + 5 * win - 1).fdiv (5 * win)) := by
  refine ⟨fun h' => absurd h' h, fun _ => ?_⟩
  unfold whole
  generalize hr : (if 4 * way - 1 < rest then 4 * way - 1 else rest) = r
  have hr' : r ≤ 4 * way - 1 := by rw [← hr]; split <;> omega
  clear hr
  generalize hb : 4 * way = b at *
  generalize hg : 5 * win = g at *
  have hb0 : 0 < b := by omega
  have hg0 : 0 < g := by omega
  rw [Int.fdiv_eq_ediv_of_nonneg _ (Int.le_of_lt hg0), Int.fdiv_eq_ediv_of_nonneg _ (Int.le_of_lt hb0), Int.fdiv_eq_ediv_of_nonneg _ (Int.le_of_lt hb0)]
  generalize hk : (size - left) * b = k
  have hk' : b ≤ k := by
    have : 1 * b ≤ (size - left) * b := Int.mul_le_mul_of_nonneg_right (by omega) (Int.le_of_lt hb0)
    omega
  generalize hW : (k - r + g - 1) / g = W
  have h1 : g * W ≤ k - r + g - 1 := by rw [← hW]; exact Int.mul_ediv_self_le (by omega)
  have h2 : k - r + g - 1 < g * W + g := by rw [← hW]; exact Int.lt_mul_ediv_self_add hg0
  have h3 : g * (W - 1) = g * W - g := by rw [Int.mul_sub, Int.mul_one]
  refine ⟨?_, ?_, ?_⟩
  · rw [← hW]
    refine (Int.le_ediv_iff_mul_le hg0).mpr ?_
    omega
  · have : size - left ≤ (r + g * W) / b := (Int.le_ediv_iff_mul_le hb0).mpr (by omega)
    omega
  · have : (r + g * (W - 1)) / b < size - left := (Int.ediv_lt_iff_lt_mul hb0).mpr (by omega)
    omega

/-- what holds between two looks: S left at the start, r the part of one then, T earned since -/
def EInv (B S r b T left rest : Int) : Prop :=
  0 ≤ T ∧ ((left = B ∧ rest = 0 ∧ B ≤ S + (r + T) / b) ∨ (left < B ∧ left = S + (r + T) / b ∧ rest = (r + T) % b))

theorem earned_start {B left rest win way left' rest' gap : Int} (hg : gap = 0) (hy : 1 ≤ way) (hr : 0 ≤ rest) (hl : left ≤ B) (hf : left = B → rest = 0) (h : Earned B left rest win way gap left' rest') :
    left' = left ∧ ∃ r, 0 ≤ r ∧ r < 4 * way ∧ EInv B left r (4 * way) 0 left' rest' := by
  subst hg
  unfold Earned whole at h
  rw [Int.mul_zero, Int.add_zero] at h
  generalize hr' : (if 4 * way - 1 < rest then 4 * way - 1 else rest) = r at h
  have h0 : 0 ≤ r := by rw [← hr']; split <;> omega
  have h1 : r < 4 * way := by rw [← hr']; split <;> omega
  have h2 : rest = 0 → r = 0 := by intro e; rw [← hr', e]; split <;> omega
  generalize hb : 4 * way = b at *
  have hb0 : 0 < b := by omega
  have h3 : r / b = 0 := Int.ediv_eq_zero_of_lt h0 h1
  have h4 : r % b = r := Int.emod_eq_of_lt h0 h1
  rw [Int.fdiv_eq_ediv_of_nonneg _ (Int.le_of_lt hb0), Int.fmod_eq_emod_of_nonneg _ (Int.le_of_lt hb0), h3, h4] at h
  by_cases hc : B ≤ left
  · obtain ⟨e1, e2⟩ := h.1 (by omega)
    have e3 : r = 0 := h2 (hf (by omega))
    refine ⟨by omega, r, h0, h1, Int.le_refl 0, .inl ⟨e1, e2, ?_⟩⟩
    rw [Int.add_zero, h3]; omega
  · obtain ⟨e1, e2⟩ := h.2 (by omega)
    refine ⟨by omega, r, h0, h1, Int.le_refl 0, .inr ⟨by omega, ?_, ?_⟩⟩
    · rw [Int.add_zero, h3]; omega
    · rw [Int.add_zero, h4]; exact e2

theorem earned_turn {B S r T left rest win way left' rest' gap : Int} (hy : 1 ≤ way) (hw : 1 ≤ win) (hg : 0 ≤ gap) (h0 : 0 ≤ r) (h1 : r < 4 * way) (hI : EInv B S r (4 * way) T left rest) (h : Earned B left rest win way gap left' rest') :
    EInv B S r (4 * way) (T + 5 * win * gap) left' rest' ∧
      ¬ left' < (if S + (T + 5 * win * gap).fdiv (4 * way) < B then S + (T + 5 * win * gap).fdiv (4 * way) else B) ∧
      ¬ left' > (if S + ((T + 5 * win * gap) + 4 * way - 1).fdiv (4 * way) < B then S + ((T + 5 * win * gap) + 4 * way - 1).fdiv (4 * way) else B) := by
  have hgain : 0 ≤ 5 * win * gap := Int.mul_nonneg (by omega) hg
  unfold Earned whole at h
  generalize 5 * win * gap = q at *
  generalize hb : 4 * way = b at *
  have hb0 : 0 < b := by omega
  obtain ⟨hT, hI⟩ := hI
  simp only [Int.fdiv_eq_ediv_of_nonneg _ (Int.le_of_lt hb0), Int.fmod_eq_emod_of_nonneg _ (Int.le_of_lt hb0)] at h ⊢
  have m1 : ∀ x y : Int, x ≤ y → x / b ≤ y / b := fun x y hxy => Int.ediv_le_ediv hb0 hxy
  have a1 := m1 (T + q) (r + (T + q)) (by omega)
  have a2 := m1 (r + (T + q)) (T + q + b - 1) (by omega)
  have a3 := m1 (r + T) (r + (T + q)) (by omega)
  have rest0 : 0 ≤ rest ∧ rest ≤ b - 1 := by
    rcases hI with ⟨_, e, _⟩ | ⟨_, _, e⟩
    · omega
    · have := Int.emod_nonneg (r + T) (show b ≠ 0 by omega)
      have := Int.emod_lt_of_pos (r + T) hb0
      omega
  rw [if_neg (by omega)] at h
  have key : EInv B S r b (T + q) left' rest' := by
    refine ⟨by omega, ?_⟩
    rcases hI with ⟨e1, e2, e3⟩ | ⟨e1, e2, e3⟩
    · have : 0 ≤ (rest + q) / b := Int.ediv_nonneg (by omega) (Int.le_of_lt hb0)
      obtain ⟨f1, f2⟩ := h.1 (by omega)
      exact .inl ⟨f1, f2, by omega⟩
    · have e4 : r + (T + q) = (rest + q) + b * ((r + T) / b) := by
        have := Int.emod_add_mul_ediv (r + T) b
        omega
      have e5 : (r + (T + q)) / b = (rest + q) / b + (r + T) / b := by
        rw [e4, Int.add_mul_ediv_left _ _ (by omega)]
      have e6 : (r + (T + q)) % b = (rest + q) % b := by
        rw [e4, Int.add_mul_emod_self_left]
      by_cases hc : B ≤ left + (rest + q) / b
      · obtain ⟨f1, f2⟩ := h.1 hc
        exact .inl ⟨f1, f2, by omega⟩
      · obtain ⟨f1, f2⟩ := h.2 hc
        exact .inr ⟨by omega, by omega, by rw [e6]; exact f2⟩
  refine ⟨key, ?_, ?_⟩
  · rcases key.2 with ⟨e1, _, e3⟩ | ⟨e1, e2, _⟩ <;> split <;> omega
  · rcases key.2 with ⟨e1, _, e3⟩ | ⟨e1, e2, _⟩ <;> split <;> omega

theorem earned_end {B S r b T left rest : Int} (hb : 0 < b) (h0 : 0 ≤ r) (h : EInv B S r b T left rest) : 0 ≤ rest ∧ left ≤ B ∧ (left = B → rest = 0) ∧ (S ≤ B → S ≤ left) := by
  obtain ⟨hT, hI⟩ := h
  rcases hI with ⟨e1, e2, e3⟩ | ⟨e1, e2, e3⟩
  · exact ⟨by omega, by omega, fun _ => e2, fun _ => by omega⟩
  · have h1 := Int.emod_nonneg (r + T) (show b ≠ 0 by omega)
    have h2 : 0 ≤ (r + T) / b := Int.ediv_nonneg (by omega) (Int.le_of_lt hb)
    exact ⟨by omega, by omega, fun _ => by omega, fun _ => by omega⟩

theorem least_low {B size left rest win way W l r g : Int} (h : Waits size left rest win way W) (hs : ¬ size ≤ left) (hB : size ≤ B) (hg : g = W - 1) (hE : Earned B left rest win way g l r) : ¬ size ≤ l := by
  subst hg
  obtain ⟨h1, h2, h3⟩ := h.2 hs
  have := (hE.2 (by omega)).1
  omega
theorem least_high {B size left rest win way W l r g : Int} (h : Waits size left rest win way W) (hs : ¬ size ≤ left) (hB : size ≤ B) (hg : g = W) (hE : Earned B left rest win way g l r) : size ≤ l := by
  subst hg
  obtain ⟨h1, h2, h3⟩ := h.2 hs
  by_cases hc : B ≤ left + (whole rest win way g).fdiv (4 * way)
  · have := (hE.1 hc).1
    omega
  · have := (hE.2 hc).1
    omega
theorem waits_sign {size left rest win way W : Int} (h : Waits size left rest win way W) : (size ≤ left ∧ W = 0) ∨ (¬ size ≤ left ∧ 1 ≤ W) := by
  by_cases hc : size ≤ left
  · exact .inl ⟨hc, h.1 hc⟩
  · exact .inr ⟨hc, (h.2 hc).1⟩


def Stop (P : Prop) : Prop := P
theorem Stop.out {P : Prop} (h : P) : Stop P := h
theorem Stop.intro {P : Prop} (h : Stop P) : P := h
section
variable {prog : Program} {w : World} {A : Around} {E : Value → Shared → Prop} {s : Shared} {env : Env} {h₀ : Heap} {x : Str} {body : List Stmt} {Q : Flow → Shared → Prop}

/-- the end of a turn: the ledger may be another one, the walker's own object stands -/
def TurnTo (h₀ : Heap) (L : Addr) (J : (Str → Option Value) → List (Addr × Obj) → Prop) (I : Addr) (oI : Obj) (s₁ : Shared) (Q : Flow → Shared → Prop) (f : Flow) (s₂ : Shared) : Prop :=
  match f with
  | .ret v => Q (.ret v) s₂
  | .brk => Q .next s₂
  | _ => ∃ h' tk m' nx led, s₂ = { s₁ with heap := h', toks := tk } ∧ Fr h₀ L h' m' ∧ News h₀ L h' led ∧ (∀ p ∈ nx, p ∈ led) ∧ (I, oI) ∈ led ∧ (∀ p ∈ nx, @Ne Nat p.1 I) ∧ J m' nx
theorem TurnTo.next {L : Addr} {J : (Str → Option Value) → List (Addr × Obj) → Prop} {I : Addr} {oI : Obj} {s₁ : Shared} {h' : Heap} {tk : Nat} {m' : Str → Option Value} {nx led : List (Addr × Obj)}
    (F : Fr h₀ L h' m') (N : News h₀ L h' led) (hn : ∀ p ∈ nx, p ∈ led) (hI : (I, oI) ∈ led) (ho : ∀ p ∈ nx, @Ne Nat p.1 I) (hJ : J m' nx) : TurnTo h₀ L J I oI s₁ Q .next { s₁ with heap := h', toks := tk } :=
  ⟨h', tk, m', nx, led, rfl, F, N, hn, hI, ho, hJ⟩

theorem range_loop {r : Addr} {a₀ b₀ : Int} {t₀ u₀ v₀ : Tok} {n : Nat} {m₀ : Str → Option Value} {news : List (Addr × Obj)} (J : Nat → (Str → Option Value) → List (Addr × Obj) → Prop)
    (hh : A.handled = none) (hr : IsRange s.heap r a₀ b₀ 1 t₀ u₀ v₀) (hsmall : Builtin.Range.small a₀ b₀ 1 = true) (hn : Builtin.Range.rangeSize a₀ b₀ 1 = (n : Int)) (F : Fr h₀ env.locals s.heap m₀) (N : News h₀ env.locals s.heap news) (h0 : J 0 m₀ news)
    (turn : ∀ I oI i t m₁ nx h tk, i < n → (∀ p ∈ nx, @Ne Nat p.1 I) → J i m₁ nx → Fr h₀ env.locals h (fun y => if y = x then some (.int (a₀ + (i : Int)) t) else m₁ y) → News h₀ env.locals h (nx ++ [(I, oI)]) →
      wpAny (model prog w) A (execs body env) (TurnTo h₀ env.locals (J (i + 1)) I oI { s with heap := h, toks := tk } Q) E { s with heap := h, toks := tk })
    (done : ∀ m₁ nx h tk, J n m₁ nx → Fr h₀ env.locals h m₁ → News h₀ env.locals h nx → Q .next { s with heap := h, toks := tk }) :
    wpAny (model prog w) A (pyIter (.ref r)) (fun it s₂ => LoopAtV prog w A h₀ env x body Q E it s₂) E s := by
  refine wpAny_pyIter_range hr hsmall ?_
  have W : Walks prog w A s.heap.objs.size [s.heap.objs.size] [s.heap.objs.size] n (fun i v => i < n ∧ ∃ t, v = .int (a₀ + i * 1) t)
      (fun i h => IsRangeIter h s.heap.objs.size (a₀ + (i : Nat) * 1) ((n : Int) - (i : Nat)) 1) := (Walks.range hh _ a₀ 1 n).bound
  refine ⟨_, _, _, n, _, _, m₀, news, J, rfl, W, ?_, ?_, ?_, (by show IsRangeIter _ _ _ _ _; rw [hn]; simpa using Heap.get?_push_size _ rfl), F.push _, (fun p hp => ⟨Heap.get?_push_of_some _ (N p hp).1, (N p hp).2⟩), h0, ?_, ?_⟩
  · intro hm
    exact absurd F.ns.lt ((List.mem_singleton.mp hm) ▸ Nat.lt_irrefl _)
  · intro b hb
    rw [List.mem_singleton.mp hb]
    exact next_is_new F
  · intro p hp hI
    exact absurd (Heap.lt_size (N p hp).1) ((List.mem_singleton.mp hI) ▸ Nat.lt_irrefl _)
  · rintro i v m₁ news₁ s₁ own ⟨hh', tk', rfl⟩ hin ⟨_, t, rfl⟩ hJ hoff hown hget hall hst F₁ N₁
    obtain ⟨oI, hoI⟩ : ∃ o, hh'.get? s.heap.objs.size = some o := ⟨_, hst⟩
    have hmem : (s.heap.objs.size, oI) ∈ own := hall _ (List.mem_singleton.mpr rfl) (next_is_new F) oI hoI
    have e1 : (a₀ + (i : Int) * 1) = a₀ + (i : Int) := by omega
    rw [e1] at F₁
    have N₂ : News h₀ env.locals hh' (news₁ ++ [(s.heap.objs.size, oI)]) := fun p hp => by
      rcases List.mem_append.mp hp with h | h
      · exact N₁ p (List.mem_append_right _ h)
      · rw [List.mem_singleton.mp h]; exact N₁ _ (List.mem_append_left _ hmem)
    refine wpAny_mono (turn s.heap.objs.size oI i t m₁ news₁ hh' tk' hin (fun p hp e => hoff p hp (List.mem_singleton.mpr e)) hJ F₁ N₂) (fun f s₂ p => ?_) fun _ _ e => e
    have fin : (∃ h' tk m' nx led, s₂ = { ({ s with heap := hh', toks := tk' } : Shared) with heap := h', toks := tk } ∧ Fr h₀ env.locals h' m' ∧ News h₀ env.locals h' led ∧ (∀ p ∈ nx, p ∈ led) ∧ (s.heap.objs.size, oI) ∈ led ∧ (∀ p ∈ nx, @Ne Nat p.1 s.heap.objs.size) ∧ J (i + 1) m' nx) →
        LoopStepU h₀ env.locals [s.heap.objs.size] own (J (i + 1)) { s with heap := hh', toks := tk' } .next s₂ := by
      rintro ⟨h', tk, m', nx, led, e, F', N', hn', hI, ho, hj⟩
      refine ⟨rfl, h', tk, m', nx, e, F', fun p hp => ?_, fun p hp hq => ho p hp (List.mem_singleton.mp hq), hj⟩
      rcases List.mem_append.mp hp with h | h
      · have e2 : p.1 = s.heap.objs.size := List.mem_singleton.mp (hown p h)
        have e3 : hh'.get? p.1 = some p.2 := hget p h
        rw [e2, hoI] at e3
        have e4 : p = (s.heap.objs.size, oI) := Prod.ext e2 (Option.some.inj e3).symm
        rw [e4]; exact N' _ hI
      · exact N' p (hn' p h)
    cases f with
    | ret v => exact .ret p
    | brk => exact .brk p
    | next => exact .next (fin p)
    | cont => exact .cont (fin p)
  · rintro h' tk m' news' F' N' _ hJ
    exact done m' news' h' tk hJ F' N'
end

local macro_rules | `(tactic| walk_at "mine enter") => `(tactic| (refine' enter_told ?k1 ?k2 ?k3 ?k4 ?k5 ?kA ?kF ?kK ?k6 ?k7 ?k8 ?k9 ?kB ?_ ?c2 ?c3 ?c4 ?c5; (case kA => exact rfl); (case kF => exact rfl); (case kK => assumption); (case k1 => k_asm); (case k2 => k_asm); (case k3 => k_asm); (case k4 => k_asm); (case k5 => k_asm); (case k6 => k_is); (case k7 => k_is); (case k8 => ktr_room); (case k9 => exact BindsTo.of_eq rfl); (case c5 => decide); (case kB => exact locs rfl); (case c2 => exact rfl); (case c3 => exact rfl); (case c4 => exact rfl); k_whole; intro g' L' h' HG' FG' F' N' B' X' T'; (try dsimp only); (try k_lift B'); (try k_fold)))
local macro_rules | `(tactic| walk_at "mine all") => `(tactic| first | exact List.forall_mem_nil _ | (refine' List.forall_mem_cons.mpr ⟨?a, ?b⟩; (case a => k_mem); (case b => walk_at "mine all")))
local macro_rules | `(tactic| walk_at "mine end1") => `(tactic| k_dflt (refine' does_end1 (by assumption) ?H ?kF ?kN ?F ?N ?hs ?hp; (case H => assumption); (case kF => assumption); (case kN => assumption); (case F => assumption); (case N => assumption); (case hs => walk_at "mine all")))
local macro_rules | `(tactic| walk_at "mine ledger") => `(tactic| ((case k1 => k_asm); (case k2 => k_asm); (case k3 => k_asm); (case k4 => k_asm); (case k5 => k_asm); (case kK => first | exact rfl | assumption); (case kU => k_updF); (case kro => walk_at "mine all"); (case kne => k_all); (case kd => ktr_room); (case ku => ktr_units); k_whole))
local macro_rules | `(tactic| units_room) => `(tactic| ktr_units)
local macro_rules | `(tactic| k_units) => `(tactic| ktr_units)
local macro_rules | `(tactic| k_room) => `(tactic| ktr_room)
local macro_rules | `(tactic| walk_at "subscriptTail") => `(tactic| (k_here; (with_reducible show wpAny _ _ (subscriptTail _ _ (Value.ref _) (Value.int _ _)) _ _ _); (with_unfolding_all ((first | (refine' menu_told (lo := 1) (hi := 1000) ?k1 ?k2 ?k3 ?k4 ?k5 ?kb ?_ ?k6; (case k1 => is_list); (case k2 => l_ints); (case kb => decide)) | (refine' menu_told (lo := 0) (hi := 1000) ?k1 ?k2 ?k3 ?k4 ?k5 ?kb ?_ ?k6; (case k1 => is_list); (case k2 => l_ints); (case kb => decide)) | (refine' menu_told (lo := 1) (hi := 1200) ?k1 ?k2 ?k3 ?k4 ?k5 ?kb ?_ ?k6; (case k1 => is_list); (case k2 => l_ints); (case kb => decide))); (case k3 => l_idx); (case k4 => l_idx); (case k5 => l_idx); (case k6 => with_unfolding_all rfl); k_whole)); intro mv' mt' mlo' mhi'))
local macro_rules | `(tactic| k_ne) => `(tactic| (refine neN ?_; (try dsimp only); first | (with_reducible assumption) | (refine Ne.symm ?_; with_reducible assumption)))
local macro_rules | `(tactic| k_all) => `(tactic| first | exact List.forall_mem_nil _ | (refine' List.forall_mem_cons.mpr ⟨?a, ?b⟩; (case a => k_ne); (case b => k_all)))
local macro_rules | `(tactic| walk_at "mine knows") => `(tactic| first | exact List.forall_mem_nil _ | (refine' List.forall_mem_cons.mpr ⟨?a, ?b⟩; (case a => with_unfolding_all rfl); (case b => walk_at "mine knows")))
local macro_rules | `(tactic| walk_at "mine small") => `(tactic| first | assumption | omega)

theorem fmod_draw (x y : Int) (hy : 1 ≤ y) : 0 ≤ x.fmod y ∧ x.fmod y < y := ⟨Int.fmod_nonneg_of_pos _ (by omega), Int.fmod_lt_of_pos _ (by omega)⟩

inductive Drawn (lst : Addr) (n : Nat) (c many : Int) : Value → Obj → Prop
  | mk {r : Int} {t t' : Tok} (h0 : 0 ≤ r) (h1 : r < many) : Drawn lst n c many (.int r t) (W.listOf [.ref lst, .int (c + 1) t'].toArray n)
theorem draw_does {w : World} {mean : ExcName → Option Value} {mg mb : Str → Option Value} {p lst : Addr} {ys : List Value} {xs : List Int} {n : Nat} {c : Int} {tc : Tok} {many : Int} {tm : Tok}
    (hp : @Ne Nat lst p) (hI : IntsAre ys xs) (hx : xs.length ≤ 40) (hc : 0 ≤ c) (hc' : c ≤ 1000) (hm : 1 ≤ many) (hm' : many ≤ 1000) :
    Does1 w mean mg mb 141 1 p (W.listOf [.ref lst, .int c tc].toArray n) [(lst, LCg.lst ys)] [.ref p, .int many tm]
      (Drawn lst n c many) := by
  unfold Does1 Does
  k_fill
  intro dp un gd cn cs a ccd cl outer A₀ base h₀ L m s Q E B F X N T hk hd hu hret
  have hp' : @Ne Nat p lst := fun e => hp e.symm
  refine wpAny_call ?_
  k_dflt walk_at "mine enter"
  k_steps
  all_goals (walk_at "mine end1")
  all_goals exact Drawn.mk (fmod_draw _ _ hm).1 (fmod_draw _ _ hm).2

abbrev pacerD (w : World) (k1 k2 k3 k4 tb tl tr ts : Tok) (burst left rest seen : Int) : Obj :=
  dictOf [⟨PyData.keyHash w.params (Str.ofString "burst"), .str (Str.ofString "burst") k1, .int burst tb⟩,
    ⟨PyData.keyHash w.params (Str.ofString "left"), .str (Str.ofString "left") k2, .int left tl⟩,
    ⟨PyData.keyHash w.params (Str.ofString "rest"), .str (Str.ofString "rest") k3, .int rest tr⟩,
    ⟨PyData.keyHash w.params (Str.ofString "seen_at"), .str (Str.ofString "seen_at") k4, .int seen ts⟩] 4
abbrev rttD (w : World) (k1 k2 k3 k4 k5 k6 t2 t3 t4 t5 : Tok) (latest least s8 v4 : Int) (first : Value) : Obj :=
  dictOf [⟨PyData.keyHash w.params (Str.ofString "since"), .str (Str.ofString "since") k1, .none⟩,
    ⟨PyData.keyHash w.params (Str.ofString "latest"), .str (Str.ofString "latest") k2, .int latest t2⟩,
    ⟨PyData.keyHash w.params (Str.ofString "least"), .str (Str.ofString "least") k3, .int least t3⟩,
    ⟨PyData.keyHash w.params (Str.ofString "smoothed8"), .str (Str.ofString "smoothed8") k4, .int s8 t4⟩,
    ⟨PyData.keyHash w.params (Str.ofString "variance4"), .str (Str.ofString "variance4") k5, .int v4 t5⟩,
    ⟨PyData.keyHash w.params (Str.ofString "first_at"), .str (Str.ofString "first_at") k6, first⟩] 6

/-- what Rtt.sample reckons of a later sample -/
def Sampled (least s8 lat wt least' s8' : Int) : Prop :=
  least' = (if lat < least then lat else least) ∧ (least' + wt ≤ lat → s8' = s8 - s8.fdiv 8 + (lat - wt)) ∧ (¬ least' + wt ≤ lat → s8' = s8 - s8.fdiv 8 + lat)
theorem sampled_due1 {least s8 lat wt least' s8' : Int} (h : Sampled least s8 lat wt least' s8') (hb : (if lat < least then lat else least) ≤ lat - wt) :
    least' = (if lat < least then lat else least) ∧ s8' = s8 - s8.fdiv 8 + (lat - wt) := by
  obtain ⟨h1, h2, h3⟩ := h
  exact ⟨h1, h2 (by rw [h1]; omega)⟩
theorem sampled_due2 {least s8 lat wt least' s8' : Int} (h : Sampled least s8 lat wt least' s8') (hb : ¬ (if lat < least then lat else least) ≤ lat - wt) :
    least' = (if lat < least then lat else least) ∧ s8' = s8 - s8.fdiv 8 + lat := by
  obtain ⟨h1, h2, h3⟩ := h
  exact ⟨h1, h3 (by rw [h1]; omega)⟩
theorem sampled_false1 {least s8 lat wt least' s8' : Int} (h : Sampled least s8 lat wt least' s8') (hb : (if lat < least then lat else least) ≤ lat - wt)
    (hz : ((least' == if lat < least then lat else least) && s8' == s8 - s8.fdiv 8 + (lat - wt)) = false) : False := by
  obtain ⟨h1, h2⟩ := sampled_due1 h hb
  rw [← h1, ← h2] at hz
  simp at hz
theorem sampled_false2 {least s8 lat wt least' s8' : Int} (h : Sampled least s8 lat wt least' s8') (hb : ¬ (if lat < least then lat else least) ≤ lat - wt)
    (hz : ((least' == if lat < least then lat else least) && s8' == s8 - s8.fdiv 8 + lat) = false) : False := by
  obtain ⟨h1, h2⟩ := sampled_due2 h hb
  rw [← h1, ← h2] at hz
  simp at hz
theorem sampled_bounds {least s8 lat wt least' s8' : Int} (h : Sampled least s8 lat wt least' s8') (h1 : 1 ≤ least) (h2 : 1 ≤ lat) (h3 : lat ≤ 1002) (h4 : 0 ≤ wt) (h5 : 8 ≤ s8) (h6 : s8 ≤ 8023) :
    1 ≤ least' ∧ 8 ≤ s8' ∧ s8' ≤ 8023 := by
  obtain ⟨e, ha, hb⟩ := h
  rw [Int.fdiv_eq_ediv_of_nonneg _ (by omega)] at ha hb
  have e1 : 1 ≤ least' := by rw [e]; split <;> omega
  by_cases hc : least' + wt ≤ lat
  · have := ha hc; omega
  · have := hb hc; omega

inductive SFirst (w : World) (k1 k2 k3 k4 k5 k6 : Tok) (lat now : Int) (tn : Tok) : Value → Obj → Prop
  | mk {t2' t3' t4' t5' : Tok} {v4' : Int} : SFirst w k1 k2 k3 k4 k5 k6 lat now tn .none (rttD w k1 k2 k3 k4 k5 k6 t2' t3' t4' t5' lat lat (8 * lat) v4' (.int now tn))
inductive SLater (w : World) (k1 k2 k3 k4 k5 k6 t6 : Tok) (least s8 lat wt first : Int) : Value → Obj → Prop
  | mk {t2' t3' t4' t5' : Tok} {least' s8' v4' : Int} (hS : Sampled least s8 lat wt least' s8') :
    SLater w k1 k2 k3 k4 k5 k6 t6 least s8 lat wt first .none (rttD w k1 k2 k3 k4 k5 k6 t2' t3' t4' t5' lat least' s8' v4' (.int first t6))
theorem sample_first {w : World} {mean : ExcName → Option Value} {mg mb : Str → Option Value} {ri rd : Addr} {k1 k2 k3 k4 k5 k6 t2 t3 t4 t5 : Tok} {latest least s8 v4 : Int} {lat wt now : Int} {tl tw tn : Tok}
    (h1 : @Ne Nat ri rd) :
    Does1 w mean mg mb 113 3 rd (rttD w k1 k2 k3 k4 k5 k6 t2 t3 t4 t5 latest least s8 v4 .none) [(ri, instObj 130 rd)] [.ref ri, .int lat tl, .int wt tw, .none, .int now tn]
      (SFirst w k1 k2 k3 k4 k5 k6 lat now tn) := by
  unfold Does1 Does
  k_fill
  intro dp un gd cn cs a ccd cl outer A₀ base h₀ L m s Q E B F X N T hk hd hu hret
  refine wpAny_call ?_
  k_dflt walk_at "mine enter"
  k_steps
  all_goals (walk_at "mine end1")
  all_goals exact SFirst.mk

theorem sample_later {w : World} {mean : ExcName → Option Value} {mg mb : Str → Option Value} {ri rd : Addr} {k1 k2 k3 k4 k5 k6 t2 t3 t4 t5 t6 : Tok} {latest least s8 v4 first : Int} {lat wt now : Int} {tl tw tn : Tok}
    (h1 : @Ne Nat ri rd) :
    Does1 w mean mg mb 113 3 rd (rttD w k1 k2 k3 k4 k5 k6 t2 t3 t4 t5 latest least s8 v4 (.int first t6)) [(ri, instObj 130 rd)] [.ref ri, .int lat tl, .int wt tw, .none, .int now tn]
      (SLater w k1 k2 k3 k4 k5 k6 t6 least s8 lat wt first) := by
  unfold Does1 Does
  k_fill
  intro dp un gd cn cs a ccd cl outer A₀ base h₀ L m s Q E B F X N T hk hd hu hret
  refine wpAny_call ?_
  k_dflt walk_at "mine enter"
  k_steps
  all_goals (walk_at "mine end1")
  · exact SLater.mk ⟨rfl, fun _ => rfl, fun h => absurd (by assumption) h⟩
  · exact SLater.mk ⟨rfl, fun h => absurd h (by assumption), fun _ => rfl⟩


inductive EarnPost (w : World) (k1 k2 k3 k4 tb : Tok) (burst left rest win way gap now : Int) : Value → Obj → Prop
  | mk {tl' tr' ts' : Tok} {left' rest' : Int} (hE : Earned burst left rest win way gap left' rest') : EarnPost w k1 k2 k3 k4 tb burst left rest win way gap now .none (pacerD w k1 k2 k3 k4 tb tl' tr' ts' burst left' rest' now)
inductive WaitPost (o : Obj) (size left rest win way : Int) : Value → Obj → Prop
  | mk {t : Tok} {W : Int} (hW : Waits size left rest win way W) : WaitPost o size left rest win way (.int W t) o
theorem earn_does {w : World} {mean : ExcName → Option Value} {mg mb : Str → Option Value} {pi pd : Addr} {k1 k2 k3 k4 tb tl tr ts : Tok} {burst left rest seen : Int} {win way now : Int} {tw ty tn : Tok}
    (h1 : @Ne Nat pi pd) (hw : 1 ≤ win) (hw' : win ≤ 1200) (hy : 1 ≤ way) (hy' : way ≤ 1100) :
    Does1 w mean mg mb 42 2 pd (pacerD w k1 k2 k3 k4 tb tl tr ts burst left rest seen) [(pi, instObj 66 pd)] [.ref pi, .int win tw, .int way ty, .int now tn]
      (EarnPost w k1 k2 k3 k4 tb burst left rest win way (now - seen) now) := by
  unfold Does1 Does
  k_fill
  intro dp un gd cn cs a ccd cl outer A₀ base h₀ L m s Q E B F X N T hk hd hu hret
  have hmax : (if 1 > way then 1 else way) = way := if_neg (by omega)
  refine wpAny_call ?_
  k_dflt walk_at "mine enter"
  k_steps
  · (rename (_ ≤ left + _) => ha)
    rw [hmax] at ha
    walk_at "mine end1"
    exact EarnPost.mk ⟨fun _ => ⟨rfl, rfl⟩, fun h => absurd ha h⟩
  · (rename (¬ _ ≤ left + _) => ha)
    rw [hmax] at ha
    walk_at "mine end1"
    refine EarnPost.mk ⟨fun h => absurd h ha, fun h => ⟨?_, ?_⟩⟩
    · rw [hmax]; rfl
    · rw [hmax]; rfl

theorem wait_does {w : World} {mean : ExcName → Option Value} {mg mb : Str → Option Value} {pi pd : Addr} {k1 k2 k3 k4 tb tl tr ts : Tok} {burst left rest seen : Int} {size win way : Int} {tz tw ty : Tok}
    (h1 : @Ne Nat pi pd) (hw : 1 ≤ win) (hw' : win ≤ 1200) (hy : 1 ≤ way) (hy' : way ≤ 1100) (hz : 1 ≤ size) (hz' : size ≤ 1000) (hl : -100000 ≤ left) (hl' : left ≤ 1000) :
    Does1 w mean mg mb 63 2 pd (pacerD w k1 k2 k3 k4 tb tl tr ts burst left rest seen) [(pi, instObj 66 pd)] [.ref pi, .int size tz, .int win tw, .int way ty]
      (WaitPost (pacerD w k1 k2 k3 k4 tb tl tr ts burst left rest seen) size left rest win way) := by
  unfold Does1 Does
  k_fill
  intro dp un gd cn cs a ccd cl outer A₀ base h₀ L m s Q E B F X N T hk hd hu hret
  have hmax : (if 1 > way then 1 else way) = way := if_neg (by omega)
  have hmax' : (if 1 > win then 1 else win) = win := if_neg (by omega)
  refine wpAny_call ?_
  k_dflt walk_at "mine enter"
  k_steps
  · (rename (size ≤ left) => ha)
    walk_at "mine end1"
    exact WaitPost.mk ⟨fun _ => rfl, fun h => absurd ha h⟩
  · (rename (¬ size ≤ left) => ha)
    walk_at "mine end1"
    rw [hmax, hmax']
    exact WaitPost.mk (waits_law hw hy ha)

local macro_rules | `(tactic| walk_at "call ref") => `(tactic| (k_here; (show wpAny _ _ (call (Value.ref 141) _) _ _ _); (k_dflt (refine' Does1.use (draw_does ?a1 ?aI ?ax ?ac ?ad ?am ?an) ?k1 ?k2 ?k3 ?k4 ?k5 ?kK ?kU ?kro ?kne ?kd ?ku ?_; walk_at "mine ledger"; (case a1 => k_ne); (case aI => first | assumption | l_ints); (case ax => first | assumption | (simp only [List.length_map]; omega)); (case ac => first | decide | omega); (case ad => first | decide | omega); (case am => first | decide | omega); (case an => first | decide | omega))); intro v' o' h' tk' F' N' hp'; obtain ⟨hr0', hr1'⟩ := hp'; (try dsimp only at N'); (try k_sweep); (try k_fold); walk_say "DRAWN"))
local macro_rules | `(tactic| walk_at "call ref") => `(tactic| (k_here; (first | (show wpAny _ _ (call (Value.ref 42) _) _ _ _) | (show wpAny _ _ (call (Value.ref 63) _) _ _ _) | (show wpAny _ _ (call (Value.ref 113) _) _ _ _) | (show wpAny _ _ (call (Value.ref 148) _) _ _ _) | (show wpAny _ _ (call (Value.ref 155) _) _ _ _) | (show wpAny _ _ (call (Value.ref 162) _) _ _ _)); refine Stop.intro ?_; walk_say "STOPCALL"))

section

local macro_rules | `(tactic| walk_at "mine ledger2") => `(tactic| ((case k1 => k_asm); (case k2 => k_asm); (case k3 => k_asm); (case k4 => k_asm); (case k5 => k_asm); (case kK => first | exact rfl | assumption); (case kro => walk_at "mine all"); (case kU => k_updF); (case kne => k_all); (case kd => ktr_room); (case ku => ktr_units); k_whole))
local macro_rules | `(tactic| walk_at "call ref") => `(tactic| (k_here; (show wpAny _ _ (call (Value.ref 42) _) _ _ _); (k_dflt ((refine' Does1.use (earn_does ?a1 ?a2 ?a3 ?a4 ?a5) ?k1 ?k2 ?k3 ?k4 ?k5 ?kK ?kU ?kro ?kne ?kd ?ku ?_; walk_at "mine ledger2"; (case a1 => k_ne); (case a2 => walk_at "mine small"); (case a3 => walk_at "mine small"); (case a4 => walk_at "mine small"); (case a5 => walk_at "mine small")))); intro v' o' h' tk' F' N' hp'; obtain ⟨hE'⟩ := hp'; (try dsimp only at N'); (try k_sweep); (try k_fold); walk_say "EARNED"))
local macro_rules | `(tactic| walk_at "call ref") => `(tactic| (k_here; (show wpAny _ _ (call (Value.ref 63) _) _ _ _); (k_dflt ((refine' Does1.use (wait_does ?a1 ?a2 ?a3 ?a4 ?a5 ?a6 ?a7 ?a8 ?a9) ?k1 ?k2 ?k3 ?k4 ?k5 ?kK ?kU ?kro ?kne ?kd ?ku ?_; walk_at "mine ledger2"; (case a1 => k_ne); (case a2 => walk_at "mine small"); (case a3 => walk_at "mine small"); (case a4 => walk_at "mine small"); (case a5 => walk_at "mine small"); (case a6 => walk_at "mine small"); (case a7 => walk_at "mine small"); (case a8 => walk_at "mine small"); (case a9 => walk_at "mine small")))); intro v' o' h' tk' F' N' hp'; obtain ⟨hW'⟩ := hp'; (try dsimp only at N'); (try k_sweep); (try k_fold); walk_say "WAITED"))
theorem least_does {w : World} {mean : ExcName → Option Value} {mg mb : Str → Option Value} {pi pd : Addr} {k1 k2 k3 k4 tb tl tr ts : Tok} {burst left rest seen : Int} {size win way now : Int} {tz tw ty tn : Tok}
    (h1 : @Ne Nat pi pd) (hw : 1 ≤ win) (hw' : win ≤ 1200) (hy : 1 ≤ way) (hy' : way ≤ 1100) (hz : 1 ≤ size) (hz' : size ≤ burst) (hb : burst ≤ 1000) (hl : -100000 ≤ left) (hl' : left ≤ burst) :
    Does1 w mean mg mb 162 5 pd (pacerD w k1 k2 k3 k4 tb tl tr ts burst left rest seen) [(pi, instObj 66 pd)] [.ref pi, .int size tz, .int win tw, .int way ty, .int now tn]
      (fun v o' => v = .bool true ∧ o' = pacerD w k1 k2 k3 k4 tb tl tr ts burst left rest seen) := by
  unfold Does1 Does
  k_fill
  intro dp un gd cn cs a ccd cl outer A₀ base h₀ L m s Q E B F X N T hk hd hu hret
  have hz1 : size ≤ 1000 := by omega
  have hl1 : left ≤ 1000 := by omega
  refine wpAny_call ?_
  k_dflt walk_at "mine enter"
  k_steps
  all_goals (walk_at "mine end1"; (rename Waits _ _ _ _ _ _ => hW); (have hS := waits_sign hW))
  · refine ⟨?_, rfl⟩
    rw [decide_eq_true (show size ≤ left by omega)]
  · exfalso
    omega
  · refine ⟨?_, rfl⟩
    rw [decide_eq_true (show size ≤ left by omega)]
  · exfalso
    omega
  · refine ⟨?_, rfl⟩
    (rename Earned _ _ _ _ _ _ _ _ => hE2)
    (rename Earned _ _ _ _ _ (_ + (_ - 1) - _) _ _ => hE1)
    have hs : ¬ size ≤ left := by omega
    rw [decide_eq_false (least_low hW hs hz' (by omega) hE1), decide_eq_true (least_high hW hs hz' (by omega) hE2)]
    rfl

end
local macro_rules | `(tactic| walk_at "exec For Name Call cons nil") => `(tactic| (k_here; (rename Fr _ _ _ _ => lF'); (with_unfolding_all refine' For_invVF lF' ?k1 ?k2 ?_; (case k1 => exact rfl); (case k2 => exact rfl); k_whole)))
local macro_rules | `(tactic| walk_at "pyIter ref") => `(tactic| (k_here; refine Stop.intro ?_))


theorem know {h₀ h : Heap} {L : Addr} {m₁ : Str → Option Value} {x : Str} {v : Option Value} {ps : List (Str × Value)} (hK : ∀ q ∈ ps, m₁ q.1 = some q.2) (F : Fr h₀ L h (fun y => if y = x then v else m₁ y)) :
    Fr h₀ L h (fun y => if y = x then v else kstB m₁ ps y) := by
  have e : kstB m₁ ps = m₁ := funext fun z => kstB_eq hK fun _ => rfl
  rw [e]; exact F

theorem earned_turn2 {B S r T left rest win way left' rest' now m q : Int} (hy : 1 ≤ way) (hw : 1 ≤ win) (hm : 0 ≤ m) (hq : 0 ≤ q) (h0 : 0 ≤ r) (h1 : r < 4 * way) (hI : EInv B S r (4 * way) T left rest)
    (h : Earned B left rest win way (now + (m + q) - now) left' rest') :
    EInv B S r (4 * way) (T + 5 * win * (m + q)) left' rest' ∧
      ¬ left' < (if S + (T + 5 * win * (m + q)).fdiv (4 * way) < B then S + (T + 5 * win * (m + q)).fdiv (4 * way) else B) ∧
      ¬ left' > (if S + ((T + 5 * win * (m + q)) + 4 * way - 1).fdiv (4 * way) < B then S + ((T + 5 * win * (m + q)) + 4 * way - 1).fdiv (4 * way) else B) := by
  rw [show now + (m + q) - now = m + q by omega] at h
  exact earned_turn hy hw (by omega) h0 h1 hI h

/-- what holds behind _law_earned -/
inductive EarnedTo (w : World) (p lst pi pd sl wd : Addr) (ys : List Value) (n : Nat) (c b left : Int) (tb k1 k2 k3 k4 t1 : Tok) : Value → List (Addr × Obj) → Prop
  | mk {c' now' left' rest' : Int} {tc' tn' tl' tr' ts' : Tok} {ow' : Obj}
    (ho : ow'.IsDictOf (PySem.strKind PySem.Challenge.rw_pf0249_01.row.prog w) [(Str.ofString "now", .int now' tn'), (Str.ofString "samples", .ref sl), (Str.ofString "burst", .int b tb)])
    (h1 : c ≤ c') (h2 : c' ≤ c + 10) (h3 : left ≤ left') (h4 : left' ≤ b) (h5 : left' = b → rest' = 0) (h6 : 0 ≤ rest') :
    EarnedTo w p lst pi pd sl wd ys n c b left tb k1 k2 k3 k4 t1 (.bool true)
      [(pi, instObj 66 pd), (pd, pacerD w k1 k2 k3 k4 t1 tl' tr' ts' b left' rest' now'), (wd, ow'), (p, W.listOf [.ref lst, .int c' tc'].toArray n), (lst, LCg.lst ys)]
/-- what holds between two looks -/
inductive Jearn (w : World) (p lst pi pd sl wd : Addr) (ys : List Value) (n : Nat) (c b left win way r : Int) (tb tw ty k1 k2 k3 k4 t1 t2 : Tok) (i : Nat) (m : Str → Option Value) : List (Addr × Obj) → Prop
  | mk {c' T now' left' rest' : Int} {ow' : Obj} {tT tB tc' tn' tl' tr' ts' : Tok}
    (hK : ∀ q ∈ [(Str.ofString "pool", Value.ref p), (Str.ofString "pacer", .ref pi), (Str.ofString "world", .ref wd), (Str.ofString "window", .int win tw), (Str.ofString "way", .int way ty), (Str.ofString "start", .int left t2), (Str.ofString "total", .int T tT), (Str.ofString "bottom", .int (4 * way) tB)], m q.1 = some q.2)
    (ho : ow'.IsDictOf (PySem.strKind PySem.Challenge.rw_pf0249_01.row.prog w) [(Str.ofString "now", .int now' tn'), (Str.ofString "samples", .ref sl), (Str.ofString "burst", .int b tb)])
    (h0 : 0 ≤ c') (h1 : c ≤ c') (h2 : c' ≤ c + 1 + 2 * i) (hE : EInv b left r (4 * way) T left' rest') :
    Jearn w p lst pi pd sl wd ys n c b left win way r tb tw ty k1 k2 k3 k4 t1 t2 i m
      [(pi, instObj 66 pd), (pd, pacerD w k1 k2 k3 k4 t1 tl' tr' ts' b left' rest' now'), (wd, ow'), (p, W.listOf [.ref lst, .int c' tc'].toArray n), (lst, LCg.lst ys)]

theorem earned_does {w : World} {mean : ExcName → Option Value} {mg mb : Str → Option Value} (p lst pi pd sl wd : Addr) (ys : List Value) (xs : List Int) (n : Nat) (c : Int) (tc : Tok)
    (ow : Obj) (now b : Int) (tn tb : Tok) (k1 k2 k3 k4 t1 t2 t3 t4 : Tok) (left rest win way : Int) (tw ty : Tok)
    (h1 : @Ne Nat p lst) (h2 : @Ne Nat p pi) (h3 : @Ne Nat p pd) (h4 : @Ne Nat p wd) (h5 : @Ne Nat lst pi) (h6 : @Ne Nat lst pd) (h7 : @Ne Nat lst wd) (h8 : @Ne Nat pi pd) (h9 : @Ne Nat pi wd) (h10 : @Ne Nat pd wd)
    (hI : IntsAre ys xs) (hx : xs.length ≤ 40) (hc : 0 ≤ c) (hc' : c ≤ 900) (hw : 1 ≤ win) (hw' : win ≤ 1200) (hy : 1 ≤ way) (hy' : way ≤ 1100) (hb : b ≤ 1000) (hl : left ≤ b) (hf : left = b → rest = 0) (hr : 0 ≤ rest)
    (ho : ow.IsDictOf (PySem.strKind PySem.Challenge.rw_pf0249_01.row.prog w) [(Str.ofString "now", .int now tn), (Str.ofString "samples", .ref sl), (Str.ofString "burst", .int b tb)])
    :
    Does w mean mg mb 155 4 [(pi, instObj 66 pd), (pd, pacerD w k1 k2 k3 k4 t1 t2 t3 t4 b left rest now), (wd, ow), (p, W.listOf [.ref lst, .int c tc].toArray n), (lst, LCg.lst ys)]
      [.ref p, .ref pi, .ref wd, .int win tw, .int way ty] (EarnedTo w p lst pi pd sl wd ys n c b left tb k1 k2 k3 k4 t1) := by
  unfold Does
  k_fill
  intro dp un gd cn cs a ccd cl outer A₀ base h₀ L m s Q E B F X N T hk hd hu hret
  refine wpAny_call ?_
  k_dflt walk_at "mine enter"
  k_steps
  ((with_reducible refine Stop.out ?_); (show wpAny _ _ (call (Value.ref 42) _) _ _ _); ((refine' Does1.use (earn_does ?a1 ?a2 ?a3 ?a4 ?a5) ?k1 ?k2 ?k3 ?k4 ?k5 ?kK ?kU ?kro ?kne ?kd ?ku ?_; (case k1 => k_asm); (case k2 => k_asm); (case k3 => k_asm); (case k4 => k_asm); (case k5 => k_asm); (case kK => first | exact rfl | assumption); (case kro => walk_at "mine all"); (case kU => k_updF); (case kne => k_all); (case kd => ktr_room); (case ku => ktr_units); k_whole; (case a1 => k_ne); (case a2 => first | assumption | omega); (case a3 => first | assumption | omega); (case a4 => first | assumption | omega); (case a5 => first | assumption | omega))); intro v' o' h' tk' F' N' hp'; obtain ⟨hE'⟩ := hp'; (try dsimp only at N'); (try k_sweep); (try k_fold))
  k_steps
  · exfalso
    (rename Earned _ _ _ _ _ _ _ _ => hE)
    obtain ⟨eL, r, hr0, hr1, hEI⟩ := earned_start (Int.sub_self now) hy hr hl hf hE
    omega
  refine Stop.out ?_
  (rename Earned _ _ _ _ _ _ _ _ => hE)
  obtain ⟨eL, r, hr0, hr1, hEI⟩ := earned_start (Int.sub_self now) hy hr hl hf hE
  (rename IsRange _ _ _ _ _ _ _ _ => hR)
  (rename Fr _ _ _ _ => hF)
  (rename News _ _ _ _ => hN)
  refine range_loop (J := Jearn w p lst pi pd sl wd ys n c b left win way r tb tw ty k1 k2 k3 k4 t1 t2) (n := (_ : Int).toNat) (by rfl) hR (small_one (by omega) (by omega) (by omega) (by omega)) (rangeSize_nat _ _) hF (news := [(pi, instObj 66 pd), (pd, pacerD w k1 k2 k3 k4 t1 _ _ _ b _ _ now), (wd, ow), (p, W.listOf [.ref lst, .int _ _].toArray n), (lst, LCg.lst ys)]) (fun q hq => hN q (.tail _ hq)) ?_ ?_ ?_
  · refine' Jearn.mk ?kn ho (by omega) (by omega) (by omega) hEI
    case kn => walk_at "mine knows"
  · rintro I oI i t m₁ nx h tk hi hoff ⟨hK, ho', hc0, hc1, hc2, hE⟩ F1 N1
    replace F1 := know hK F1
    dsimp only [kstB] at F1
    have a1 : @Ne Nat pi I := hoff (pi, _) (by k_mem)
    have a2 : @Ne Nat pd I := hoff (pd, _) (by k_mem)
    have a3 : @Ne Nat wd I := hoff (wd, _) (by k_mem)
    have a4 : @Ne Nat p I := hoff (p, _) (by k_mem)
    have a5 : @Ne Nat lst I := hoff (lst, _) (by k_mem)
    clear hoff
    simp only [List.cons_append, List.nil_append] at N1
    k_steps
    ((with_reducible refine Stop.out ?_); (show wpAny _ _ (call (Value.ref 42) _) _ _ _); ((refine' Does1.use (earn_does ?a1 ?a2 ?a3 ?a4 ?a5) ?k1 ?k2 ?k3 ?k4 ?k5 ?kK ?kU ?kro ?kne ?kd ?ku ?_; (case k1 => k_asm); (case k2 => k_asm); (case k3 => k_asm); (case k4 => k_asm); (case k5 => k_asm); (case kK => first | exact rfl | assumption); (case kro => walk_at "mine all"); (case kU => k_updF); (case kne => k_all); (case kd => ktr_room); (case ku => ktr_units); k_whole; (case a1 => k_ne); (case a2 => first | assumption | omega); (case a3 => first | assumption | omega); (case a4 => first | assumption | omega); (case a5 => first | assumption | omega))); intro v' o' h' tk' F' N' hp'; obtain ⟨hE'⟩ := hp'; (try dsimp only at N'); (try k_sweep); (try k_fold))
    k_steps
    all_goals ((rename Earned _ _ _ _ _ _ _ _ => hE2); obtain ⟨q0, q1, q2⟩ := earned_turn2 hy hw (by assumption) (by assumption) hr0 hr1 hE hE2)
    · exact absurd (by assumption) q1
    · exact absurd (by assumption) q2
    · refine' TurnTo.next ?kF ?kN ?hn ?hI ?ho (Jearn.mk ?kn ?kd ?k0 ?k1 ?k2 q0)
      case kF => k_asm
      case kN => k_asm
      case hn => walk_at "mine all"
      case hI => k_mem
      case ho => k_all
      case kn => walk_at "mine knows"
      case kd => k_asm
      case k0 => omega
      case k1 => omega
      case k2 => omega
  · rintro m₁ nx h tk ⟨hK, ho', hc0, hc1, hc2, hE⟩ F1 N1
    k_steps
    obtain ⟨q0, q1, q2, q3⟩ := earned_end (by omega) hr0 hE
    k_dflt (refine' does_end hret (by assumption) ?kF ?kN ?F ?N ?hs ?hp; (case kF => assumption); (case kN => assumption); (case F => assumption); (case N => assumption))
    case' hp => refine' EarnedTo.mk ho' ?e1 ?e2 (q3 hl) q1 q2 q0
    case hs => walk_at "mine all"
    case e1 => omega
    case e2 => omega


section

local macro_rules | `(tactic| walk_at "mine min") => `(tactic| first | assumption | exact IsMin.one _ | exact IsMin.snoc (by assumption))
local macro_rules | `(tactic| walk_at "call builtin:min") => `(tactic| (k_here; (with_reducible show wpAny _ _ (call (Value.builtin _) [Value.ref _]) _ _ _); k_dflt (refine' min_told ?F ?N ?hl ?hi ?hm ?hh ?_; (case F => k_asm); (case N => k_asm); (case hl => is_list); (case hi => l_ints); (case hm => walk_at "mine min"); (case hh => with_unfolding_all rfl)); intro h' t' tk' F' N'))

theorem mem6 {α : Type} {a b c d e f : α} {l : List α} (m1 : a ∈ l) (m2 : b ∈ l) (m3 : c ∈ l) (m4 : d ∈ l) (m5 : e ∈ l) (m6 : f ∈ l) : ∀ q ∈ [a, b, c, d, e, f], q ∈ l := by
  intro q hq
  simp only [List.mem_cons, List.not_mem_nil, or_false] at hq
  rcases hq with h | h | h | h | h | h <;> (rw [h]; assumption)

/-- what holds behind _law_sampled -/
inductive SampledTo (w : World) (p lst ri rd wd : Addr) (ys : List Value) (n : Nat) (c : Int) (now b : Int) (tn tb : Tok) (k1 k2 k3 k4 k5 k6 : Tok) (m : Nat) (v : Value) : List (Addr × Obj) → Prop
  | mk {c' latest' least' s8' v4' first' : Int} {tc' t2' t3' t4' t5' t6' : Tok} {ow' : Obj} {sl' : Addr} {vs' : List Value} {ns' : List Int} {n2' : Nat}
    (hv : v = .bool true)
    (ho : ow'.IsDictOf (PySem.strKind PySem.Challenge.rw_pf0249_01.row.prog w) [(Str.ofString "now", .int now tn), (Str.ofString "samples", .ref sl'), (Str.ofString "burst", .int b tb)])
    (c1 : c ≤ c') (c2 : c' ≤ c + 10) (hne : decide (ns' = []) = false) (ia : IntsAre vs' ns') (len : ns'.length ≤ m + 1) (mn : IsMin least' ns') (b1 : 1 ≤ least') (b2 : 8 ≤ s8') (b3 : s8' ≤ 8023)
    (d1 : @Ne Nat p sl') (d2 : @Ne Nat lst sl') (d3 : @Ne Nat ri sl') (d4 : @Ne Nat rd sl') (d5 : @Ne Nat wd sl') :
    SampledTo w p lst ri rd wd ys n c now b tn tb k1 k2 k3 k4 k5 k6 m v
      [(ri, instObj 130 rd), (rd, rttD w k1 k2 k3 k4 k5 k6 t2' t3' t4' t5' latest' least' s8' v4' (.int first' t6')), (wd, ow'), (sl', W.listOf vs'.toArray n2'), (p, W.listOf [.ref lst, .int c' tc'].toArray n), (lst, LCg.lst ys)]

theorem decide_snoc (ns : List Int) (x : Int) : decide (ns ++ [x] = []) = false := by simp
theorem decide_one (x : Int) : decide ([x] = []) = false := by simp
theorem len_one (x : Int) (m : Nat) : [x].length ≤ m + 1 := by simp

theorem sampled_later {w : World} {mean : ExcName → Option Value} {mg mb : Str → Option Value} (p lst ri rd sl wd : Addr) (ys : List Value) (xs : List Int) (n n2 : Nat) (c : Int) (tc : Tok)
    (vs : List Value) (ns : List Int) (ow : Obj) (now b : Int) (tn tb : Tok) (k1 k2 k3 k4 k5 k6 t2 t3 t4 t5 t6 : Tok) (latest least s8 v4 first : Int)
    (h1 : @Ne Nat p lst) (h2 : @Ne Nat p ri) (h3 : @Ne Nat p rd) (h4 : @Ne Nat p wd) (h5 : @Ne Nat lst ri) (h6 : @Ne Nat lst rd) (h7 : @Ne Nat lst wd) (h8 : @Ne Nat ri rd) (h9 : @Ne Nat ri wd) (h10 : @Ne Nat rd wd)
    (h11 : @Ne Nat p sl) (h12 : @Ne Nat lst sl) (h13 : @Ne Nat ri sl) (h14 : @Ne Nat rd sl) (h15 : @Ne Nat wd sl)
    (hI : IntsAre ys xs) (hx : xs.length ≤ 40) (hc : 0 ≤ c) (hc' : c ≤ 900)
    (hne : decide (ns = []) = false) (hV : IntsAre vs ns) (hn : ns.length ≤ 40) (hm : IsMin least ns) (hl : 1 ≤ least) (hs : 8 ≤ s8) (hs' : s8 ≤ 8023)
    (ho : ow.IsDictOf (PySem.strKind PySem.Challenge.rw_pf0249_01.row.prog w) [(Str.ofString "now", .int now tn), (Str.ofString "samples", .ref sl), (Str.ofString "burst", .int b tb)]) :
    Does w mean mg mb 148 4 [(ri, instObj 130 rd), (rd, rttD w k1 k2 k3 k4 k5 k6 t2 t3 t4 t5 latest least s8 v4 (.int first t6)), (wd, ow), (sl, W.listOf vs.toArray n2), (p, W.listOf [.ref lst, .int c tc].toArray n), (lst, LCg.lst ys)]
      [.ref p, .ref ri, .ref wd] (SampledTo w p lst ri rd wd ys n c now b tn tb k1 k2 k3 k4 k5 k6 ns.length) := by
  unfold Does
  k_fill
  intro dp un gd cn cs a ccd cl outer A₀ base h₀ L m s Q E B F X N T hk hd hu hret
  refine wpAny_call ?_
  k_dflt walk_at "mine enter"
  k_steps
  ((with_reducible refine Stop.out ?_); (show wpAny _ _ (call (Value.ref 113) _) _ _ _); ((refine' Does1.use (sample_later ?a1) ?k1 ?k2 ?k3 ?k4 ?k5 ?kK ?kU ?kro ?kne ?kd ?ku ?_; (case k1 => k_asm); (case k2 => k_asm); (case k3 => k_asm); (case k4 => k_asm); (case k5 => k_asm); (case kK => first | exact rfl | assumption); (case kro => walk_at "mine all"); (case kU => k_updF); (case kne => k_all); (case kd => ktr_room); (case ku => ktr_units); k_whole; (case a1 => k_ne))); intro v' o' h' tk' F' N' hp'; obtain ⟨hS'⟩ := hp'; (try dsimp only at N'); (try k_sweep); (try k_fold))
  k_steps
  all_goals (rename Sampled _ _ _ _ _ _ => hS)
  · obtain ⟨e1, e2⟩ := sampled_due1 hS (by assumption)
    obtain ⟨q1, q2, q3⟩ := sampled_bounds hS hl (by omega) (by omega) (by assumption) hs hs'
    ((refine' does_end (by assumption) (by assumption) ?kF ?kN ?F ?N (mem6 ?m1 ?m2 ?m3 ?m4 ?m5 ?m6) (SampledTo.mk ?v ?kd ?c1 ?c2 ?ne ?ia ?len ?mn ?b1 ?b2 ?b3 ?d1 ?d2 ?d3 ?d4 ?d5); (case kF => assumption); (case kN => assumption); (case F => assumption); (case N => assumption); (case m1 => k_mem); (case m2 => k_mem); (case m3 => k_mem); (case kd => with_reducible assumption); (case m4 => k_mem); (case m5 => k_mem); (case m6 => k_mem); (case c1 => omega); (case c2 => omega); (case d1 => k_ne); (case d2 => k_ne); (case d3 => k_ne); (case d4 => k_ne); (case d5 => k_ne)))
    case mn => exact IsMin.one _
    case v => rw [beq_self_eq_true]
    case ia => l_ints
    case ne => exact decide_one _
    case len => exact len_one _ _
    case b1 => omega
    case b2 => exact q2
    case b3 => exact q3
  · obtain ⟨e1, e2⟩ := sampled_due1 hS (by assumption)
    obtain ⟨q1, q2, q3⟩ := sampled_bounds hS hl (by omega) (by omega) (by assumption) hs hs'
    ((refine' does_end (by assumption) (by assumption) ?kF ?kN ?F ?N (mem6 ?m1 ?m2 ?m3 ?m4 ?m5 ?m6) (SampledTo.mk ?v ?kd ?c1 ?c2 ?ne ?ia ?len ?mn ?b1 ?b2 ?b3 ?d1 ?d2 ?d3 ?d4 ?d5); (case kF => assumption); (case kN => assumption); (case F => assumption); (case N => assumption); (case m1 => k_mem); (case m2 => k_mem); (case m3 => k_mem); (case kd => with_reducible assumption); (case m4 => k_mem); (case m5 => k_mem); (case m6 => k_mem); (case c1 => omega); (case c2 => omega); (case d1 => k_ne); (case d2 => k_ne); (case d3 => k_ne); (case d4 => k_ne); (case d5 => k_ne)))
    case ia => with_reducible assumption
    case mn => rw [e1]; exact IsMin.snoc hm
    case v => rw [e1, beq_self_eq_true]
    case ne => exact decide_snoc _ _
    case len => simp
    case b1 => exact q1
    case b2 => exact q2
    case b3 => exact q3
  · exact (sampled_false1 hS (by assumption) (by assumption)).elim
  · obtain ⟨e1, e2⟩ := sampled_due2 hS (by assumption)
    obtain ⟨q1, q2, q3⟩ := sampled_bounds hS hl (by omega) (by omega) (by assumption) hs hs'
    ((refine' does_end (by assumption) (by assumption) ?kF ?kN ?F ?N (mem6 ?m1 ?m2 ?m3 ?m4 ?m5 ?m6) (SampledTo.mk ?v ?kd ?c1 ?c2 ?ne ?ia ?len ?mn ?b1 ?b2 ?b3 ?d1 ?d2 ?d3 ?d4 ?d5); (case kF => assumption); (case kN => assumption); (case F => assumption); (case N => assumption); (case m1 => k_mem); (case m2 => k_mem); (case m3 => k_mem); (case kd => with_reducible assumption); (case m4 => k_mem); (case m5 => k_mem); (case m6 => k_mem); (case c1 => omega); (case c2 => omega); (case d1 => k_ne); (case d2 => k_ne); (case d3 => k_ne); (case d4 => k_ne); (case d5 => k_ne)))
    case mn => exact IsMin.one _
    case v => rw [beq_self_eq_true]
    case ia => l_ints
    case ne => exact decide_one _
    case len => exact len_one _ _
    case b1 => omega
    case b2 => exact q2
    case b3 => exact q3
  · obtain ⟨e1, e2⟩ := sampled_due2 hS (by assumption)
    obtain ⟨q1, q2, q3⟩ := sampled_bounds hS hl (by omega) (by omega) (by assumption) hs hs'
    ((refine' does_end (by assumption) (by assumption) ?kF ?kN ?F ?N (mem6 ?m1 ?m2 ?m3 ?m4 ?m5 ?m6) (SampledTo.mk ?v ?kd ?c1 ?c2 ?ne ?ia ?len ?mn ?b1 ?b2 ?b3 ?d1 ?d2 ?d3 ?d4 ?d5); (case kF => assumption); (case kN => assumption); (case F => assumption); (case N => assumption); (case m1 => k_mem); (case m2 => k_mem); (case m3 => k_mem); (case kd => with_reducible assumption); (case m4 => k_mem); (case m5 => k_mem); (case m6 => k_mem); (case c1 => omega); (case c2 => omega); (case d1 => k_ne); (case d2 => k_ne); (case d3 => k_ne); (case d4 => k_ne); (case d5 => k_ne)))
    case ia => with_reducible assumption
    case mn => rw [e1]; exact IsMin.snoc hm
    case v => rw [e1, beq_self_eq_true]
    case ne => exact decide_snoc _ _
    case len => simp
    case b1 => exact q1
    case b2 => exact q2
    case b3 => exact q3
  · exact (sampled_false2 hS (by assumption) (by assumption)).elim


theorem sampled_begin {w : World} {mean : ExcName → Option Value} {mg mb : Str → Option Value} (p lst ri rd sl wd : Addr) (ys : List Value) (xs : List Int) (n n2 : Nat) (c : Int) (tc : Tok)
    (ow : Obj) (now b : Int) (tn tb : Tok) (k1 k2 k3 k4 k5 k6 t2 t3 t4 t5 : Tok) (latest least s8 v4 : Int)
    (h1 : @Ne Nat p lst) (h2 : @Ne Nat p ri) (h3 : @Ne Nat p rd) (h4 : @Ne Nat p wd) (h5 : @Ne Nat lst ri) (h6 : @Ne Nat lst rd) (h7 : @Ne Nat lst wd) (h8 : @Ne Nat ri rd) (h9 : @Ne Nat ri wd) (h10 : @Ne Nat rd wd)
    (h11 : @Ne Nat p sl) (h12 : @Ne Nat lst sl) (h13 : @Ne Nat ri sl) (h14 : @Ne Nat rd sl) (h15 : @Ne Nat wd sl)
    (hI : IntsAre ys xs) (hx : xs.length ≤ 40) (hc : 0 ≤ c) (hc' : c ≤ 900)
    (ho : ow.IsDictOf (PySem.strKind PySem.Challenge.rw_pf0249_01.row.prog w) [(Str.ofString "now", .int now tn), (Str.ofString "samples", .ref sl), (Str.ofString "burst", .int b tb)]) :
    Does w mean mg mb 148 4 [(ri, instObj 130 rd), (rd, rttD w k1 k2 k3 k4 k5 k6 t2 t3 t4 t5 latest least s8 v4 .none), (wd, ow), (sl, W.listOf #[] n2), (p, W.listOf [.ref lst, .int c tc].toArray n), (lst, LCg.lst ys)]
      [.ref p, .ref ri, .ref wd] (SampledTo w p lst ri rd wd ys n c now b tn tb k1 k2 k3 k4 k5 k6 0) := by
  unfold Does
  k_fill
  intro dp un gd cn cs a ccd cl outer A₀ base h₀ L m s Q E B F X N T hk hd hu hret
  refine wpAny_call ?_
  k_dflt walk_at "mine enter"
  k_steps
  ((with_reducible refine Stop.out ?_); (show wpAny _ _ (call (Value.ref 113) _) _ _ _); ((refine' Does1.use (sample_first ?a1) ?k1 ?k2 ?k3 ?k4 ?k5 ?kK ?kU ?kro ?kne ?kd ?ku ?_; (case k1 => k_asm); (case k2 => k_asm); (case k3 => k_asm); (case k4 => k_asm); (case k5 => k_asm); (case kK => first | exact rfl | assumption); (case kro => walk_at "mine all"); (case kU => k_updF); (case kne => k_all); (case kd => ktr_room); (case ku => ktr_units); k_whole; (case a1 => k_ne))); intro v' o' h' tk' F' N' hp'; cases hp'; (try dsimp only at N'); (try k_sweep); (try k_fold))
  k_steps
  · ((refine' does_end (by assumption) (by assumption) ?kF ?kN ?F ?N (mem6 ?m1 ?m2 ?m3 ?m4 ?m5 ?m6) (SampledTo.mk ?v ?kd ?c1 ?c2 ?ne ?ia ?len ?mn ?b1 ?b2 ?b3 ?d1 ?d2 ?d3 ?d4 ?d5); (case kF => assumption); (case kN => assumption); (case F => assumption); (case N => assumption); (case m1 => k_mem); (case m2 => k_mem); (case m3 => k_mem); (case kd => with_reducible assumption); (case m4 => k_mem); (case m5 => k_mem); (case m6 => k_mem); (case c1 => omega); (case c2 => omega); (case d1 => k_ne); (case d2 => k_ne); (case d3 => k_ne); (case d4 => k_ne); (case d5 => k_ne)))
    case mn => exact IsMin.one _
    case v => rw [beq_self_eq_true]
    case ia => l_ints
    case ne => exact decide_one _
    case len => exact len_one _ _
    case b1 => omega
    case b2 => omega
    case b3 => omega
  · ((refine' does_end (by assumption) (by assumption) ?kF ?kN ?F ?N (mem6 ?m1 ?m2 ?m3 ?m4 ?m5 ?m6) (SampledTo.mk ?v ?kd ?c1 ?c2 ?ne ?ia ?len ?mn ?b1 ?b2 ?b3 ?d1 ?d2 ?d3 ?d4 ?d5); (case kF => assumption); (case kN => assumption); (case F => assumption); (case N => assumption); (case m1 => k_mem); (case m2 => k_mem); (case m3 => k_mem); (case kd => with_reducible assumption); (case m4 => k_mem); (case m5 => k_mem); (case m6 => k_mem); (case c1 => omega); (case c2 => omega); (case d1 => k_ne); (case d2 => k_ne); (case d3 => k_ne); (case d4 => k_ne); (case d5 => k_ne)))
    case mn => exact IsMin.one _
    case v => rw [beq_self_eq_true]
    case ia => l_ints
    case ne => exact decide_one _
    case len => exact len_one _ _
    case b1 => omega
    case b2 => omega
    case b3 => omega

end

/-- two addresses apart, hidden from arithmetic -/
def Off (a b : Nat) : Prop := a ≠ b
theorem Off.of {a b : Nat} (h : @Ne Nat a b) : Off a b := h
theorem Off.ne {a b : Nat} (h : Off a b) : @Ne Nat a b := h
theorem Off.en {a b : Nat} (h : Off a b) : @Ne Nat b a := Ne.symm h
/-- a fact laid aside -/
structure Held (P : Prop) : Prop where
  of ::
  out : P

/-- the ledger less what a call takes -/
inductive Rest (news : List (Addr × Obj)) : List (Addr × Obj) → List (Addr × Obj) → Prop
  | nil : Rest news [] []
  | skip {q : Addr × Obj} {l r : List (Addr × Obj)} (h : q ∈ news) (t : Rest news l r) : Rest news (q :: l) r
  | keep {q : Addr × Obj} {l r : List (Addr × Obj)} (h : ∀ p ∈ news, @Ne Nat p.1 q.1) (t : Rest news l r) : Rest news (q :: l) (q :: r)
theorem Rest.sub {news l r : List (Addr × Obj)} (h : Rest news l r) : ∀ q ∈ r, q ∈ l := by
  induction h with
  | nil => exact fun _ hq => hq
  | skip _ _ ih => exact fun q hq => .tail _ (ih q hq)
  | keep _ _ ih =>
    intro q hq
    rcases List.mem_cons.mp hq with h | h
    · rw [h]; exact .head _
    · exact .tail _ (ih q h)
theorem Rest.off {news l r : List (Addr × Obj)} (h : Rest news l r) : ∀ q ∈ r, ∀ p ∈ news, @Ne Nat q.1 p.1 := by
  induction h with
  | nil => exact fun _ hq => nomatch hq
  | skip _ _ ih => exact ih
  | keep h _ ih =>
    intro q hq p hp
    rcases List.mem_cons.mp hq with e | e
    · rw [e]; exact fun x => h p hp x.symm
    · exact ih q e p hp

theorem Does.useR {w : World} {mean : ExcName → Option Value} {mg mb : Str → Option Value} {f : Addr} {d : Nat} {news rest led : List (Addr × Obj)} {args : List Value} {Post : Value → List (Addr × Obj) → Prop}
    {dp un : Nat} {gd : Option (List Code)} {cn : Str} {cs : Scope} {a : Addr} {ccd : Value} {cl : List (Str × Addr)} {outer : List Env} {A₀ : Around} {base h₀ : Heap} {L : Addr} {m : Str → Option Value} {s : Shared} {Q E : Value → Shared → Prop}
    (S : Does w mean mg mb f d news args Post)
    (B : Below A₀ base outer h₀) (F : Fr h₀ L s.heap m) (X : (hd.heap_39 w.params).In h₀) (N : News h₀ L s.heap led) (T : Top hd.view_39 (looseW hd.view_39 []) mean mg mb h₀) (hk : cs.kind = .function)
    (hn : ∀ q ∈ news, q ∈ led) (hR : Rest news led rest)
    (hd : dp + d < recursionLimit) (hu : un + 100 + 8 * d < cLine)
    (ret : ∀ v news' h' tk', Fr h₀ L h' m → News h₀ L h' (news' ++ rest) → (∀ q ∈ news', ∀ r ∈ rest, @Ne Nat q.1 r.1) → Post v news' → Q v { s with heap := h', toks := tk' }) :
    wpAny (model PySem.Challenge.rw_pf0249_01.row.prog w) (ktrTop dp un gd cn cs L a ccd cl outer) (call (.ref f) args) Q E s :=
  Does.use S B F X N T hk hn hR.sub hR.off hd hu ret

/-- what the samples are like ahead of a turn: none yet, or some and their least -/
def SampIn (first : Value) (vs : List Value) (ns : List Int) (least s8 : Int) (k : Nat) : Prop :=
  (first = .none ∧ vs = []) ∨ (∃ (f : Int) (t : Tok), first = .int f t ∧ decide (ns = []) = false ∧ IntsAre vs ns ∧ ns.length ≤ k ∧ IsMin least ns ∧ 1 ≤ least ∧ 8 ≤ s8 ∧ s8 ≤ 8023)
theorem SampIn.none {ns : List Int} {least s8 : Int} {k : Nat} : SampIn .none [] ns least s8 k := .inl ⟨rfl, rfl⟩

inductive SampledTo2 (w : World) (p lst ri rd wd : Addr) (ys : List Value) (n : Nat) (c : Int) (now b : Int) (tn tb : Tok) (k1 k2 k3 k4 k5 k6 : Tok) (k : Nat) : Value → List (Addr × Obj) → Prop
  | mk (c' latest' least' s8' v4' : Int) (tc' t2' t3' t4' t5' : Tok) (first' : Value) (ow' : Obj) (sl' : Addr) (vs' : List Value) (ns' : List Int) (n2' : Nat)
    (ho : ow'.IsDictOf (PySem.strKind PySem.Challenge.rw_pf0249_01.row.prog w) [(Str.ofString "now", .int now tn), (Str.ofString "samples", .ref sl'), (Str.ofString "burst", .int b tb)])
    (c1 : c ≤ c') (c2 : c' ≤ c + 10) (hS : SampIn first' vs' ns' least' s8' (k + 1)) (w1 : 1 ≤ s8'.fdiv 8) (w2 : s8'.fdiv 8 ≤ 1100)
    (d1 : Off p sl') (d2 : Off lst sl') (d3 : Off ri sl') (d4 : Off rd sl') (d5 : Off wd sl') :
    SampledTo2 w p lst ri rd wd ys n c now b tn tb k1 k2 k3 k4 k5 k6 k (.bool true)
      [(ri, instObj 130 rd), (rd, rttD w k1 k2 k3 k4 k5 k6 t2' t3' t4' t5' latest' least' s8' v4' first'), (wd, ow'), (sl', W.listOf vs'.toArray n2'), (p, W.listOf [.ref lst, .int c' tc'].toArray n), (lst, LCg.lst ys)]

theorem sampledTo2_of {w : World} {p lst ri rd wd : Addr} {ys : List Value} {n : Nat} {c now b : Int} {tn tb k1 k2 k3 k4 k5 k6 : Tok} {m k : Nat} {v : Value} {news' : List (Addr × Obj)} (hm : m ≤ k)
    (h : SampledTo w p lst ri rd wd ys n c now b tn tb k1 k2 k3 k4 k5 k6 m v news') : SampledTo2 w p lst ri rd wd ys n c now b tn tb k1 k2 k3 k4 k5 k6 k v news' := by
  obtain ⟨e, ho, h1, h2, h3, h4, h5, h6, h7, h8, h9, d1, d2, d3, d4, d5⟩ := h
  subst e
  refine .mk _ _ _ _ _ _ _ _ _ _ _ _ _ _ _ _ ho h1 h2 (.inr ⟨_, _, rfl, h3, h4, by omega, h6, h7, h8, h9⟩) ?_ ?_ (Off.of d1) (Off.of d2) (Off.of d3) (Off.of d4) (Off.of d5)
  · rw [Int.fdiv_eq_ediv_of_nonneg _ (by omega)]; omega
  · rw [Int.fdiv_eq_ediv_of_nonneg _ (by omega)]; omega

theorem Does.mono {w : World} {mean : ExcName → Option Value} {mg mb : Str → Option Value} {f : Addr} {d : Nat} {news : List (Addr × Obj)} {args : List Value} {Post Post' : Value → List (Addr × Obj) → Prop}
    (S : Does w mean mg mb f d news args Post) (h : ∀ v l, Post v l → Post' v l) : Does w mean mg mb f d news args Post' :=
  fun dp un gd cn cs a ccd cl outer A₀ base h₀ L m s Q E B F X N T hk hd hu ret => S dp un gd cn cs a ccd cl outer A₀ base h₀ L m s Q E B F X N T hk hd hu fun v l h' tk F' N' k1 k2 p => ret v l h' tk F' N' k1 k2 (h _ _ p)

theorem rest3 {q : Addr × Obj} {a b c : Addr} {o1 o2 o3 : Obj} (h : ∀ r ∈ [(a, o1), (b, o2), (c, o3)], @Ne Nat q.1 r.1) : @Ne Nat q.1 a ∧ @Ne Nat q.1 b ∧ @Ne Nat q.1 c := ⟨h _ (.head _), h _ (.tail _ (.head _)), h _ (.tail _ (.tail _ (.head _)))⟩
theorem mem5 {α : Type} {a b c d e : α} {l : List α} (m1 : a ∈ l) (m2 : b ∈ l) (m3 : c ∈ l) (m4 : d ∈ l) (m5 : e ∈ l) : ∀ q ∈ [a, b, c, d, e], q ∈ l := by
  intro q hq
  simp only [List.mem_cons, List.not_mem_nil, or_false] at hq
  rcases hq with h | h | h | h | h <;> (rw [h]; assumption)

theorem sampled_does {w : World} {mean : ExcName → Option Value} {mg mb : Str → Option Value} {p lst ri rd sl wd : Addr} {ys : List Value} {xs : List Int} {n n2 : Nat} {c : Int} {tc : Tok}
    {vs : List Value} {ns : List Int} {ow : Obj} {now b : Int} {tn tb : Tok} {k1 k2 k3 k4 k5 k6 t2 t3 t4 t5 : Tok} {latest least s8 v4 : Int} {first : Value} {k : Nat}
    (h1 : @Ne Nat p lst) (h2 : @Ne Nat p ri) (h3 : @Ne Nat p rd) (h4 : @Ne Nat p wd) (h5 : @Ne Nat lst ri) (h6 : @Ne Nat lst rd) (h7 : @Ne Nat lst wd) (h8 : @Ne Nat ri rd) (h9 : @Ne Nat ri wd) (h10 : @Ne Nat rd wd)
    (h11 : @Ne Nat p sl) (h12 : @Ne Nat lst sl) (h13 : @Ne Nat ri sl) (h14 : @Ne Nat rd sl) (h15 : @Ne Nat wd sl)
    (hI : IntsAre ys xs) (hx : xs.length ≤ 40) (hc : 0 ≤ c) (hc' : c ≤ 900) (hk : k ≤ 40)
    (ho : ow.IsDictOf (PySem.strKind PySem.Challenge.rw_pf0249_01.row.prog w) [(Str.ofString "now", .int now tn), (Str.ofString "samples", .ref sl), (Str.ofString "burst", .int b tb)])
    (hS : SampIn first vs ns least s8 k) :
    Does w mean mg mb 148 4 [(ri, instObj 130 rd), (rd, rttD w k1 k2 k3 k4 k5 k6 t2 t3 t4 t5 latest least s8 v4 first), (wd, ow), (sl, W.listOf vs.toArray n2), (p, W.listOf [.ref lst, .int c tc].toArray n), (lst, LCg.lst ys)]
      [.ref p, .ref ri, .ref wd] (SampledTo2 w p lst ri rd wd ys n c now b tn tb k1 k2 k3 k4 k5 k6 k) := by
  rcases hS with ⟨rfl, rfl⟩ | ⟨f, t, rfl, a1, a2, a3, a4, a5, a6, a7⟩
  · exact (sampled_begin p lst ri rd sl wd ys xs n n2 c tc ow now b tn tb k1 k2 k3 k4 k5 k6 t2 t3 t4 t5 latest least s8 v4 h1 h2 h3 h4 h5 h6 h7 h8 h9 h10 h11 h12 h13 h14 h15 hI hx hc hc' ho).mono fun v l => sampledTo2_of (Nat.zero_le _)
  · exact (sampled_later p lst ri rd sl wd ys xs n n2 c tc vs ns ow now b tn tb k1 k2 k3 k4 k5 k6 t2 t3 t4 t5 t latest least s8 v4 f h1 h2 h3 h4 h5 h6 h7 h8 h9 h10 h11 h12 h13 h14 h15 hI hx hc hc' a1 a2 (by omega) a4 a5 a6 a7 ho).mono fun v l => sampledTo2_of a3

local macro_rules | `(tactic| walk_at "mine rest") => `(tactic| first | exact Rest.nil | (refine' Rest.skip ?ra ?rb; (case ra => k_mem); (case rb => walk_at "mine rest")) | (refine' Rest.keep ?ra ?rb; (case ra => k_all); (case rb => walk_at "mine rest")))

section


local macro_rules | `(tactic| k_ne) => `(tactic| (refine neN ?_; (try dsimp only); first | (refine Off.ne ?_; with_reducible assumption) | (refine Off.en ?_; with_reducible assumption) | with_reducible assumption | (refine Ne.symm ?_; with_reducible assumption)))
inductive Apart (p lst pi pd ri rd wd : Addr) : Prop
  | mk (p1 : Off p lst) (p2 : Off p pi) (p3 : Off p pd) (p4 : Off p ri) (p5 : Off p rd) (p6 : Off p wd) (p7 : Off lst pi) (p8 : Off lst pd) (p9 : Off lst ri) (p10 : Off lst rd) (p11 : Off lst wd) (p12 : Off pi pd) (p13 : Off pi ri) (p14 : Off pi rd) (p15 : Off pi wd) (p16 : Off pd ri) (p17 : Off pd rd) (p18 : Off pd wd) (p19 : Off ri rd) (p20 : Off ri wd) (p21 : Off rd wd)

/-- what holds between two turns of the law -/
inductive Jlaw (w : World) (p lst pi pd ri rd wd : Addr) (ys : List Value) (n : Nat) (i : Nat) (m : Str → Option Value) : List (Addr × Obj) → Prop
  | mk {b : Int} {tb kp1 kp2 kp3 kp4 t1 kr1 kr2 kr3 kr4 kr5 kr6 : Tok} {c now left rest latest least s8 v4 : Int} {tc tn t2 t3 t4 u2 u3 u4 u5 : Tok} {first : Value} {ow : Obj} {sl : Addr} {vs : List Value} {ns : List Int} {n2 : Nat}
    (hK : ∀ q ∈ [(Str.ofString "pool", Value.ref p), (Str.ofString "world", .ref wd), (Str.ofString "rtt", .ref ri), (Str.ofString "pacer", .ref pi)], m q.1 = some q.2)
    (ho : ow.IsDictOf (PySem.strKind PySem.Challenge.rw_pf0249_01.row.prog w) [(Str.ofString "now", .int now tn), (Str.ofString "samples", .ref sl), (Str.ofString "burst", .int b tb)])
    (c1 : 0 ≤ c) (c2 : c ≤ 2 + 40 * (i : Int)) (l1 : -(300 * (i : Int)) ≤ left) (l2 : left ≤ b) (l3 : left = b → rest = 0) (l4 : 0 ≤ rest) (b1 : 100 ≤ b) (b2 : b ≤ 300)
    (hS : SampIn first vs ns least s8 i) (ap : Apart p lst pi pd ri rd wd)
    (d1 : Off p sl) (d2 : Off lst sl) (d3 : Off pi sl) (d4 : Off pd sl) (d5 : Off ri sl) (d6 : Off rd sl) (d7 : Off wd sl) :
    Jlaw w p lst pi pd ri rd wd ys n i m
      [(pi, instObj 66 pd), (pd, pacerD w kp1 kp2 kp3 kp4 t1 t2 t3 t4 b left rest now), (ri, instObj 130 rd), (rd, rttD w kr1 kr2 kr3 kr4 kr5 kr6 u2 u3 u4 u5 latest least s8 v4 first), (wd, ow), (sl, W.listOf vs.toArray n2), (p, W.listOf [.ref lst, .int c tc].toArray n), (lst, LCg.lst ys)]

/-- behind the sending: a draw at most, and at most 300 less left -/
inductive SentTo (h₀ : Heap) (L : Addr) (m : Str → Option Value) (s : Shared) (w : World) (p lst pi pd ri rd wd sl : Addr) (o1 o2 o3 o4 o6 o7 : Obj) (n : Nat) (I : Addr) (oI : Obj) (c b left rest now : Int) (k1 k2 k3 k4 t1 t3 t4 : Tok) : Flow → Shared → Prop
  | mk {h' : Heap} {tk : Nat} {c' left' : Int} {tc' t2' : Tok} (F : Fr h₀ L h' m)
    (N : News h₀ L h' [(ri, o1), (rd, o2), (wd, o3), (sl, o4), (p, W.listOf [.ref lst, .int c' tc'].toArray n), (lst, o6), (pi, o7), (pd, pacerD w k1 k2 k3 k4 t1 t2' t3 t4 b left' rest now), (I, oI)])
    (h1 : c ≤ c') (h2 : c' ≤ c + 1) (h3 : left - 300 ≤ left') (h4 : left' ≤ left) (h5 : left' = b → rest = 0) :
    SentTo h₀ L m s w p lst pi pd ri rd wd sl o1 o2 o3 o4 o6 o7 n I oI c b left rest now k1 k2 k3 k4 t1 t3 t4 .next { s with heap := h', toks := tk }

theorem sent_cut {h₀ : Heap} {L : Addr} {m : Str → Option Value} {s : Shared} {w : World} {p lst pi pd ri rd wd sl : Addr} {o1 o2 o3 o4 o6 o7 : Obj} {n : Nat} {I : Addr} {oI : Obj} {c b left rest now : Int} {k1 k2 k3 k4 t1 t2 t3 t4 tc : Tok}
    {prog : Program} {A : Around} {t : Sem Flow} {Q : Flow → Shared → Prop} {E : Value → Shared → Prop}
    (_F : Fr h₀ L s.heap m)
    (_N : News h₀ L s.heap [(ri, o1), (rd, o2), (wd, o3), (sl, o4), (p, W.listOf [.ref lst, .int c tc].toArray n), (lst, o6), (pi, o7), (pd, pacerD w k1 k2 k3 k4 t1 t2 t3 t4 b left rest now), (I, oI)])
    (h1 : wpAny (model prog w) A t (SentTo h₀ L m s w p lst pi pd ri rd wd sl o1 o2 o3 o4 o6 o7 n I oI c b left rest now k1 k2 k3 k4 t1 t3 t4) E s)
    (h2 : ∀ h' tk c' left' tc' t2', Fr h₀ L h' m → News h₀ L h' [(ri, o1), (rd, o2), (wd, o3), (sl, o4), (p, W.listOf [.ref lst, .int c' tc'].toArray n), (lst, o6), (pi, o7), (pd, pacerD w k1 k2 k3 k4 t1 t2' t3 t4 b left' rest now), (I, oI)] →
      c ≤ c' → c' ≤ c + 1 → left - 300 ≤ left' → left' ≤ left → (left' = b → rest = 0) → Q .next { s with heap := h', toks := tk }) : wpAny (model prog w) A t Q E s :=
  wpAny_mono h1 (fun _ _ q => by obtain ⟨F, N, a, b, c, d, e⟩ := q; exact h2 _ _ _ _ _ _ F N a b c d e) fun _ _ e => e

local macro_rules | `(tactic| walk_at "exec If BoolOp") => `(tactic| (k_here; (rename Held (1 = 1) => zz); clear zz; refine Stop.intro ?_))
theorem offs {I : Nat} {a b c d e f g k : Addr × Obj} (h : ∀ p ∈ [a, b, c, d, e, f, g, k], @Ne Nat p.1 I) : Off a.1 I ∧ Off b.1 I ∧ Off c.1 I ∧ Off d.1 I ∧ Off e.1 I ∧ Off f.1 I ∧ Off g.1 I ∧ Off k.1 I :=
  ⟨h _ (by k_mem), h _ (by k_mem), h _ (by k_mem), h _ (by k_mem), h _ (by k_mem), h _ (by k_mem), h _ (by k_mem), h _ (by k_mem)⟩

local macro_rules | `(tactic| walk_at "callWith ref") => `(tactic| (k_here; (with_reducible show wpAny _ _ (callWith _ (Value.ref _) _ (backTo _ (starEach [] _)) []) _ _ _); (rename Held _ => zz); (k_dflt (refine' callWith_K0 (Frag.In.keeps ?mA (Fr.keep ?mB)) ?mc ?_; ((case mB => with_reducible assumption)); ((case mA => with_reducible assumption)); ((case mc => k_is)); k_whole))))
theorem law_holds : PySem.Challenge.rw_pf0249_01.Holds := hd (by
  w_strict (k_go0; (all_goals try k_fold); k_steps)
  refine Stop.out ?_
  (rename IsRange _ _ _ _ _ _ _ _ => hR)
  (rename Fr _ _ _ _ => hF)
  (rename News _ _ _ _ => hN)
  (rename IntsAre _ (List.map _ _) => hI)
  obtain ⟨xs, hI, hx⟩ : ∃ xs : List Int, IntsAre _ xs ∧ xs.length ≤ 40 := ⟨_, hI, by rw [List.length_map, List.length_take]; omega⟩
  refine' range_loop (J := Jlaw _ _ _ _ _ _ _ _ _ _) (by rfl) hR (small_one (by omega) (by omega) (by omega) (by omega)) (rangeSize_nat _ _) hF (news := [_, _, _, _, _, _, _, _]) (kst_newsOf hN ?sub) (Jlaw.mk ?kn ?ko ?c1 ?c2 ?l1 ?l2 ?l3 ?l4 ?b1 ?b2 (SampIn.none (ns := [])) ?ap ?d1 ?d2 ?d3 ?d4 ?d5 ?d6 ?d7) ?turn ?done
  case ko => with_reducible assumption
  case kn => walk_at "mine knows"
  case sub => walk_at "mine all"
  case c1 => omega
  case c2 => omega
  case l1 => omega
  case l2 => exact Int.le_refl _
  case l3 => exact fun _ => rfl
  case l4 => exact Int.le_refl _
  case b1 => omega
  case b2 => omega
  case ap => (refine Apart.mk ?_ ?_ ?_ ?_ ?_ ?_ ?_ ?_ ?_ ?_ ?_ ?_ ?_ ?_ ?_ ?_ ?_ ?_ ?_ ?_ ?_ <;> (refine Off.of ?_; k_ne))
  case d1 => (refine Off.of ?_; k_ne)
  case d2 => (refine Off.of ?_; k_ne)
  case d3 => (refine Off.of ?_; k_ne)
  case d4 => (refine Off.of ?_; k_ne)
  case d5 => (refine Off.of ?_; k_ne)
  case d6 => (refine Off.of ?_; k_ne)
  case d7 => (refine Off.of ?_; k_ne)
  case turn =>
    (rename Below callerA _ [] _ => kBelow); replace kBelow := Held.of kBelow
    (rename Frag.In _ _ => kIn); replace kIn := Held.of kIn
    (rename Glob _ _ _ _ _ _ _ _ => kGlob); replace kGlob := Held.of kGlob
    (rename Top _ _ _ _ _ (Shared.heap _) => kTop); replace kTop := Held.of kTop
    replace hI := Held.of hI
    replace hx := Held.of hx
    rintro I oI i t m₁ nx h tk hi
    have hi2 := Held.of (show i ≤ 5 by omega)
    clear hi
    repeat (rename Below _ _ _ _ => z9; clear z9)
    repeat (rename Frag.In _ _ => z9; clear z9)
    repeat (rename Glob _ _ _ _ _ _ _ _ => z9; clear z9)
    repeat (rename Top _ _ _ _ _ _ => z9; clear z9)
    repeat (rename Fr _ _ _ _ => z9; clear z9)
    repeat (rename News _ _ _ _ => z9; clear z9)
    repeat (rename BMod _ _ _ _ _ => z9; clear z9)
    repeat (rename Heap.IsList _ _ _ => z9; clear z9)
    repeat (rename ReadsAll _ _ _ _ => z9; clear z9)
    repeat (rename ReadsAllW _ _ _ _ _ _ => z9; clear z9)
    repeat (rename Reads _ _ _ _ => z9; clear z9)
    repeat (rename Well _ _ _ _ => z9; clear z9)
    repeat (rename IntsAre _ _ => z9; clear z9)
    repeat (rename Obj.IsDictOf _ _ _ => z9; clear z9)
    repeat (rename _ ∧ _ => z9; clear z9)
    repeat (rename _ < _ => z9; clear z9)
    repeat (rename _ ≠ _ => z9; clear z9)
    repeat (rename _ ≤ _ => z9; clear z9)
    repeat (rename _ = _ => z9; clear z9)
    repeat (rename ¬ _ => z9; clear z9)
    repeat (rename True => z9; clear z9)
    repeat (rename Dflts _ _ _ _ _ _ => z9; clear z9)
    repeat (rename Heap.CodeRec _ _ _ => z9; clear z9)
    repeat (rename Flt.MathXP _ _ _ => z9; clear z9)
    repeat (rename LooseAre _ _ _ => z9; clear z9)
    repeat (rename Tables _ _ _ _ => z9; clear z9)
    repeat (rename TopE _ _ _ _ => z9; clear z9)
    repeat (rename TopW _ _ _ => z9; clear z9)
    repeat (rename ∀ (_ : Addr) (_ : Obj), _ => z9; clear z9)
    repeat (rename Flow → Shared → Prop => z9; clear z9)
    repeat (rename Value → Shared → Prop => z9; clear z9)
    repeat (rename Ground _ _ _ _ _ _ _ _ _ => z9; clear z9)
    replace kBelow := kBelow.out
    replace kIn := kIn.out
    clear kGlob
    replace kTop := kTop.out
    replace hI := hI.out
    replace hx := hx.out
    rintro hoff ⟨hK, ho, hc1, hc2, hl1, hl2, hl3, hl4, hb1, hb2, hS, ⟨p1, p2, p3, p4, p5, p6, p7, p8, p9, p10, p11, p12, p13, p14, p15, p16, p17, p18, p19, p20, p21⟩, d1, d2, d3, d4, d5, d6, d7⟩ F1 N1
    replace F1 := know hK F1
    obtain ⟨o1, o2, o3, o4, o5, o6, o7, o8⟩ := offs hoff
    clear hK hoff
    replace hi2 := hi2.out
    dsimp only at ho o1 o2 o3 o4 o5 o6 o7 o8
    simp only [List.cons_append, List.nil_append] at N1
    dsimp only [envOf] at F1 N1
    have mark : Held True := ⟨trivial⟩
    have markIf : Held (1 = 1) := ⟨rfl⟩
    k_steps
    ((with_reducible refine Stop.out ?_); (show wpAny _ _ (call (Value.ref 148) _) _ _ _); ((refine' Does.useR (sampled_does ?a1 ?a2 ?a3 ?a4 ?a5 ?a6 ?a7 ?a8 ?a9 ?a10 ?a11 ?a12 ?a13 ?a14 ?a15 ?aI ?ax ?ac ?ad ?ak ?ao ?as) ?k1 ?k2 ?k3 ?k4 ?k5 ?kK (mem6 ?m1 ?m2 ?m3 ?m4 ?m5 ?m6) ?kR ?kd ?ku ?_; (case k1 => k_asm); (case k2 => k_asm); (case k3 => k_asm); (case k4 => k_asm); (case k5 => k_asm); (case kK => first | exact rfl | assumption); (case m1 => k_mem); (case m2 => k_mem); (case m3 => k_mem); (case ao => with_reducible assumption); (case m4 => k_mem); (case m5 => k_mem); (case m6 => k_mem); (case a1 => k_ne); (case a2 => k_ne); (case a3 => k_ne); (case a4 => k_ne); (case a5 => k_ne); (case a6 => k_ne); (case a7 => k_ne); (case a8 => k_ne); (case a9 => k_ne); (case a10 => k_ne); (case a11 => k_ne); (case a12 => k_ne); (case a13 => k_ne); (case a14 => k_ne); (case a15 => k_ne); (case aI => first | assumption | l_ints); (case ax => assumption); (case ac => omega); (case ad => omega); (case as => with_reducible assumption); (case ak => omega); (case kR => walk_at "mine rest"); (case kd => ktr_room); (case ku => ktr_units); k_whole)); intro v' l' h' tk' F' N' hsep' hp'; (obtain ⟨c', latest', least', s8', v4', tc', t2', t3', t4', t5', first', ow', sl', vs', ns', n2', ho', hc1', hc2', hS', hw1', hw2', d1', d2', d3', d4', d5'⟩ := hp'; (simp only [List.cons_append, List.nil_append] at N'); obtain ⟨x1', x2', x3'⟩ := rest3 (hsep' _ (.tail _ (.tail _ (.tail _ (.head _))))); clear hsep'; dsimp only at x1' x2' x3'; replace x1' := Off.of x1'; replace x2' := Off.of x2'; replace x3' := Off.of x3'); (try k_sweep); (try k_fold))
    k_steps
    refine Stop.out ?_
    (rename Fr (Top.heap _) _ _ _ => eF)
    (rename News (Top.heap _) _ _ _ => eN)
    refine sent_cut eF eN ?cut1 ?cut2
    case cut1 =>
      k_steps
      all_goals (
        (rename Fr (Top.heap _) _ _ _ => eF)
        (rename News (Top.heap _) _ _ _ => eN)
        refine' SentTo.mk eF eN ?e1 ?e2 ?e3 ?e4 ?e5
        (case e1 => omega)
        (case e2 => omega)
        (case e3 => omega)
        (case e4 => omega)
        (case e5 => first | assumption | (intro eB; exfalso; omega)))
    case cut2 =>
     intro h' tk' c' left' tc' t2' F' N' ec1 ec2 el1 el2 el3
     clear hl3 eF eN
     k_steps
     ((with_reducible refine Stop.out ?_); (show wpAny _ _ (call (Value.ref 155) _) _ _ _); ((refine' Does.useR (earned_does _ _ _ _ _ _ _ _ _ _ _ _ _ _ _ _ _ _ _ _ _ _ _ _ _ _ _ _ _ _ ?a1 ?a2 ?a3 ?a4 ?a5 ?a6 ?a7 ?a8 ?a9 ?a10 ?aI ?ax ?ac ?ad ?w1 ?w2 ?y1 ?y2 ?ab ?al ?af ?ar ?ao) ?k1 ?k2 ?k3 ?k4 ?k5 ?kK (mem5 ?m1 ?m2 ?m3 ?m4 ?m5) ?kR ?kd ?ku ?_; (case k1 => k_asm); (case k2 => k_asm); (case k3 => k_asm); (case k4 => k_asm); (case k5 => k_asm); (case kK => first | exact rfl | assumption); (case m1 => k_mem); (case m2 => k_mem); (case m3 => k_mem); (case ao => with_reducible assumption); (case m4 => k_mem); (case m5 => k_mem); (case a1 => k_ne); (case a2 => k_ne); (case a3 => k_ne); (case a4 => k_ne); (case a5 => k_ne); (case a6 => k_ne); (case a7 => k_ne); (case a8 => k_ne); (case a9 => k_ne); (case a10 => k_ne); (case aI => first | assumption | l_ints); (case ax => assumption); (case ac => omega); (case ad => omega); (case w1 => first | assumption | omega); (case w2 => first | assumption | omega); (case y1 => assumption); (case y2 => assumption); (case ab => omega); (case al => omega); (case af => first | assumption | (intro eB; exfalso; omega)); (case ar => omega); (case kR => walk_at "mine rest"); (case kd => ktr_room); (case ku => ktr_units); k_whole)); intro v' l' h' tk' F' N' hsep' hp'; (obtain ⟨ho', hc1', hc2', hl1', hl2', hf', hr'⟩ := hp'; (simp only [List.cons_append, List.nil_append] at N'); clear hsep'); (try k_sweep); (try k_fold))
     k_steps
     ((with_reducible refine Stop.out ?_); (show wpAny _ _ (call (Value.ref 162) _) _ _ _); ((refine' Does1.use (least_does ?a1 ?a2 ?a3 ?a4 ?a5 ?a6 ?a7 ?a8 ?a9 ?a10) ?k1 ?k2 ?k3 ?k4 ?k5 ?kK ?kU ?kro ?kne ?kd ?ku ?_; (case k1 => k_asm); (case k2 => k_asm); (case k3 => k_asm); (case k4 => k_asm); (case k5 => k_asm); (case kK => first | exact rfl | assumption); (case kro => walk_at "mine all"); (case kU => k_updF); (case kne => k_all); (case kd => ktr_room); (case ku => ktr_units); k_whole; (case a1 => k_ne); (case a2 => first | assumption | omega); (case a3 => first | assumption | omega); (case a4 => first | assumption | omega); (case a5 => first | assumption | omega); (case a6 => omega); (case a7 => omega); (case a8 => omega); (case a9 => omega); (case a10 => omega))); intro v' o' h' tk' F' N' hp'; (obtain ⟨e1', e2'⟩ := hp'; subst e1'; subst e2'; (try dsimp only at N')); (try k_sweep); (try k_fold))
     k_steps
     (
      (rename Fr (Top.heap _) _ _ _ => eF)
      (rename News (Top.heap _) _ _ _ => eN)
      (rename SampIn _ _ _ _ _ (_ + 1) => eS)
      ((refine' TurnTo.next eF eN ?hn ?hI ?ho (Jlaw.mk ?kn ?kd ?c1 ?c2 ?l1 ?l2 ?l3 ?l4 hb1 hb2 eS (Apart.mk p1 p2 p3 p4 p5 p6 p7 p8 p9 p10 p11 p12 p13 p14 p15 p16 p17 p18 p19 p20 p21) ?d1 ?d2 ?d3 ?d4 ?d5 ?d6 ?d7)))
      ((case kd => with_reducible assumption))
      ((case hn => walk_at "mine all"))
      ((case hI => k_mem))
      ((case ho => k_all))
      ((case kn => walk_at "mine knows"))
      ((case c1 => omega))
      ((case c2 => omega))
      ((case l1 => omega))
      ((case l2 => omega))
      ((case l3 => first | assumption | omega))
      ((case l4 => omega))
      ((case d1 => first | with_reducible assumption | (refine Off.of (Ne.symm (Off.ne ?_)); with_reducible assumption)))
      ((case d2 => first | with_reducible assumption | (refine Off.of (Ne.symm (Off.ne ?_)); with_reducible assumption)))
      ((case d3 => first | with_reducible assumption | (refine Off.of (Ne.symm (Off.ne ?_)); with_reducible assumption)))
      ((case d4 => first | with_reducible assumption | (refine Off.of (Ne.symm (Off.ne ?_)); with_reducible assumption)))
      ((case d5 => first | with_reducible assumption | (refine Off.of (Ne.symm (Off.ne ?_)); with_reducible assumption)))
      ((case d6 => first | with_reducible assumption | (refine Off.of (Ne.symm (Off.ne ?_)); with_reducible assumption)))
      ((case d7 => first | with_reducible assumption | (refine Off.of (Ne.symm (Off.ne ?_)); with_reducible assumption))))
  case done =>
    rintro m₁ nx h tk ⟨hK, ho⟩ F1 N1
    k_steps)

end
end Mine

theorem PySem.Challenge.cw_pf0249_01_holds : PySem.Challenge.rw_pf0249_01.Holds :=
  Mine.law_holds
