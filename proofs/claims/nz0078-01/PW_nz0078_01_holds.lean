import PyProof.Rows.All
import Wide.All
import OpenK.AllK
import Wide.FinOn
import PySem.Challenge.RW_nz0078_01
open PySem PySem.W PyProof.Rows PySem.Spec PySem.Calls
set_option Elab.async false
set_option maxRecDepth 100000
namespace Mine
set_option maxHeartbeats 8000000 in
open_top hd for PySem.Challenge.rw_nz0078_01
local macro_rules | `(tactic| walk_at "exec While Compare cons nil") => `(tactic| k_extra "own while")
local macro_rules | `(tactic| walk_at "exec While BoolOp cons nil") => `(tactic| k_extra "own while")
local macro_rules | `(tactic| walk_at "call ref") => `(tactic| k_extra "own call")
local macro_rules | `(tactic| walk_at "pyIter ref") => `(tactic| k_extra "own iter")
local macro_rules | `(tactic| walk_at "UnrEnd") => `(tactic| k_extra "own unr")
local macro_rules | `(tactic| walk_at "compareOp Eq ref ref") => `(tactic| k_extra "own eq")
local macro_rules | `(tactic| walk_at "CompEnd") => `(tactic| k_extra "own cend")
local macro_rules | `(tactic| walk_at "CompSrcT") => `(tactic| k_extra "own csrc")
local macro_rules | `(tactic| walk_at "CompRestT") => `(tactic| k_extra "own crest")
local macro_rules | `(tactic| walk_at "call builtin:len") => `(tactic| k_extra "own len")
local macro_rules | `(tactic| walk_at "call builtin:pow") => `(tactic| k_extra "own pow")
local macro_rules | `(tactic| walk_at "binaryOp LShift int int") => `(tactic| k_extra "own lsh")
local macro_rules | `(tactic| walk_at "exec For Name Subscript cons nil") => `(tactic| k_extra "own for")
/-! Numbers and their rows of limbs: plain facts. -/
/-- the limbs of a number, lowest first -/
def rowL (w : Nat) : Nat → Int → List Int
  | 0, _ => []
  | f + 1, v => if v ≤ 0 then [] else v.fmod (2 ^ w) :: rowL w f (v.fdiv (2 ^ w))
@[irreducible] def rowI (w : Nat) (v : Int) : List Int := rowL w 24 v
theorem pow_ge2 {w : Nat} (h : 1 ≤ w) : (2 : Int) ≤ 2 ^ w := by
  obtain ⟨k, rfl⟩ : ∃ k, w = k + 1 := ⟨w - 1, by omega⟩
  have : (0 : Int) < 2 ^ k := Int.pow_pos (by omega)
  rw [Int.pow_succ]
  omega
theorem fdiv_half {w : Nat} {v : Int} (h : 1 ≤ w) (h0 : 0 ≤ v) : 0 ≤ v.fdiv (2 ^ w) ∧ 2 * v.fdiv (2 ^ w) ≤ v := by
  have hp := pow_ge2 h
  have e := Int.fdiv_eq_ediv_of_nonneg v (by omega : (0 : Int) ≤ 2 ^ w)
  have q := Int.ediv_nonneg h0 (by omega : (0 : Int) ≤ 2 ^ w)
  have m := Int.mul_ediv_self_le (x := v) (k := 2 ^ w) (by omega)
  rw [e]
  refine ⟨q, ?_⟩
  exact Int.le_trans (Int.mul_le_mul_of_nonneg_right hp q) m
theorem fdiv_back {w : Nat} (v : Int) : v.fdiv (2 ^ w) * 2 ^ w + v.fmod (2 ^ w) = v := by
  have := Int.mul_fdiv_add_fmod v (2 ^ w)
  rw [Int.mul_comm] at this
  exact this
theorem fmod_in {w : Nat} (v : Int) : 0 ≤ v.fmod (2 ^ w) ∧ v.fmod (2 ^ w) < 2 ^ w := by
  have hp : (0 : Int) < 2 ^ w := Int.pow_pos (by omega)
  exact ⟨Int.fmod_nonneg_of_pos v hp, Int.fmod_lt_of_pos v hp⟩
theorem rowL_fuel {w : Nat} (hw : 1 ≤ w) : ∀ (f g : Nat) (v : Int), v < 2 ^ f → v < 2 ^ g → rowL w f v = rowL w g v
  | 0, 0, _, _, _ => rfl
  | 0, g + 1, v, h, _ => by
    have : v ≤ 0 := by simp at h; omega
    simp [rowL, this]
  | f + 1, 0, v, _, h => by
    have : v ≤ 0 := by simp at h; omega
    simp [rowL, this]
  | f + 1, g + 1, v, h1, h2 => by
    simp only [rowL]
    by_cases h : v ≤ 0
    · simp [h]
    · simp only [h, if_false]
      have q := (fdiv_half hw (by omega : 0 ≤ v)).2
      congr 1
      refine rowL_fuel hw f g _ ?_ ?_
      · rw [Int.pow_succ] at h1; omega
      · rw [Int.pow_succ] at h2; omega
theorem rowI_zero {w : Nat} {v : Int} (h : ¬ 0 < v) : rowI w v = [] := by
  have : v ≤ 0 := by omega
  simp [rowI, rowL, this]
theorem rowI_pos {w : Nat} {v : Int} (hw : 1 ≤ w) (h : 0 < v) (h2 : v < 1048576) : rowI w v = v.fmod (2 ^ w) :: rowI w (v.fdiv (2 ^ w)) := by
  have q := (fdiv_half hw (by omega : 0 ≤ v))
  have e : rowI w v = v.fmod (2 ^ w) :: rowL w 23 (v.fdiv (2 ^ w)) := by
    have : ¬ v ≤ 0 := by omega
    simp [rowI, rowL, this]
  rw [e, rowL_fuel hw 23 24 _ (by omega) (by omega)]
  simp [rowI]
/-- the number that a row tells, its limbs taken from the highest on -/
def topI (w : Nat) (ns : List Int) : Int := ns.foldl (fun a x => a * 2 ^ w + x) 0
theorem topI_snoc (w : Nat) (ns : List Int) (x : Int) : topI w (ns ++ [x]) = topI w ns * 2 ^ w + x := by simp [topI]
theorem top_row {w : Nat} (hw : 1 ≤ w) : ∀ (f : Nat) (v : Int), 0 ≤ v → v < 2 ^ f → topI w (rowL w f v).reverse = v
  | 0, v, h0, h1 => by
    have : v = 0 := by simp at h1; omega
    subst this
    rfl
  | f + 1, v, h0, h1 => by
    simp only [rowL]
    by_cases h : v ≤ 0
    · have : v = 0 := by omega
      subst this
      simp [topI]
    · have q := fdiv_half hw h0
      have ih := top_row hw f (v.fdiv (2 ^ w)) q.1 (by rw [Int.pow_succ] at h1; omega)
      rw [if_neg h, List.reverse_cons, topI_snoc, ih]
      exact fdiv_back v
theorem top_rowI {w : Nat} {v : Int} (hw : 1 ≤ w) (h0 : 0 ≤ v) (h1 : v < 1048576) : topI w (rowI w v).reverse = v := by
  unfold rowI
  exact top_row hw 24 v h0 (by omega)
theorem row_limb {w : Nat} : ∀ (f : Nat) (v : Int), ∀ x ∈ rowL w f v, 0 ≤ x ∧ x < 2 ^ w
  | 0, _, _, h => nomatch h
  | f + 1, v, x, h => by
    simp only [rowL] at h
    split at h
    · exact nomatch h
    · rcases List.mem_cons.mp h with rfl | h
      · exact fmod_in v
      · exact row_limb f _ x h
theorem topI_nonneg {w : Nat} (ns : List Int) (h : ∀ x ∈ ns, 0 ≤ x) : ∀ a : Int, 0 ≤ a → a ≤ ns.foldl (fun a x => a * 2 ^ w + x) a := by
  induction ns with
  | nil => intro a _; exact Int.le_refl _
  | cons x r ih =>
    intro a ha
    have hp : (0 : Int) < 2 ^ w := Int.pow_pos (by omega)
    have hx := h x (.head _)
    have h1 : a * 1 ≤ a * 2 ^ w := Int.mul_le_mul_of_nonneg_left (by omega) ha
    rw [List.foldl_cons]
    exact Int.le_trans (by omega) (ih (fun y hy => h y (.tail _ hy)) (a * 2 ^ w + x) (by omega))
theorem row_len {w : Nat} (hw : 1 ≤ w) : ∀ (f : Nat) (v : Int), (rowL w f v).length ≤ f
  | 0, _ => Nat.le_refl _
  | f + 1, v => by
    simp only [rowL]
    split
    · simp
    · simp only [List.length_cons]
      exact Nat.succ_le_succ (row_len hw f _)

theorem rowI_limb {w : Nat} {v : Int} : ∀ x ∈ rowI w v, 0 ≤ x ∧ x < 2 ^ w := by
  unfold rowI
  exact row_limb 24 v
theorem rowI_len {w : Nat} (hw : 1 ≤ w) (v : Int) : (rowI w v).length ≤ 24 := by
  unfold rowI
  exact row_len hw 24 v

/-! What a call tells. -/
def ListOut (ns : List Int) (tl : List (Addr × Obj)) (r : Value) : Prop :=
  ∃ D vs n, tl = [(D, listOf vs.toArray n)] ∧ r = .ref D ∧ IntsAre vs ns
def IntOut (x : Int) (tl : List (Addr × Obj)) (r : Value) : Prop := ∃ t, tl = [] ∧ r = .int x t
def BoolOut (b : Bool) (tl : List (Addr × Obj)) (r : Value) : Prop := tl = [] ∧ r = .bool b
def Ret (Out : List (Addr × Obj) → Value → Prop) (news : List (Addr × Obj)) (h₀ : Heap) (L : Addr) (m : Str → Option Value) (s : Shared) (Q : Value → Shared → Prop) : Prop :=
  ∀ tl r h' tk', Out tl r → (∀ q ∈ news, ∀ p ∈ tl, q.1 < p.1) → Fr h₀ L h' m → News h₀ L h' (tl ++ news) → Q r { s with heap := h', toks := tk' }
def Tell (w : World) (mean : ExcName → Option Value) (mg mb : Str → Option Value) (f : Addr) (room : Nat) (news : List (Addr × Obj)) (args : List Value) (Out : List (Addr × Obj) → Value → Prop) : Prop :=
  ∀ (dp un : Nat) (gd : Option (List Code)) (cn : Str) (cs : Scope) (a : Addr) (ccd : Value) (cl : List (Str × Addr)) (outer : List Env) (A₀ : Around) (base h₀ : Heap) (L : Addr) (m : Str → Option Value) (s : Shared) (Q E : Value → Shared → Prop),
    Below A₀ base outer h₀ → Fr h₀ L s.heap m → (Mine.hd.heap_39 w.params).In h₀ → News h₀ L s.heap news → Top Mine.hd.view_39 (looseW Mine.hd.view_39 []) mean mg mb h₀ → cs.kind = .function → dp + room < recursionLimit → un + 8 * room < cLine →
    Ret Out news h₀ L m s Q →
    wpAny (model PySem.Challenge.rw_nz0078_01.row.prog w) (ktrTop dp un gd cn cs L a ccd cl outer) (call (.ref f) args) Q E s
theorem order_one {D : Addr} {o : Obj} {news : List (Addr × Obj)} (h : ∀ p ∈ news, p.1 < D) : ∀ q ∈ news, ∀ p ∈ [(D, o)], q.1 < p.1 := by
  intro q hq p hp
  rw [List.mem_singleton.mp hp]
  exact h q hq
theorem news_dup {h₀ h : Heap} {L : Addr} {q : Addr × Obj} {news : List (Addr × Obj)} (N : News h₀ L h news) (hm : q ∈ news) : News h₀ L h (q :: news) := List.forall_mem_cons.mpr ⟨N q hm, N⟩
theorem in_cons {q : Addr × Obj} {news l : List (Addr × Obj)} (h : ∀ p ∈ news, p ∈ l) : ∀ p ∈ news, p ∈ q :: l := fun p hp => .tail _ (h p hp)
theorem in_self {news : List (Addr × Obj)} : ∀ p ∈ news, p ∈ news := fun _ h => h
section
variable {news : List (Addr × Obj)} {h₀ h' : Heap} {L : Addr} {m : Str → Option Value} {s : Shared} {Q : Value → Shared → Prop} {tk : Nat}
theorem ret_list {ns ms : List Int} {D : Addr} {vs : List Value} {n : Nat} {l : List (Addr × Obj)} (R : Ret (ListOut ns) news h₀ L m s Q) (hl : ∀ p ∈ news, p.1 < D) (F : Fr h₀ L h' m) (N : News h₀ L h' l) (hm : (D, listOf vs.toArray n) ∈ l) (hs : ∀ p ∈ news, p ∈ l) (I : IntsAre vs ms) (e : ms = ns) :
    Q (.ref D) { s with heap := h', toks := tk } := R _ _ _ _ ⟨D, vs, n, rfl, rfl, e ▸ I⟩ (order_one hl) F (fun p hp => by
    rcases List.mem_cons.mp hp with rfl | hp
    · exact N _ hm
    · exact N p (hs p hp))
theorem ret_listA {ns ms : List Int} {D : Addr} {vs : List Value} {n : Nat} {l : List (Addr × Obj)} {P : Prop} (R : Ret (ListOut ns) news h₀ L m s Q) (hl : P ∧ AllLt D news) (F : Fr h₀ L h' m) (N : News h₀ L h' l) (hm : (D, listOf vs.toArray n) ∈ l) (hs : ∀ p ∈ news, p ∈ l) (I : IntsAre vs ms) (e : ms = ns) :
    Q (.ref D) { s with heap := h', toks := tk } := ret_list R (kst_ltOf hl.2) F N hm hs I e
theorem ret_int {x y : Int} {t : Tok} {l : List (Addr × Obj)} (R : Ret (IntOut x) news h₀ L m s Q) (F : Fr h₀ L h' m) (N : News h₀ L h' l) (hs : ∀ p ∈ news, p ∈ l) (e : y = x) : Q (.int y t) { s with heap := h', toks := tk } :=
  R [] _ _ _ ⟨t, rfl, e ▸ rfl⟩ (fun _ _ _ h => nomatch h) F (fun p hp => N p (hs p hp))
theorem ret_bool {x y : Bool} {l : List (Addr × Obj)} (R : Ret (BoolOut x) news h₀ L m s Q) (F : Fr h₀ L h' m) (N : News h₀ L h' l) (hs : ∀ p ∈ news, p ∈ l) (e : y = x) : Q (.bool y) { s with heap := h', toks := tk } :=
  R [] _ _ _ ⟨rfl, e ▸ rfl⟩ (fun _ _ _ h => nomatch h) F (fun p hp => N p (hs p hp))
end
section
variable {w : World} {mean : ExcName → Option Value} {mg mb : Str → Option Value} {f : Addr} {room : Nat} {news : List (Addr × Obj)} {args : List Value} {dp un : Nat} {gd : Option (List Code)} {cn : Str} {cs : Scope} {a : Addr} {ccd : Value} {cl : List (Str × Addr)} {outer : List Env} {A₀ : Around} {base h₀ : Heap} {L : Addr} {m : Str → Option Value} {s : Shared} {Q E : Value → Shared → Prop}
theorem use_list {ns : List Int} (C : Tell w mean mg mb f room news args (ListOut ns)) (B : Below A₀ base outer h₀) (F : Fr h₀ L s.heap m) (X : (Mine.hd.heap_39 w.params).In h₀) (N : News h₀ L s.heap news) (T : Top Mine.hd.view_39 (looseW Mine.hd.view_39 []) mean mg mb h₀) (hk : cs.kind = .function) (hd : dp + room < recursionLimit) (hu : un + 8 * room < cLine)
    (ret : ∀ D vs n h' tk', IntsAre vs ns → (∀ p ∈ news, p.1 < D) → Fr h₀ L h' m → News h₀ L h' ((D, listOf vs.toArray n) :: news) → Q (.ref D) { s with heap := h', toks := tk' }) :
    wpAny (model PySem.Challenge.rw_nz0078_01.row.prog w) (ktrTop dp un gd cn cs L a ccd cl outer) (call (.ref f) args) Q E s := by
  refine C dp un gd cn cs a ccd cl outer A₀ base h₀ L m s Q E B F X N T hk hd hu ?_
  rintro _ _ h' tk' ⟨D, vs, n, rfl, rfl, I⟩ ho F' N'
  exact ret D vs n h' tk' I (fun q hq => ho q hq _ (.head _)) F' N'
theorem use_int {x : Int} (C : Tell w mean mg mb f room news args (IntOut x)) (B : Below A₀ base outer h₀) (F : Fr h₀ L s.heap m) (X : (Mine.hd.heap_39 w.params).In h₀) (N : News h₀ L s.heap news) (T : Top Mine.hd.view_39 (looseW Mine.hd.view_39 []) mean mg mb h₀) (hk : cs.kind = .function) (hd : dp + room < recursionLimit) (hu : un + 8 * room < cLine)
    (ret : ∀ t h' tk', Fr h₀ L h' m → News h₀ L h' news → Q (.int x t) { s with heap := h', toks := tk' }) :
    wpAny (model PySem.Challenge.rw_nz0078_01.row.prog w) (ktrTop dp un gd cn cs L a ccd cl outer) (call (.ref f) args) Q E s := by
  refine C dp un gd cn cs a ccd cl outer A₀ base h₀ L m s Q E B F X N T hk hd hu ?_
  rintro _ _ h' tk' ⟨t, rfl, rfl⟩ _ F' N'
  exact ret t h' tk' F' N'
theorem use_bool {x : Bool} (C : Tell w mean mg mb f room news args (BoolOut x)) (B : Below A₀ base outer h₀) (F : Fr h₀ L s.heap m) (X : (Mine.hd.heap_39 w.params).In h₀) (N : News h₀ L s.heap news) (T : Top Mine.hd.view_39 (looseW Mine.hd.view_39 []) mean mg mb h₀) (hk : cs.kind = .function) (hd : dp + room < recursionLimit) (hu : un + 8 * room < cLine)
    (ret : ∀ h' tk', Fr h₀ L h' m → News h₀ L h' news → Q (.bool x) { s with heap := h', toks := tk' }) :
    wpAny (model PySem.Challenge.rw_nz0078_01.row.prog w) (ktrTop dp un gd cn cs L a ccd cl outer) (call (.ref f) args) Q E s := by
  refine C dp un gd cn cs a ccd cl outer A₀ base h₀ L m s Q E B F X N T hk hd hu ?_
  rintro _ _ h' tk' ⟨rfl, rfl⟩ _ F' N'
  exact ret h' tk' F' N'
end
/-! A call's frame over all that stood before it: the caller's lists are then the frame's givens. -/
def upto (h : Heap) (n : Nat) : Heap := ⟨h.objs.take n, h.life⟩
theorem upto_size {h : Heap} {n : Nat} (hn : n ≤ h.objs.size) : (upto h n).objs.size = n := by
  show (h.objs.take n).size = n
  simp [Nat.min_eq_left hn]
theorem upto_lt {h : Heap} {n : Nat} {b : Addr} (hb : b < n) : (upto h n).get? b = h.get? b := by
  unfold upto Heap.get?
  have e : (h.objs.take n)[b]? = h.objs[b]? := by
    simp only [Array.take, Array.getElem?_extract, Nat.sub_zero, Nat.zero_add]
    by_cases h1 : b < min n h.objs.size
    · simp [h1]
    · have : h.objs.size ≤ b := Nat.not_lt.mp fun h3 => h1 (Nat.lt_min.mpr ⟨hb, h3⟩)
      simp [h1, this]
  simp only [e]
theorem upto_of {h : Heap} {n : Nat} {b : Addr} {o : Obj} (e : (upto h n).get? b = some o) : h.get? b = some o := by
  by_cases hb : b < n
  · rw [upto_lt hb] at e; exact e
  · have hl := Heap.lt_size e
    have : (upto h n).objs.size ≤ n := by
      show (h.objs.take n).size ≤ n
      simp [Nat.min_le_left]
    exact absurd (Nat.lt_of_lt_of_le hl this) hb
section
variable {prog : Program} {w : World} {A A₀ : Around} {s : Shared} {K : Frag} {base h₀ : Heap} {L : Addr} {m mg mb : Str → Option Value} {news : List (Addr × Obj)} {p : Program} {loose : List Str} {mean : ExcName → Option Value}
theorem code_base {env : Env} {outer : List Env} {R : Result → Shared → Prop} {name qual : Str} {params : Arguments} {body : List Stmt} {scope : Scope} {dV kV doc pm cdv ct oc : Value} {an od : Option Addr} {osl : Array (Option Value)} {f : Addr} {args : Args} {binds : List (Str × Value)}
    (B : Below A₀ base outer h₀) (F : Fr h₀ L s.heap m) (X₀ : K.In h₀) (N : News h₀ L s.heap news) (T : Top p loose mean mg mb h₀) (hA : A.frames = some (env :: outer)) (hf : env.frame = some L) (hke : env.scope.kind = .function)
    (ho : K.lookup f = some ⟨oc, od, .func (fnOf name qual params body scope dV kV doc pm an cdv ct), osl⟩) (hcd : codeIn K cdv qual = true) (hroom : A.depth < recursionLimit)
    (hbind : BindsTo s (fnOf name qual params body scope dV kV doc pm an cdv ct) args binds) (hloc : ∀ y ∈ binds, scope.names.lookup y.1 = some .local)
    (h : ∀ g L' h₁, Fr h₀ L g m → Fr g L' h₁ (fun y => binds.reverse.lookup y) → News g L' h₁ [] → (∀ q ∈ news, g.get? q.1 = some q.2) → Below A base (env :: outer) g → K.In g → Top p loose mean mg mb g →
      wpAny (model prog w) (A.deeper (envOf qual scope L' f cdv)) (execs body (envOf qual scope L' f cdv))
        (fun fl s' => LeaveK h₀ L m g (fun r s' => News h₀ L s'.heap news → R r s') (match fl with | .ret v => v | _ => .none) s')
        (fun e s' => wpAny (model prog w) (A.deeper (envOf qual scope L' f cdv)) (leaving (envOf qual scope L' f cdv) e) (fun _ s'' => R (.error e) s'') (fun e' s'' => R (.error e') s'') s')
        { s with heap := h₁, toks := s.toks + binds.length })
    (hco : scope.isCoroutine = false) (hgen : scope.isGenerator = false) (hk : scope.kind = .function)
    (hcell : ∀ x ∈ scope.names, x.2 ≠ .cell) : codeAny (model prog w) A (.call (.ref f) args) R s := by
  refine callX_plain (cl := []) B F N T.nolimit hA hf hke ((X₀.keeps F.keep) _ _ ho) rfl (codeRec_of (X₀.keeps F.keep) hcd) hroom hbind hloc (fun g L' h₁ FG F' N' B' st hlt => ?_) hcell hco hgen hk
  have sz : (upto h₁ L').objs.size = L' := upto_size (Nat.le_of_lt F'.ns.lt)
  have up : ∀ b o, g.get? b = some o → (upto h₁ L').get? b = some o := fun b o e =>
    (upto_lt (Nat.lt_of_lt_of_le (Heap.lt_size e) F'.above)).trans (F'.keep b o e)
  have st' : h₀.StaysIn (upto h₁ L') := fun b o e => up b o (st b o e)
  have hn : ∀ q ∈ news, (upto h₁ L').get? q.1 = some q.2 := fun q hq => (upto_lt (hlt q hq)).trans (N' q hq).1
  refine wpAny_mono (h (upto h₁ L') L' h₁ ⟨FG.ns.keeps up, fun b o e => up b o (FG.keep b o e), FG.above⟩ ⟨F'.ns, fun b o e => upto_of e, Nat.le_of_eq sz⟩ News.nil hn
    ⟨B'.stack, fun b o e => up b o (B'.stays b o e), B'.frames.of_keeps fun b o e _ => ⟨o, up b o e, rfl⟩⟩ (X₀.keeps fun b o e => st' b o e) (T.keeps fun b o e => st' b o e)) (fun fl s' hl => ?_) fun _ _ y => y
  obtain ⟨L₂, m₂, news₂, F₂, N₂, k⟩ := hl
  refine ⟨L₂, m₂, news₂, ⟨F₂.ns, fun b o e => F₂.keep b o (up b o e), ?_⟩, fun q hq => ⟨(N₂ q hq).1, (N₂ q hq).2.1, ?_⟩, fun kF kN => k kF kN fun q hq => ⟨F₂.keep _ _ (hn q hq), (N q hq).2.1, (N q hq).2.2⟩⟩
  · refine Nat.le_trans ?_ F₂.above
    rw [sz]
    exact F'.above
  · cases e : g.get? q.1 with
    | none => rfl
    | some o => have := (N₂ q hq).2.2; rw [up _ _ e] at this; cases this
/-- the same, with some of the caller's objects still in the ledger -/
theorem code_keep {env : Env} {outer : List Env} {R : Result → Shared → Prop} {name qual : Str} {params : Arguments} {body : List Stmt} {scope : Scope} {dV kV doc pm cdv ct oc : Value} {an od : Option Addr} {osl : Array (Option Value)} {f : Addr} {args : Args} {binds : List (Str × Value)} (own : List (Addr × Obj)) (hown : ∀ q ∈ own, q ∈ news)
    (B : Below A₀ base outer h₀) (F : Fr h₀ L s.heap m) (X₀ : K.In h₀) (N : News h₀ L s.heap news) (T : Top p loose mean mg mb h₀) (hA : A.frames = some (env :: outer)) (hf : env.frame = some L) (hke : env.scope.kind = .function)
    (ho : K.lookup f = some ⟨oc, od, .func (fnOf name qual params body scope dV kV doc pm an cdv ct), osl⟩) (hcd : codeIn K cdv qual = true) (hroom : A.depth < recursionLimit)
    (hbind : BindsTo s (fnOf name qual params body scope dV kV doc pm an cdv ct) args binds) (hloc : ∀ y ∈ binds, scope.names.lookup y.1 = some .local)
    (h : ∀ g L' h₁, Fr h₀ L g m → Fr g L' h₁ (fun y => binds.reverse.lookup y) → News g L' h₁ own → AllLt L' own → Below A base (env :: outer) g → K.In g → Top p loose mean mg mb g →
      wpAny (model prog w) (A.deeper (envOf qual scope L' f cdv)) (execs body (envOf qual scope L' f cdv))
        (fun fl s' => LeaveK h₀ L m g (fun r s' => (∀ q ∈ news, q.1 ∉ own.map (·.1) → s'.heap.get? q.1 = some q.2 ∧ q.1 ≠ L ∧ h₀.get? q.1 = none) → R r s') (match fl with | .ret v => v | _ => .none) s')
        (fun e s' => wpAny (model prog w) (A.deeper (envOf qual scope L' f cdv)) (leaving (envOf qual scope L' f cdv) e) (fun _ s'' => R (.error e) s'') (fun e' s'' => R (.error e') s'') s')
        { s with heap := h₁, toks := s.toks + binds.length })
    (hco : scope.isCoroutine = false) (hgen : scope.isGenerator = false) (hk : scope.kind = .function)
    (hcell : ∀ x ∈ scope.names, x.2 ≠ .cell) : codeAny (model prog w) A (.call (.ref f) args) R s := by
  refine callX_plain (cl := []) B F N T.nolimit hA hf hke ((X₀.keeps F.keep) _ _ ho) rfl (codeRec_of (X₀.keeps F.keep) hcd) hroom hbind hloc (fun g L' h₁ FG F' N' B' st hlt => ?_) hcell hco hgen hk
  have sz : (hideAll (upto h₁ L') (own.map (·.1))).objs.size = L' := (hideAll_size _ _).trans (upto_size (Nat.le_of_lt F'.ns.lt))
  have off : ∀ b o, g.get? b = some o → b ∉ own.map (·.1) := fun b o e hb => by
    obtain ⟨q, hq, rfl⟩ := List.mem_map.mp hb
    rw [(N' q (hown q hq)).2.2] at e
    cases e
  have up : ∀ b o, g.get? b = some o → (hideAll (upto h₁ L') (own.map (·.1))).get? b = some o := fun b o e =>
    hideAll_get _ ((upto_lt (Nat.lt_of_lt_of_le (Heap.lt_size e) F'.above)).trans (F'.keep b o e)) (off b o e)
  have st' : h₀.StaysIn (hideAll (upto h₁ L') (own.map (·.1))) := fun b o e => up b o (st b o e)
  have hn : ∀ q ∈ news, q.1 ∉ own.map (·.1) → (hideAll (upto h₁ L') (own.map (·.1))).get? q.1 = some q.2 := fun q hq ho => hideAll_get _ ((upto_lt (hlt q hq)).trans (N' q hq).1) ho
  refine wpAny_mono (h (hideAll (upto h₁ L') (own.map (·.1))) L' h₁ ⟨FG.ns.keeps up, fun b o e => up b o (FG.keep b o e), FG.above⟩ ⟨F'.ns, fun b o e => upto_of (of_hideAll _ e), Nat.le_of_eq sz⟩
    (fun q hq => ⟨(N' q (hown q hq)).1, (N' q (hown q hq)).2.1, hideAll_none _ (List.mem_map_of_mem hq)⟩) (allLt_of fun q hq => hlt q (hown q hq))
    ⟨B'.stack, fun b o e => up b o (B'.stays b o e), B'.frames.of_keeps fun b o e _ => ⟨o, up b o e, rfl⟩⟩ (X₀.keeps fun b o e => st' b o e) (T.keeps fun b o e => st' b o e)) (fun fl s' hl => ?_) fun _ _ y => y
  obtain ⟨L₂, m₂, news₂, F₂, N₂, k⟩ := hl
  refine ⟨L₂, m₂, news₂, ⟨F₂.ns, fun b o e => F₂.keep b o (up b o e), ?_⟩, fun q hq => ⟨(N₂ q hq).1, (N₂ q hq).2.1, ?_⟩, fun kF kN => k kF kN fun q hq ho => ⟨F₂.keep _ _ (hn q hq ho), (N q hq).2.1, (N q hq).2.2⟩⟩
  · refine Nat.le_trans ?_ F₂.above
    rw [sz]
    exact F'.above
  · cases e : g.get? q.1 with
    | none => rfl
    | some o => have := (N₂ q hq).2.2; rw [up _ _ e] at this; cases this
theorem news_join {h h' : Heap} {own l : List (Addr × Obj)} (N : News h₀ L h news) (hown : ∀ q ∈ own, q ∈ news) (kN : News h₀ L h' l) (hs : ∀ q ∈ own, q ∈ l)
    (k : ∀ q ∈ news, q.1 ∉ own.map (·.1) → h'.get? q.1 = some q.2 ∧ q.1 ≠ L ∧ h₀.get? q.1 = none) : News h₀ L h' news := by
  intro q hq
  by_cases ho : q.1 ∈ own.map (·.1)
  · obtain ⟨q', hq', e⟩ := List.mem_map.mp ho
    have e1 := (N q hq).1
    have e2 := (N q' (hown q' hq')).1
    rw [e, e1] at e2
    have : q' = q := Prod.ext e (Option.some.inj e2).symm
    exact kN q (hs q (this ▸ hq'))
  · exact k q hq ho
end
/-! pow with three ints -/
@[irreducible] def pw (a b c : Int) : Int := (Builtin.powMod (a % (c.natAbs : Int)).toNat b.natAbs c.natAbs : Nat)
set_option maxHeartbeats 1000000 in
theorem gives_pow3 (a : Int) (t : Tok) (b : Int) (u : Tok) (c : Int) (v : Tok) (hb : 0 ≤ b) (hc : 1 < c) :
    Gives (Builtin.«int.__pow__» ⟨[.int a t, .int b u, .int c v], []⟩) (.int (pw a b c)) := by
  unfold pw
  have hc0 : ¬(c == 0) = true := by simp; omega
  have hc1 : ¬(c.natAbs == 1) = true := by simp; omega
  have hb0 : ¬ b < 0 := by omega
  have hcn : ¬ c < 0 := by omega
  refine .of_wp fun M A E s Q h => ?_
  obtain ⟨hp, g, d, tk, os⟩ := s
  wp_walk
  all_goals (
    have e : (decide (c < 0) && ((Builtin.powMod (a % (c.natAbs : Int)).toNat b.natAbs c.natAbs : Nat) : Int) != 0) = false := by simp [hcn]
    refine ⟨_, ?_, h⟩
    first
      | rfl
      | (rw [if_neg (by rw [e]; exact Bool.false_ne_true)]))
theorem pow_kind : builtinKind "pow" = none := by decide +kernel
theorem pow_plain : plainId "pow" = true := by decide +kernel
theorem pow_entry : entryFor table "pow" = some Builtin.«pow» := entryFor_of_fast (by kernel_rfl)
theorem pow_args (a b c : Value) : argsOk "pow" ⟨[a, b, c], []⟩ := by unfold argsOk; kernel_rfl
section
variable {prog : Program} {w : World} {A : Around} {E : Value → Shared → Prop} {s : Shared} {a b c : Int} {t u v : Tok} {Q : Value → Shared → Prop}
set_option maxHeartbeats 1000000 in
theorem call_pow3 {r : Int} (hr : pw a b c = r) (hb : 0 ≤ b) (hc : 1 < c) (h : Q (.int r s.toks) { s with toks := s.toks + 1 }) : wpAny (model prog w) A (call (.builtin "pow") [.int a t, .int b u, .int c v]) Q E s := by
  subst hr
  refine call_function_entry pow_kind pow_plain pow_entry (pow_args _ _ _) ?_
  obtain ⟨hp, g, d, tk, os⟩ := s
  have hT : (⟨hp, g, d, tk, os⟩ : Shared).TypeIs (.int a t) "int" := rfl
  have f3 := F.slot_int_pow.lookup
  have f4 := F.slot_int_pow.bind (.int a t)
  have f5 : typeLookup (.type "int") (Str.ofString "__pow__") = pure (some (.builtin "int.__pow__")) := f3
  repeat (any_goals (first | assumption | ((with_reducible show wpAny _ _ (typeLookup (Value.type "int") (Str.ofString "__pow__")) _ _ _); rw [f5]; refine wpAny_pure ?_; dsimp only) | ((with_reducible show wpAny _ _ (call (Value.builtin "int.__pow__") _ _) _ _ _); refine call_gives F.slot_int_pow hT F.entry_int_pow (F.args_int_pow_3 _ _ _) (gives_pow3 a t b u c v hb hc) ?_; dsimp only [Made.post]) | wp_step))
  all_goals exact ⟨_, rfl, h⟩
end
/-! _law_row -/
theorem row_start {w v : Int} (h1 : 0 ≤ v) (h2 : v < 1048576) : 0 ≤ v ∧ v < 1048576 ∧ (([] : List Int).length : Int) + v ≤ 1048576 ∧ [] ++ rowI w.toNat v = rowI w.toNat v := ⟨h1, h2, by simp; omega, rfl⟩
theorem row_turn {w v v₀ : Int} {fs : List Int} (h3 : 2 ≤ w) (h0 : 0 < v) (h2 : v < 1048576) (h4 : (fs.length : Int) + v ≤ 1048576) (h : fs ++ rowI w.toNat v = rowI w.toNat v₀) :
    0 ≤ v.fdiv (2 ^ w.toNat) ∧ v.fdiv (2 ^ w.toNat) < 1048576 ∧ ((fs ++ [v.fmod (2 ^ w.toNat)]).length : Int) + v.fdiv (2 ^ w.toNat) ≤ 1048576 ∧ (fs ++ [v.fmod (2 ^ w.toNat)]) ++ rowI w.toNat (v.fdiv (2 ^ w.toNat)) = rowI w.toNat v₀ := by
  have hw : 1 ≤ w.toNat := by omega
  have q := fdiv_half hw (by omega : 0 ≤ v)
  refine ⟨q.1, by omega, by simp only [List.length_append, List.length_cons, List.length_nil]; omega, ?_⟩
  rw [← h, rowI_pos hw h0 h2, List.append_assoc]
  rfl
theorem row_end {w : Nat} {v v₀ : Int} {fs : List Int} (h0 : ¬ 0 < v) (h : fs ++ rowI w v = rowI w v₀) : fs = rowI w v₀ := by
  rw [← h, rowI_zero h0, List.append_nil]
section
set_option maxHeartbeats 8000000 in
theorem row_tell {w : World} {mean : ExcName → Option Value} {mg mb : Str → Option Value} {news : List (Addr × Obj)} {v wd : Int} {tv tw : Tok} (h1 : 0 ≤ v) (h2 : v < 1048576) (h3 : 2 ≤ wd) (h4 : wd ≤ 9) :
    Tell w mean mg mb 135 2 news [.int v tv, .int wd tw] (ListOut (rowI wd.toNat v)) := by
  unfold Tell
  k_fill
  intro dp un gd cn cs a ccd cl outer A₀ base h₀ L m s Q E B F X N T hk hd hu hret
  have hI0 : IntsAre [] [] := .nil
  w_top off
  k_with_none
  k_with "own while" => (k_while_given ["w", "value!"] (fun w₀ v₀ script v' fs => 0 ≤ v' ∧ v' < 1048576 ∧ (fs.length : Int) + v' ≤ 1048576 ∧ fs ++ rowI w₀.toNat v' = rowI w₀.toNat v₀) (fun w₀ v₀ script v' fs => v'.toNat) "value" "found")
  k_with "state" => first | exact row_start (by assumption) (by assumption) | exact row_turn (by assumption) (by assumption) (by assumption) (by assumption) (by assumption)
  k_with "measure" => have q9 := (fdiv_half (w := wd.toNat) (by omega) (by assumption)).2; omega
  refine wpAny_call ?_
  k_dflt ktr_enter
  k_steps
  all_goals exact ret_list hret (by assumption) (by assumption) (by assumption) (.head _) (in_cons in_self) (by assumption) (row_end (by assumption) (by assumption))
end
/-! _law_whole -/
theorem whole_start (w : Int) : (0 : Int) = topI w.toNat [] ∧ (0 : Int) ≤ 0 ∧ (0 : Int) < 1048576 := ⟨rfl, by omega, by omega⟩
theorem whole_turn {w v x val : Int} {pre post : List Int} (h : (rowI w.toNat v).reverse = pre ++ x :: post) (hw : 2 ≤ w) (h0 : 0 ≤ v) (h1 : v < 1048576) (e : val = topI w.toNat pre) :
    val * 2 ^ w.toNat + x = topI w.toNat (pre ++ [x]) ∧ 0 ≤ val * 2 ^ w.toNat + x ∧ val * 2 ^ w.toNat + x < 1048576 := by
  have hl : ∀ y ∈ pre ++ x :: post, 0 ≤ y := by
    intro y hy
    rw [← h] at hy
    exact (rowI_limb y (List.mem_reverse.mp hy)).1
  have e1 : val * 2 ^ w.toNat + x = topI w.toNat (pre ++ [x]) := by rw [topI_snoc, e]
  have t := top_rowI (w := w.toNat) (by omega) h0 h1
  have b1 : 0 ≤ topI w.toNat (pre ++ [x]) := topI_nonneg (pre ++ [x]) (fun y hy => hl y (by
    rcases List.mem_append.mp hy with hy | hy
    · exact List.mem_append.mpr (.inl hy)
    · rw [List.mem_singleton.mp hy]; exact List.mem_append.mpr (.inr (.head _)))) 0 (by omega)
  have b2 : topI w.toNat (pre ++ [x]) ≤ v := by
    have e2 : v = post.foldl (fun a x => a * 2 ^ w.toNat + x) (topI w.toNat (pre ++ [x])) := by
      rw [← t, h]
      simp only [topI, List.foldl_append, List.foldl_cons, List.foldl_nil]
    rw [e2]
    exact topI_nonneg post (fun y hy => hl y (List.mem_append.mpr (.inr (.tail _ hy)))) _ b1
  rw [e1]
  exact ⟨rfl, b1, by omega⟩
section
set_option maxHeartbeats 8000000 in
theorem whole_tell {w : World} {mean : ExcName → Option Value} {mg mb : Str → Option Value} {news : List (Addr × Obj)} {D : Addr} {vs : List Value} {n₀ : Nat} {v wd : Int} {tw : Tok} (hm : (D, listOf vs.toArray n₀) ∈ news) (hI : IntsAre vs (rowI wd.toNat v)) (h1 : 0 ≤ v) (h2 : v < 1048576) (h3 : 2 ≤ wd) (h4 : wd ≤ 9) :
    Tell w mean mg mb 142 2 news [.ref D, .int wd tw] (IntOut v) := by
  unfold Tell
  k_fill
  intro dp un gd cn cs a ccd cl outer A₀ base h₀ L m s Q E B F X N T hk hd hu hret
  have hLen : (rowI wd.toNat v).length ≤ 24 := rowI_len (by omega) v
  w_top off
  k_with_none
  k_with "pyIter ref" => (k_state_given ["w"] (fun w₀ pre val => val = topI w₀.toNat pre ∧ 0 ≤ val ∧ val < 1048576) "value")
  k_with "state" => first | exact whole_start _ | exact whole_turn (by assumption) (by assumption) (by assumption) (by assumption) (by assumption)
  refine wpAny_call ?_
  k_dflt ktr_enter
  k_steps
  all_goals exact ret_int hret (by assumption) (by assumption) (in_cons in_self) (by rw [← top_rowI (w := wd.toNat) (v := v) (by omega) h1 h2]; assumption)
end
/-! _law_times -/
section
set_option maxHeartbeats 8000000 in
theorem times_tell {w : World} {mean : ExcName → Option Value} {mg mb : Str → Option Value} {news : List (Addr × Obj)} {D₁ D₂ : Addr} {vs₁ vs₂ : List Value} {n₁ n₂ : Nat} {x y r wd : Int} {tw : Tok}
    (hm₁ : (D₁, listOf vs₁.toArray n₁) ∈ news) (hI₁ : IntsAre vs₁ (rowI wd.toNat x)) (hm₂ : (D₂, listOf vs₂.toArray n₂) ∈ news) (hI₂ : IntsAre vs₂ (rowI wd.toNat y)) (x1 : 0 ≤ x) (x2 : x < 1048576) (y1 : 0 ≤ y) (y2 : y < 1048576) (hr : x * y = r) (p1 : 0 ≤ r) (p2 : r < 1048576) (h3 : 2 ≤ wd) (h4 : wd ≤ 9) :
    Tell w mean mg mb 154 4 news [.ref D₁, .ref D₂, .int wd tw] (ListOut (rowI wd.toNat r)) := by
  subst hr
  unfold Tell
  k_fill
  intro dp un gd cn cs a ccd cl outer A₀ base h₀ L m s Q E B F X N T hk hd hu hret
  w_top off
  k_with_none
  k_with "own call" => (k_here; k_dflt (first
  | (refine' use_int (whole_tell ?m0 ?m1 ?m2 ?m3 ?m4 ?m5) ?k1 ?k2 ?k3 ?k4 ?k5 ?kK ?kd ?ku ?_; (case k1 => k_asm); (case k2 => k_asm); (case k3 => k_asm); (case k4 => k_asm); (case k5 => k_asm); (case kK => first | exact rfl | assumption); (case m0 => first | assumption | k_mem); (case m1 => assumption); (case m2 => assumption); (case m3 => assumption); (case m4 => assumption); (case m5 => assumption); (case kd => ktr_room); (case ku => ktr_units); k_whole; intro t' h' tk' F' N'; (try k_sweep))
  | (refine' use_list (row_tell ?m2 ?m3 ?m4 ?m5) ?k1 ?k2 ?k3 ?k4 ?k5 ?kK ?kd ?ku ?_; (case k1 => k_asm); (case k2 => k_asm); (case k3 => k_asm); (case k4 => k_asm); (case k5 => k_asm); (case kK => first | exact rfl | assumption); (case m2 => assumption); (case m3 => assumption); (case m4 => assumption); (case m5 => assumption); (case kd => ktr_room); (case ku => ktr_units); k_whole; intro D' vs' n' h' tk' hI' l1 F' N'; (try k_lt l1); (try k_sweep))))
  refine wpAny_call ?_
  k_dflt ktr_enter
  k_steps
  all_goals exact ret_list hret (by assumption) (by assumption) (by assumption) (.head _) (in_cons in_self) (by assumption) rfl
end
/-! _law_parts -/
def PairOut (ns ms : List Int) (tl : List (Addr × Obj)) (r : Value) : Prop :=
  ∃ D₁ vs₁ n₁ D₂ vs₂ n₂ T, tl = [(T, { cls := .type "tuple", data := .seq #[.ref D₁, .ref D₂] }), (D₂, listOf vs₂.toArray n₂), (D₁, listOf vs₁.toArray n₁)] ∧ r = .ref T ∧ IntsAre vs₁ ns ∧ IntsAre vs₂ ms ∧ D₁ < D₂ ∧ D₂ < T
theorem ret_pair {news l : List (Addr × Obj)} {h₀ h' : Heap} {L : Addr} {m : Str → Option Value} {s : Shared} {Q : Value → Shared → Prop} {g : Array GenState} {dr : Drawn} {os : OsState} {tk : Nat} {ns ms : List Int} {D₁ D₂ T : Addr} {vs₁ vs₂ : List Value} {n₁ n₂ : Nat} {X₁ X₂ X₃ : Prop} (R : Ret (PairOut ns ms) news h₀ L m s Q)
    (eg : g = s.gens) (ed : dr = s.drawn) (eo : os = s.os) (F : Fr h₀ L h' m) (N : News h₀ L h' ((T, { cls := .type "tuple", data := .seq #[.ref D₁, .ref D₂] }) :: (D₂, listOf vs₂.toArray n₂) :: (D₁, listOf vs₁.toArray n₁) :: l)) (hs : ∀ p ∈ news, p ∈ l)
    (a₁ : X₁ ∧ AllLt D₁ news) (a₂ : D₁ < D₂ ∧ X₂) (a₃ : D₂ < T ∧ X₃) (I₁ : IntsAre vs₁ ns) (I₂ : IntsAre vs₂ ms) : Q (.ref T) { heap := h', gens := g, drawn := dr, toks := tk, os := os } := by
  subst eg ed eo
  refine R _ _ _ _ ⟨D₁, vs₁, n₁, D₂, vs₂, n₂, T, rfl, rfl, I₁, I₂, a₂.1, a₃.1⟩ ?_ F ?_
  · intro q hq p hp
    have h1 : q.1 < D₁ := kst_ltOf a₁.2 q hq
    have h2 : D₁ < D₂ := a₂.1
    have h3 : D₂ < T := a₃.1
    simp only [List.mem_cons, List.not_mem_nil, or_false] at hp
    rcases hp with rfl | rfl | rfl
    · exact Nat.lt_trans h1 (Nat.lt_trans h2 h3)
    · exact Nat.lt_trans h1 h2
    · exact h1
  · intro p hp
    refine N p ?_
    simp only [List.cons_append, List.nil_append, List.mem_cons] at hp ⊢
    rcases hp with h | h | h | h
    · exact .inl h
    · exact .inr (.inl h)
    · exact .inr (.inr (.inl h))
    · exact .inr (.inr (.inr (hs p h)))
theorem use_pair {w : World} {mean : ExcName → Option Value} {mg mb : Str → Option Value} {f : Addr} {room : Nat} {news : List (Addr × Obj)} {args : List Value} {dp un : Nat} {gd : Option (List Code)} {cn : Str} {cs : Scope} {a : Addr} {ccd : Value} {cl : List (Str × Addr)} {outer : List Env} {A₀ : Around} {base h₀ : Heap} {L : Addr} {m : Str → Option Value} {s : Shared} {Q E : Value → Shared → Prop} {ns ms : List Int} (C : Tell w mean mg mb f room news args (PairOut ns ms)) (B : Below A₀ base outer h₀) (F : Fr h₀ L s.heap m) (X : (Mine.hd.heap_39 w.params).In h₀) (N : News h₀ L s.heap news) (T : Top Mine.hd.view_39 (looseW Mine.hd.view_39 []) mean mg mb h₀) (hk : cs.kind = .function) (hd : dp + room < recursionLimit) (hu : un + 8 * room < cLine)
    (ret : ∀ D₁ vs₁ n₁ D₂ vs₂ n₂ T h' tk', IntsAre vs₁ ns → IntsAre vs₂ ms → (∀ p ∈ news, p.1 < D₁) → (∀ p ∈ (D₁, listOf vs₁.toArray n₁) :: news, p.1 < D₂) → (∀ p ∈ (D₂, listOf vs₂.toArray n₂) :: (D₁, listOf vs₁.toArray n₁) :: news, p.1 < T) → Fr h₀ L h' m → News h₀ L h' ((T, { cls := .type "tuple", data := .seq #[.ref D₁, .ref D₂] }) :: (D₂, listOf vs₂.toArray n₂) :: (D₁, listOf vs₁.toArray n₁) :: news) → Q (.ref T) { s with heap := h', toks := tk' }) :
    wpAny (model PySem.Challenge.rw_nz0078_01.row.prog w) (ktrTop dp un gd cn cs L a ccd cl outer) (call (.ref f) args) Q E s := by
  refine C dp un gd cn cs a ccd cl outer A₀ base h₀ L m s Q E B F X N T hk hd hu ?_
  rintro _ _ h' tk' ⟨D₁, vs₁, n₁, D₂, vs₂, n₂, T, rfl, rfl, I₁, I₂, h2, h3⟩ ho F' N'
  have k1 : ∀ p ∈ news, p.1 < D₁ := fun q hq => ho q hq _ (.tail _ (.tail _ (.head _)))
  have k2 : ∀ p ∈ (D₁, listOf vs₁.toArray n₁) :: news, p.1 < D₂ := List.forall_mem_cons.mpr ⟨h2, fun q hq => Nat.lt_trans (k1 q hq) h2⟩
  have k3 : ∀ p ∈ (D₂, listOf vs₂.toArray n₂) :: (D₁, listOf vs₁.toArray n₁) :: news, p.1 < T := List.forall_mem_cons.mpr ⟨h3, fun q hq => Nat.lt_trans (k2 q hq) h3⟩
  exact ret D₁ vs₁ n₁ D₂ vs₂ n₂ T h' tk' I₁ I₂ k1 k2 k3 F' N'
section
set_option maxHeartbeats 8000000 in
theorem parts_tell {w : World} {mean : ExcName → Option Value} {mg mb : Str → Option Value} {news : List (Addr × Obj)} {D₁ D₂ : Addr} {vs₁ vs₂ : List Value} {n₁ n₂ : Nat} {x y wd : Int} {tw : Tok}
    (hm₁ : (D₁, listOf vs₁.toArray n₁) ∈ news) (hI₁ : IntsAre vs₁ (rowI wd.toNat x)) (hm₂ : (D₂, listOf vs₂.toArray n₂) ∈ news) (hI₂ : IntsAre vs₂ (rowI wd.toNat y)) (x1 : 0 ≤ x) (x2 : x < 1048576) (y1 : 0 < y) (y2 : y < 1048576) (h3 : 2 ≤ wd) (h4 : wd ≤ 9) :
    Tell w mean mg mb 161 4 news [.ref D₁, .ref D₂, .int wd tw] (PairOut (rowI wd.toNat (x.fdiv y)) (rowI wd.toNat (x.fmod y))) := by
  have y0 : 0 ≤ y := by omega
  have q1 : 0 ≤ x.fdiv y := Int.fdiv_nonneg x1 y0
  have q2 : x.fdiv y < 1048576 := by
    rw [Int.fdiv_eq_ediv_of_nonneg x y0]
    have := Int.ediv_le_self y x1
    omega
  have r1 : 0 ≤ x.fmod y := Int.fmod_nonneg_of_pos x y1
  have r2 : x.fmod y < 1048576 := by have := Int.fmod_lt_of_pos x y1; omega
  unfold Tell
  k_fill
  intro dp un gd cn cs a ccd cl outer A₀ base h₀ L m s Q E B F X N T hk hd hu hret
  w_top off
  k_with_none
  k_with "own call" => (k_here; k_dflt (first
  | (refine' use_int (whole_tell ?m0 ?m1 ?m2 ?m3 ?m4 ?m5) ?k1 ?k2 ?k3 ?k4 ?k5 ?kK ?kd ?ku ?_; (case k1 => k_asm); (case k2 => k_asm); (case k3 => k_asm); (case k4 => k_asm); (case k5 => k_asm); (case kK => first | exact rfl | assumption); (case m0 => first | assumption | k_mem); (case m1 => assumption); (case m2 => assumption); (case m3 => assumption); (case m4 => assumption); (case m5 => assumption); (case kd => ktr_room); (case ku => ktr_units); k_whole; intro t' h' tk' F' N'; (try k_sweep))
  | (refine' use_list (row_tell ?m2 ?m3 ?m4 ?m5) ?k1 ?k2 ?k3 ?k4 ?k5 ?kK ?kd ?ku ?_; (case k1 => k_asm); (case k2 => k_asm); (case k3 => k_asm); (case k4 => k_asm); (case k5 => k_asm); (case kK => first | exact rfl | assumption); (case m2 => assumption); (case m3 => assumption); (case m4 => assumption); (case m5 => assumption); (case kd => ktr_room); (case ku => ktr_units); k_whole; intro D' vs' n' h' tk' hI' l1 F' N'; (try k_lt l1); (try k_sweep))))
  refine wpAny_call ?_
  k_dflt ktr_enter
  k_steps
  all_goals exact ret_pair hret rfl rfl rfl (by assumption) (by assumption) (in_cons in_self) (by assumption) (by assumption) (by assumption) (by assumption) (by assumption)
end
/-! _law_power -/
section
set_option maxHeartbeats 8000000 in
theorem power_tell {w : World} {mean : ExcName → Option Value} {mg mb : Str → Option Value} {news : List (Addr × Obj)} {D₁ D₂ D₃ : Addr} {vs₁ vs₂ vs₃ : List Value} {n₁ n₂ n₃ : Nat} {x y z r wd : Int} {tw : Tok}
    (hm₁ : (D₁, listOf vs₁.toArray n₁) ∈ news) (hI₁ : IntsAre vs₁ (rowI wd.toNat x)) (hm₂ : (D₂, listOf vs₂.toArray n₂) ∈ news) (hI₂ : IntsAre vs₂ (rowI wd.toNat y)) (hm₃ : (D₃, listOf vs₃.toArray n₃) ∈ news) (hI₃ : IntsAre vs₃ (rowI wd.toNat z)) (x1 : 0 ≤ x) (x2 : x < 1048576) (y1 : 0 ≤ y) (y2 : y < 1048576) (z1 : 1 < z) (z2 : z < 1048576)
    (hr : pw x y z = r) (p1 : 0 ≤ r) (p2 : r < 1048576) (h3 : 2 ≤ wd) (h4 : wd ≤ 9) :
    Tell w mean mg mb 168 4 news [.ref D₁, .ref D₂, .ref D₃, .int wd tw] (ListOut (rowI wd.toNat r)) := by
  have z0 : 0 ≤ z := by omega
  unfold Tell
  k_fill
  intro dp un gd cn cs a ccd cl outer A₀ base h₀ L m s Q E B F X N T hk hd hu hret
  w_top off
  k_with_none
  k_with "own pow" => (k_here; (refine call_pow3 (by assumption) (by assumption) (by assumption) ?_))
  k_with "own call" => (k_here; k_dflt (first
  | (refine' use_int (whole_tell ?m0 ?m1 ?m2 ?m3 ?m4 ?m5) ?k1 ?k2 ?k3 ?k4 ?k5 ?kK ?kd ?ku ?_; (case k1 => k_asm); (case k2 => k_asm); (case k3 => k_asm); (case k4 => k_asm); (case k5 => k_asm); (case kK => first | exact rfl | assumption); (case m0 => first | assumption | k_mem); (case m1 => assumption); (case m2 => assumption); (case m3 => assumption); (case m4 => assumption); (case m5 => assumption); (case kd => ktr_room); (case ku => ktr_units); k_whole; intro t' h' tk' F' N'; (try k_sweep))
  | (refine' use_list (row_tell ?m2 ?m3 ?m4 ?m5) ?k1 ?k2 ?k3 ?k4 ?k5 ?kK ?kd ?ku ?_; (case k1 => k_asm); (case k2 => k_asm); (case k3 => k_asm); (case k4 => k_asm); (case k5 => k_asm); (case kK => first | exact rfl | assumption); (case m2 => assumption); (case m3 => assumption); (case m4 => assumption); (case m5 => assumption); (case kd => ktr_room); (case ku => ktr_units); k_whole; intro D' vs' n' h' tk' hI' l1 F' N'; (try k_lt l1); (try k_sweep))))
  refine wpAny_call ?_
  k_dflt ktr_enter
  k_steps
  all_goals exact ret_list hret (by assumption) (by assumption) (by assumption) (.head _) (in_cons in_self) (by assumption) rfl
end
/-! normal -/
def normL (ns : List Int) : List Int := (ns.reverse.dropWhile (· == 0)).reverse
theorem normL_zero (l : List Int) : normL (l ++ [0]) = normL l := by simp [normL]
theorem normL_pos (l : List Int) {x : Int} (h : x ≠ 0) : normL (l ++ [x]) = l ++ [x] := by simp [normL, h]
theorem take_back {ns : List Int} {e : Int} (h0 : 0 < e) (h1 : e ≤ (ns.length : Int)) : ns.take e.toNat = ns.take (e - 1).toNat ++ [ns.getD (e - 1).toNat 0] := by
  obtain ⟨k, rfl⟩ : ∃ k : Nat, e = (k : Int) + 1 := ⟨(e - 1).toNat, by omega⟩
  have e1 : ((k : Int) + 1).toNat = k + 1 := by omega
  have e2 : ((k : Int) + 1 - 1).toNat = k := by omega
  have hk : k < ns.length := by omega
  rw [e1, e2, List.take_add_one, List.getD_eq_getElem?_getD, List.getElem?_eq_getElem hk]
  rfl
theorem norm_start {ns : List Int} : 0 ≤ (ns.length : Int) ∧ (ns.length : Int) ≤ (ns.length : Int) ∧ normL (ns.take (ns.length : Int).toNat) = normL ns := ⟨by omega, by omega, by simp⟩
theorem norm_turn {ns : List Int} {e : Int} (h0 : 0 < e) (h1 : e ≤ (ns.length : Int)) (h : normL (ns.take e.toNat) = normL ns) (hz : ns.getD (e - 1).toNat 0 = 0) :
    0 ≤ e - 1 ∧ e - 1 ≤ (ns.length : Int) ∧ normL (ns.take (e - 1).toNat) = normL ns := by
  refine ⟨by omega, by omega, ?_⟩
  rw [← h, take_back h0 h1, hz, normL_zero]
theorem norm_end {ns : List Int} {e : Int} (h0 : 0 < e) (h1 : e ≤ (ns.length : Int)) (h : normL (ns.take e.toNat) = normL ns) (hz : ns.getD (e - 1).toNat 0 ≠ 0) : ns.take e.toNat = normL ns := by
  rw [← h, take_back h0 h1, normL_pos _ hz]
theorem norm_end0 {ns : List Int} {e : Int} (h0 : ¬ 0 < e) (h : normL (ns.take e.toNat) = normL ns) : ns.take e.toNat = normL ns := by
  have : e.toNat = 0 := by omega
  rw [← h, this]
  rfl
set_option maxHeartbeats 8000000 in
theorem normal_tell {w : World} {mean : ExcName → Option Value} {mg mb : Str → Option Value} {news : List (Addr × Obj)} {D : Addr} {vs : List Value} {n₀ : Nat} {ns : List Int} (hm : (D, listOf vs.toArray n₀) ∈ news) (hI : IntsAre vs ns) (hLen : ns.length ≤ 64) :
    Tell w mean mg mb 46 2 news [.ref D] (ListOut (normL ns)) := by
  unfold Tell
  k_fill
  intro dp un gd cn cs a ccd cl outer A₀ base h₀ L m s Q E B F X N T hk hd hu hret
  w_top off
  k_with_none
  k_with "own while" => (k_while_given ["a"] (fun a₀ script e => 0 ≤ e ∧ e ≤ (a₀.length : Int) ∧ normL (a₀.take e.toNat) = normL a₀) (fun a₀ script e => e.toNat) "end")
  replace N := news_dup N hm
  k_with "state" => first | exact norm_start | exact norm_turn (by assumption) (by assumption) (by assumption) (by assumption)
  refine wpAny_call ?_
  k_dflt ktr_enter
  k_steps
  · exact ret_listA hret (by assumption) (by assumption) (by assumption) (.head _) (in_cons (in_cons in_self)) (by assumption) (norm_end (by assumption) (by assumption) (by assumption) (by assumption))
  · exact ret_listA hret (by assumption) (by assumption) (by assumption) (.head _) (in_cons (in_cons in_self)) (by assumption) (norm_end0 (by assumption) (by assumption))
/-! sub, of one -/
def nOk (n : Int) : Prop := ∃ k : Fin 14, n = 9 + 2 * (k.val : Int)
def wOk (w : Int) : Prop := ∃ k : Fin 8, w = 2 + (k.val : Int)
theorem nOk_of {n : Int} {k : Int} (h : n = 9 + 2 * k) (h0 : 0 ≤ k) (h1 : k < 14) : nOk n := ⟨⟨k.toNat, by omega⟩, by show n = 9 + 2 * (k.toNat : Int); omega⟩
theorem wOk_of {w : Int} (h0 : 2 ≤ w) (h1 : w ≤ 9) : wOk w := ⟨⟨(w - 2).toNat, by omega⟩, by show w = 2 + ((w - 2).toNat : Int); omega⟩
def subRow : List Int → List Int
  | [] => []
  | x :: r => (x - 1) :: r
/-- what a row of n (odd, 9 to 35) looks like -/
def shapeOk (w n : Int) : List Int → Bool
  | [x] => decide (9 ≤ x ∧ x < 2 ^ w.toNat ∧ x = n) && decide (rowI w.toNat (n - 1) = [x - 1])
  | [x, y] => decide (1 ≤ x ∧ x < 2 ^ w.toNat ∧ 1 ≤ y ∧ y < 2 ^ w.toNat) && decide (rowI w.toNat (n - 1) = [x - 1, y])
  | [x, y, z] => decide (1 ≤ x ∧ x < 2 ^ w.toNat ∧ 0 ≤ y ∧ y < 2 ^ w.toNat ∧ 1 ≤ z ∧ z < 2 ^ w.toNat) && decide (rowI w.toNat (n - 1) = [x - 1, y, z])
  | _ => false
theorem shape_all : ∀ (j : Fin 8) (k : Fin 14), shapeOk (2 + (j.val : Int)) (9 + 2 * (k.val : Int)) (rowI (2 + (j.val : Int)).toNat (9 + 2 * (k.val : Int))) = true := by
  decide +kernel
theorem sub_end {ns ms : List Int} (h : ns = ms) (hz : ms.getLast? ≠ some 0) : normL ns = ms := by
  subst h
  rcases List.eq_nil_or_concat ns with rfl | ⟨r, x, rfl⟩
  · rfl
  · have : x ≠ 0 := by simpa using hz
    rw [List.concat_eq_append] at *
    exact normL_pos r this
set_option maxHeartbeats 8000000 in
theorem compare_tell1 {w : World} {mean : ExcName → Option Value} {mg mb : Str → Option Value} {news : List (Addr × Obj)} {D₁ D₂ : Addr} {n₁ n₂ : Nat} {x : Int} {tx t1 : Tok}
    (hm₁ : (D₁, listOf [Value.int x tx].toArray n₁) ∈ news) (hm₂ : (D₂, listOf [Value.int 1 t1].toArray n₂) ∈ news) (x1 : 9 ≤ x) (x2 : x < 512) :
    Tell w mean mg mb 53 2 news [.ref D₁, .ref D₂] (IntOut 1) := by
  unfold Tell
  k_fill
  intro dp un gd cn cs a ccd cl outer A₀ base h₀ L m s Q E B F X N T hk hd hu hret
  w_top off
  k_with_none
  replace N := news_dup (news_dup N hm₁) (.tail _ hm₂)
  refine wpAny_call ?_
  k_dflt ktr_enter
  k_steps
  all_goals first
    | exact ret_int hret (by assumption) (by assumption) (by repeat (first | exact in_self | refine in_cons ?_)) rfl
    | exact absurd (show x < 1 by assumption) (by omega)
    | exact absurd (show x = 1 by assumption) (by omega)
    | (exfalso; omega)
set_option maxHeartbeats 8000000 in
theorem compare_tellN {w : World} {mean : ExcName → Option Value} {mg mb : Str → Option Value} {news : List (Addr × Obj)} {D₁ D₂ : Addr} {n₁ n₂ : Nat} {vs : List Value} {ns : List Int} {t1 : Tok}
    (hm₁ : (D₁, listOf vs.toArray n₁) ∈ news) (hI : IntsAre vs ns) (hm₂ : (D₂, listOf [Value.int 1 t1].toArray n₂) ∈ news) (x1 : 2 ≤ ns.length) (x2 : ns.length < 64) :
    Tell w mean mg mb 53 2 news [.ref D₁, .ref D₂] (IntOut 1) := by
  unfold Tell
  k_fill
  intro dp un gd cn cs a ccd cl outer A₀ base h₀ L m s Q E B F X N T hk hd hu hret
  w_top off
  k_with_none
  replace N := news_dup (news_dup N hm₁) (.tail _ hm₂)
  refine wpAny_call ?_
  k_dflt ktr_enter
  k_steps
  all_goals first
    | exact ret_int hret (by assumption) (by assumption) (by repeat (first | exact in_self | refine in_cons ?_)) rfl
    | (exfalso; omega)
theorem compare_tell {w : World} {mean : ExcName → Option Value} {mg mb : Str → Option Value} {news : List (Addr × Obj)} {D₁ D₂ : Addr} {n₁ n₂ : Nat} {vs : List Value} {ns : List Int} {t1 : Tok}
    (hm₁ : (D₁, listOf vs.toArray n₁) ∈ news) (hI : IntsAre vs ns) (hm₂ : (D₂, listOf [Value.int 1 t1].toArray n₂) ∈ news) (x1 : 2 ≤ ns.length ∨ ∃ x, ns = [x] ∧ 9 ≤ x ∧ x < 512) (x2 : ns.length < 64) :
    Tell w mean mg mb 53 2 news [.ref D₁, .ref D₂] (IntOut 1) := by
  rcases x1 with h | ⟨x, rfl, h1, h2⟩
  · exact compare_tellN hm₁ hI hm₂ h x2
  · rcases hI with _ | ⟨_, tx, hI⟩
    rcases hI
    exact compare_tell1 hm₁ hm₂ h1 h2
theorem subRow_snoc {l : List Int} (h : l ≠ []) (x : Int) : subRow (l ++ [x]) = subRow l ++ [x] := by
  cases l with
  | nil => exact absurd rfl h
  | cons y r => rfl
theorem take_snoc {ns : List Int} {k : Nat} (h : k < ns.length) : ns.take (k + 1) = ns.take k ++ [ns.getD k 0] := by
  rw [List.take_add_one, List.getD_eq_getElem?_getD, List.getElem?_eq_getElem h]
  rfl
theorem sub_start {ns : List Int} : (0 : Int) = 0 ∧ ([] : List Int) = subRow (ns.take ([] : List Int).length) ∧ ([] : List Int).length = ([] : List Int).length := ⟨rfl, by simp [subRow], rfl⟩
theorem sub_step {ns fs pre : List Int} {k b d : Int} (hk : k = 0 + (pre.length : Int)) (hlt : pre.length < ((ns.length : Int) - 0).toNat) (hb : b = 0) (hf : fs = subRow (ns.take pre.length)) (hl : fs.length = pre.length) (hd : d = if k < 1 then 1 else 0) :
    (0 : Int) = 0 ∧ fs ++ [ns.getD k.toNat 0 - b - d] = subRow (ns.take (pre ++ [k]).length) ∧ (fs ++ [ns.getD k.toNat 0 - b - d]).length = (pre ++ [k]).length := by
  have ek : k.toNat = pre.length := by omega
  have hn : pre.length < ns.length := by omega
  refine ⟨rfl, ?_, by simp [hl]⟩
  rw [List.length_append, List.length_cons, List.length_nil, take_snoc hn, ek, hb]
  by_cases h0 : pre.length = 0
  · have : d = 1 := by rw [hd, if_pos (by omega)]
    rw [hf, h0, this]
    simp [subRow]
  · have : d = 0 := by rw [hd, if_neg (by omega)]
    have hne : ns.take pre.length ≠ [] := by
      intro h
      have := congrArg List.length h
      rw [List.length_take, List.length_nil] at this
      omega
    rw [hf, this, subRow_snoc hne]
    simp
theorem sub_turnA {ns fs pre : List Int} {k b : Int} (h : k < 1) (hk : k = 0 + (pre.length : Int)) (hlt : pre.length < ((ns.length : Int) - 0).toNat) (hb : b = 0) (hf : fs = subRow (ns.take pre.length)) (hl : fs.length = pre.length) :
    (0 : Int) = 0 ∧ fs ++ [ns.getD k.toNat 0 - b - [1].getD k.toNat 0] = subRow (ns.take (pre ++ [k]).length) ∧ (fs ++ [ns.getD k.toNat 0 - b - [1].getD k.toNat 0]).length = (pre ++ [k]).length :=
  sub_step hk hlt hb hf hl (by
    have : k = 0 := by omega
    subst this
    rfl)
theorem sub_turnB {ns fs pre : List Int} {k b : Int} (h : ¬ k < 1) (hk : k = 0 + (pre.length : Int)) (hlt : pre.length < ((ns.length : Int) - 0).toNat) (hb : b = 0) (hf : fs = subRow (ns.take pre.length)) (hl : fs.length = pre.length) :
    (0 : Int) = 0 ∧ fs ++ [ns.getD k.toNat 0 - b - 0] = subRow (ns.take (pre ++ [k]).length) ∧ (fs ++ [ns.getD k.toNat 0 - b - 0]).length = (pre ++ [k]).length :=
  sub_step hk hlt hb hf hl (by rw [if_neg h])
theorem sub_badA {ns : List Int} {k b : Int} {l : Nat} {P : Prop} (h : ns.getD k.toNat 0 - b - [1].getD k.toNat 0 < 0) (h1 : k < 1) (hk : k = 0 + (l : Int)) (hb : b = 0) (x3 : 1 ≤ ns.getD 0 0) : P := by
  have : k = 0 := by omega
  subst this hb
  exact absurd h (by show ¬ (ns.getD 0 0 - 0 - 1 < 0); omega)
theorem sub_badB {ns : List Int} {k b : Int} {P : Prop} (h : ns.getD k.toNat 0 - b - 0 < 0) (hb : b = 0) (x4 : ∀ k, 0 ≤ ns.getD k 0) : P := by
  have := x4 k.toNat
  omega
theorem sub_last {ns fs : List Int} {n : Nat} (h : fs = subRow (ns.take (rangeKs 0 ((ns.length : Int) - 0).toNat).length)) : normL fs = normL (subRow ns) := by
  rw [h, rangeKs_length, List.take_of_length_le (by omega)]
theorem ltOf4 {D : Addr} {news : List (Addr × Obj)} {P₁ P₂ P₃ P₄ : Prop} (h : P₁ ∧ P₂ ∧ P₃ ∧ P₄ ∧ AllLt D news) : ∀ p ∈ news, p.1 < D := kst_ltOf h.2.2.2.2
set_option maxHeartbeats 8000000 in
theorem sub_tell {w : World} {mean : ExcName → Option Value} {mg mb : Str → Option Value} {news : List (Addr × Obj)} {D₁ D₂ : Addr} {n₁ n₂ : Nat} {vs : List Value} {ns : List Int} {wd : Int} {t1 tw : Tok}
    (hm₁ : (D₁, listOf vs.toArray n₁) ∈ news) (hI : IntsAre vs ns) (hm₂ : (D₂, listOf [Value.int 1 t1].toArray n₂) ∈ news) (x1 : 2 ≤ ns.length ∨ ∃ x, ns = [x] ∧ 9 ≤ x ∧ x < 512) (x2 : ns.length < 64) (x3 : 1 ≤ ns.getD 0 0) (x4 : ∀ k, 0 ≤ ns.getD k 0) (x5 : ∀ k, ns.getD k 0 < 512) (h3 : 2 ≤ wd) (h4 : wd ≤ 9) :
    Tell w mean mg mb 60 4 news [.ref D₁, .ref D₂, .int wd tw] (ListOut (normL (subRow ns))) := by
  unfold Tell
  k_fill
  intro dp un gd cn cs a ccd cl outer A₀ base h₀ L m s Q E B F X N T hk hd hu hret
  w_top off
  k_with_none
  replace N := news_dup (news_dup N hm₁) (.tail _ hm₂)
  k_with "state" => first | exact sub_start | exact sub_turnA (by assumption) (by assumption) (by assumption) (by assumption) (by assumption) (by assumption) | exact sub_turnB (by assumption) (by assumption) (by assumption) (by assumption) (by assumption) (by assumption) | exact sub_badA (by assumption) (by assumption) (by assumption) (by assumption) (by assumption) | exact sub_badB (by assumption) (by assumption) (by assumption)
  k_with "own iter" => (k_state_given ["a"] (fun a₀ pre bor fs => bor = 0 ∧ fs = subRow (a₀.take pre.length) ∧ fs.length = pre.length) "borrow" "found")
  k_with "own call" => (k_here; k_dflt (refine' use_list (normal_tell ?m0 ?m1 ?m2) ?k1 ?k2 ?k3 ?k4 ?k5 ?kK ?kd ?ku ?_; (case k1 => k_asm); (case k2 => k_asm); (case k3 => k_asm); (case k4 => k_asm); (case k5 => k_asm); (case kK => first | exact rfl | assumption); (case m0 => first | assumption | k_mem); (case m1 => first | assumption | ((repeat constructor); done)); (case m2 => simp only [rangeKs_length] at *; omega); (case kd => ktr_room); (case ku => ktr_units); k_whole; intro D' vs' n' h' tk' hI' l1 F' N'; (try k_lt l1); (try k_sweep)))
  k_with "own call" => (k_here; k_dflt (refine' use_int (compare_tell ?m0 ?m1 ?m2 ?m3 ?m4) ?k1 ?k2 ?k3 ?k4 ?k5 ?kK ?kd ?ku ?_; (case k1 => k_asm); (case k2 => k_asm); (case k3 => k_asm); (case k4 => k_asm); (case k5 => k_asm); (case kK => first | exact rfl | assumption); (case m0 => first | assumption | k_mem); (case m1 => assumption); (case m2 => first | assumption | k_mem); (case m3 => assumption); (case m4 => assumption); (case kd => ktr_room); (case ku => ktr_units); k_whole; intro t' h' tk' F' N'; (try k_sweep)))
  refine wpAny_call ?_
  k_dflt ktr_enter
  k_steps
  all_goals exact ret_list hret (ltOf4 (by assumption)) (by assumption) (by assumption) (.head _) (by repeat (first | exact in_self | refine in_cons ?_)) (by assumption) (sub_last (n := 0) (by assumption))
/-- the row of n less one -/
theorem shape_of {w n : Int} (hw : wOk w) (hn : nOk n) : shapeOk w n (rowI w.toNat n) = true := by
  obtain ⟨j, rfl⟩ := hw
  obtain ⟨k, rfl⟩ := hn
  exact shape_all j k
theorem subn_all : ∀ (j : Fin 8) (k : Fin 14), normL (subRow (rowI (2 + (j.val : Int)).toNat (9 + 2 * (k.val : Int)))) = rowI (2 + (j.val : Int)).toNat (9 + 2 * (k.val : Int) - 1) := by
  decide +kernel
theorem subn_of {w n : Int} (hw : wOk w) (hn : nOk n) : normL (subRow (rowI w.toNat n)) = rowI w.toNat (n - 1) := by
  obtain ⟨j, rfl⟩ := hw
  obtain ⟨k, rfl⟩ := hn
  exact subn_all j k
def rowFacts (ns : List Int) : Bool := (decide (2 ≤ ns.length) || (decide (ns.length = 1) && decide (9 ≤ ns.getD 0 0))) && decide (ns.length < 64) && decide (1 ≤ ns.getD 0 0) && ns.all fun x => decide (0 ≤ x ∧ x < 512)
theorem facts_all : ∀ (j : Fin 8) (k : Fin 14), rowFacts (rowI (2 + (j.val : Int)).toNat (9 + 2 * (k.val : Int))) = true := by
  decide +kernel
theorem facts_of {w n : Int} (hw : wOk w) (hn : nOk n) : rowFacts (rowI w.toNat n) = true := by
  obtain ⟨j, rfl⟩ := hw
  obtain ⟨k, rfl⟩ := hn
  exact facts_all j k
theorem getD_all {ns : List Int} (h : ∀ x ∈ ns, 0 ≤ x ∧ x < 512) (k : Nat) : 0 ≤ ns.getD k 0 ∧ ns.getD k 0 < 512 := by
  by_cases hk : k < ns.length
  · have e : ns.getD k 0 = ns[k] := by simp [List.getD, hk]
    rw [e]
    exact h _ (List.getElem_mem hk)
  · have e : ns.getD k 0 = 0 := by simp [List.getD, Nat.not_lt.mp hk]
    rw [e]
    omega
theorem subn_tell {w : World} {mean : ExcName → Option Value} {mg mb : Str → Option Value} {news : List (Addr × Obj)} {D₁ D₂ : Addr} {n₁ n₂ : Nat} {vs : List Value} {n wd : Int} {t1 tw : Tok}
    (hm₁ : (D₁, listOf vs.toArray n₁) ∈ news) (hI : IntsAre vs (rowI wd.toNat n)) (hm₂ : (D₂, listOf [Value.int 1 t1].toArray n₂) ∈ news) (hw : wOk wd) (hn : nOk n) :
    Tell w mean mg mb 60 4 news [.ref D₁, .ref D₂, .int wd tw] (ListOut (rowI wd.toNat (n - 1))) := by
  have hf := facts_of hw hn
  have hwd : 2 ≤ wd ∧ wd ≤ 9 := by obtain ⟨j, rfl⟩ := hw; have := j.isLt; omega
  simp only [rowFacts, Bool.and_eq_true, Bool.or_eq_true, decide_eq_true_eq, List.all_eq_true] at hf
  obtain ⟨⟨⟨f1, f2⟩, f3⟩, f4⟩ := hf
  rw [← subn_of hw hn]
  refine sub_tell hm₁ hI hm₂ ?_ f2 f3 (fun k => (getD_all f4 k).1) (fun k => (getD_all f4 k).2) hwd.1 hwd.2
  rcases f1 with f1 | ⟨f1, f5⟩
  · exact .inl f1
  · refine .inr ⟨(rowI wd.toNat n).getD 0 0, ?_, f5, (getD_all f4 0).2⟩
    match rowI wd.toNat n, f1 with
    | [x], _ => rfl
/-! trailing -/
theorem islist_of {h : Heap} {D : Addr} {vs : List Value} {n : Nat} (e : h.get? D = some (listOf vs.toArray n)) : h.IsList D vs.toArray := ⟨_, e, rfl, n, rfl⟩
/-- where the first limb above nought stands, and its lowest bit -/
def trI (w : Int) (ns : List Int) : Option Int := (ns.zipIdx.find? fun p => decide (0 < p.1)).map fun p => (p.2 : Int) * w + (Builtin.Int.intBits (Builtin.bitAnd p.1 (-p.1)) : Int) - 1
theorem trI_found {w a t : Int} {ns : List Int} {i : Nat} (h : trI w ns = some t) (e : ns.zipIdx.find? (fun p => decide (0 < p.1)) = some (a, i)) : (i : Int) * w + (Builtin.Int.intBits (Builtin.bitAnd a (-a)) : Int) - 1 = t := by
  simp only [trI, e, Option.map_some, Option.some.injEq] at h
  exact h
theorem trI_none {w t : Int} {ns : List Int} {P : Prop} (h : trI w ns = some t) (e : ∀ p ∈ ns.zipIdx, decide (0 < p.1) = false) : P := by
  have : ns.zipIdx.find? (fun p => decide (0 < p.1)) = none := List.find?_eq_none.mpr fun p hp => by rw [e p hp]; exact Bool.false_ne_true
  simp only [trI, this, Option.map_none] at h
  cases h
set_option maxHeartbeats 8000000 in
theorem trail_tell {w : World} {mean : ExcName → Option Value} {mg mb : Str → Option Value} {news : List (Addr × Obj)} {D₁ : Addr} {n₁ : Nat} {vs : List Value} {ns : List Int} {t wd : Int} {tw : Tok}
    (hm₁ : (D₁, listOf vs.toArray n₁) ∈ news) (hI : IntsAre vs ns) (x2 : ns.length < 64) (ht : trI wd ns = some t) (h3 : 2 ≤ wd) (h4 : wd ≤ 9) :
    Tell w mean mg mb 74 2 news [.ref D₁, .int wd tw] (IntOut t) := by
  unfold Tell
  k_fill
  intro dp un gd cn cs a ccd cl outer A₀ base h₀ L m s Q E B F X N T hk hd hu hret
  w_top off
  k_with_none
  refine wpAny_call ?_
  k_dflt (refine' code_base ?k1 ?k2 ?k3 ?k4 ?k5 ?kA ?kF ?kK ?k6 ?k7 ?k8 ?k9 ?kB ?_ ?c2 ?c3 ?c4 ?c5; (case kA => exact rfl); (case kF => exact rfl); (case kK => assumption); (case k1 => k_asm); (case k2 => k_asm); (case k3 => k_asm); (case k4 => k_asm); (case k5 => k_asm); (case k6 => k_is); (case k7 => k_is); (case k8 => ktr_room); (case k9 => exact BindsTo.of_eq rfl); (case c5 => decide); (case kB => exact locs rfl); (case c2 => exact rfl); (case c3 => exact rfl); (case c4 => exact rfl); k_whole; intro g' L' h' FG' F' N' hAll' B' X' T'; (try dsimp only); (try k_fold))
  have hL' := islist_of (hAll' _ hm₁)
  k_steps
  · exact ret_int (l := news) hret (by assumption) (by assumption) in_self (trI_found ht (by assumption))
  · exact trI_none ht (by assumption)
/-- how often n less one is even -/
def dbl (n : Int) : Int := if (n - 1) % 32 = 0 then 5 else if (n - 1) % 16 = 0 then 4 else if (n - 1) % 8 = 0 then 3 else if (n - 1) % 4 = 0 then 2 else 1
theorem trn_all : ∀ (j : Fin 8) (k : Fin 14), trI (2 + (j.val : Int)) (rowI (2 + (j.val : Int)).toNat (9 + 2 * (k.val : Int) - 1)) = some (dbl (9 + 2 * (k.val : Int))) := by
  decide +kernel
theorem trailn_tell {w : World} {mean : ExcName → Option Value} {mg mb : Str → Option Value} {news : List (Addr × Obj)} {D₁ : Addr} {n₁ : Nat} {vs : List Value} {n wd : Int} {tw : Tok}
    (hm₁ : (D₁, listOf vs.toArray n₁) ∈ news) (hI : IntsAre vs (rowI wd.toNat (n - 1))) (hw : wOk wd) (hn : nOk n) :
    Tell w mean mg mb 74 2 news [.ref D₁, .int wd tw] (IntOut (dbl n)) := by
  have hwd : 2 ≤ wd ∧ wd ≤ 9 := by obtain ⟨j, rfl⟩ := hw; have := j.isLt; omega
  have hl := rowI_len (w := wd.toNat) (by omega) (n - 1)
  refine trail_tell hm₁ hI (by omega) ?_ hwd.1 hwd.2
  obtain ⟨j, rfl⟩ := hw
  obtain ⟨k, rfl⟩ := hn
  exact trn_all j k
/-! shift_right -/
def shv (ns : List Int) (w few t : Int) : Int := Builtin.bitAnd (Builtin.bitOr ((ns.getD t.toNat 0).fdiv (2 ^ few.toNat)) ((if t + 1 < (ns.length : Int) then ns.getD (t + 1).toNat 0 else 0) * 2 ^ (w - few).toNat)) (1 * 2 ^ w.toNat - 1)
theorem sh_start {ns : List Int} {w few : Int} : ([] : List Int) = ([] : List Int).map (shv ns w few) ∧ ([] : List Int).length = ([] : List Int).length := ⟨rfl, rfl⟩
theorem sh_turnA {ns fs pre : List Int} {w few t : Int} (h : t + 1 < (ns.length : Int)) (hf : fs = pre.map (shv ns w few)) (hl : fs.length = pre.length) :
    fs ++ [Builtin.bitAnd (Builtin.bitOr ((ns.getD t.toNat 0).fdiv (2 ^ few.toNat)) (ns.getD (t + 1).toNat 0 * 2 ^ (w - few).toNat)) (1 * 2 ^ w.toNat - 1)] = (pre ++ [t]).map (shv ns w few) ∧
    (fs ++ [Builtin.bitAnd (Builtin.bitOr ((ns.getD t.toNat 0).fdiv (2 ^ few.toNat)) (ns.getD (t + 1).toNat 0 * 2 ^ (w - few).toNat)) (1 * 2 ^ w.toNat - 1)]).length = (pre ++ [t]).length := by
  refine ⟨?_, by simp [hl]⟩
  rw [List.map_append, ← hf]
  simp only [List.map_cons, List.map_nil, shv, if_pos h]
theorem sh_turnB {ns fs pre : List Int} {w few t : Int} (h : ¬ t + 1 < (ns.length : Int)) (hf : fs = pre.map (shv ns w few)) (hl : fs.length = pre.length) :
    fs ++ [Builtin.bitAnd (Builtin.bitOr ((ns.getD t.toNat 0).fdiv (2 ^ few.toNat)) (0 * 2 ^ (w - few).toNat)) (1 * 2 ^ w.toNat - 1)] = (pre ++ [t]).map (shv ns w few) ∧
    (fs ++ [Builtin.bitAnd (Builtin.bitOr ((ns.getD t.toNat 0).fdiv (2 ^ few.toNat)) (0 * 2 ^ (w - few).toNat)) (1 * 2 ^ w.toNat - 1)]).length = (pre ++ [t]).length := by
  refine ⟨?_, by simp [hl]⟩
  rw [List.map_append, ← hf]
  simp only [List.map_cons, List.map_nil, shv, if_neg h]
/-- the limbs of a row moved down by k bits -/
def shL (ns : List Int) (w k : Int) : List Int := normL ((rangeKs (k.fdiv w) ((ns.length : Int) - k.fdiv w).toNat).map (shv ns w (k.fmod w)))
theorem sh_end {ns fs ms : List Int} {w k : Int} (h : fs = (rangeKs (k.fdiv w) ((ns.length : Int) - k.fdiv w).toNat).map (shv ns w (k.fmod w))) (hr : shL ns w k = ms) : normL fs = ms := by
  rw [h]
  exact hr
theorem shl_room {ns : List Int} {i : Nat} {n : Int} (x4 : ∀ k, 0 ≤ ns.getD k 0) (x5 : ∀ k, ns.getD k 0 < 512) (hn : n ≤ 100) : (Builtin.Int.intBits (ns.getD i 0) : Int) + n ≤ 2 ^ 27 := by
  have h1 := x4 i
  have h2 := x5 i
  have : Builtin.Int.intBits (ns.getD i 0) ≤ 9 := intBits_le_iff.mpr (by omega)
  omega
set_option maxHeartbeats 1000000 in
theorem shift_tell {w : World} {mean : ExcName → Option Value} {mg mb : Str → Option Value} {news : List (Addr × Obj)} {D₁ : Addr} {n₁ : Nat} {vs : List Value} {ns ms : List Int} {k wd : Int} {tk tw : Tok}
    (hm₁ : (D₁, listOf vs.toArray n₁) ∈ news) (hI : IntsAre vs ns) (x4 : ∀ k, 0 ≤ ns.getD k 0) (x5 : ∀ k, ns.getD k 0 < 512) (x2 : ns.length < 64) (k0 : 0 ≤ k) (k1 : k ≤ 5) (hr : shL ns wd k = ms) (h3 : 2 ≤ wd) (h4 : wd ≤ 9) :
    Tell w mean mg mb 67 4 news [.ref D₁, .int k tk, .int wd tw] (ListOut ms) := by
  have q0 : 0 ≤ k.fdiv wd := Int.fdiv_nonneg k0 (by omega)
  have q1 : k.fdiv wd ≤ 100000 := by
    rw [Int.fdiv_eq_ediv_of_nonneg k (by omega)]
    have := Int.ediv_le_self wd k0
    omega
  have r0 : 0 ≤ k.fmod wd := Int.fmod_nonneg_of_pos k (by omega)
  have r1 : k.fmod wd < wd := Int.fmod_lt_of_pos k (by omega)
  unfold Tell
  k_fill
  intro dp un gd cn cs a ccd cl outer A₀ base h₀ L m s Q E B F X N T hk hd hu hret
  w_top off
  k_with_none
  k_with "own lsh" => (k_here; (with_reducible show wpAny _ _ (binaryOp _ (Value.int (List.getD _ _ _) _) _) _ _ _); (refine lshift_int (by omega) (shl_room (by assumption) (by assumption) (by omega)) ?_))
  replace N := news_dup N hm₁
  k_with "own iter" => (k_state_given ["a", "w", "few"] (fun a₀ w₀ few₀ pre fs => fs = pre.map (shv a₀ w₀ few₀) ∧ fs.length = pre.length) "found")
  k_with "state" => first | (with_reducible exact sh_turnA (by assumption) (by assumption) (by assumption)) | (with_reducible exact sh_turnB (by assumption) (by assumption) (by assumption)) | exact sh_start
  k_with "own call" => (k_here; k_dflt (refine' use_list (normal_tell ?m0 ?m1 ?m2) ?k1 ?k2 ?k3 ?k4 ?k5 ?kK ?kd ?ku ?_; (case k1 => k_asm); (case k2 => k_asm); (case k3 => k_asm); (case k4 => k_asm); (case k5 => k_asm); (case kK => first | exact rfl | assumption); (case m0 => first | assumption | k_mem); (case m1 => assumption); (case m2 => simp only [rangeKs_length] at *; omega); (case kd => ktr_room); (case ku => ktr_units); k_whole; intro D' vs' n' h' tk' hI' l1 F' N'; (try k_lt l1); (try k_sweep)))
  refine wpAny_call ?_
  k_dflt ktr_enter
  k_steps
  all_goals exact ret_list hret (ltOf4 (by assumption)) (by assumption) (by assumption) (.head _) (by repeat (first | exact in_self | refine in_cons ?_)) (by assumption) (sh_end (by assumption) hr)
theorem shn_all : ∀ (j : Fin 8) (k : Fin 14), shL (rowI (2 + (j.val : Int)).toNat (9 + 2 * (k.val : Int) - 1)) (2 + (j.val : Int)) (dbl (9 + 2 * (k.val : Int))) = rowI (2 + (j.val : Int)).toNat ((9 + 2 * (k.val : Int) - 1) / 2 ^ (dbl (9 + 2 * (k.val : Int))).toNat) := by
  decide +kernel
theorem dbl_in (n : Int) : 1 ≤ dbl n ∧ dbl n ≤ 5 := by
  unfold dbl
  repeat' split
  all_goals omega
/-- the odd part of n less one -/
def oddOf (n : Int) : Int := (n - 1) / 2 ^ (dbl n).toNat
theorem factsm_all : ∀ (j : Fin 8) (k : Fin 14), ((rowI (2 + (j.val : Int)).toNat (9 + 2 * (k.val : Int) - 1)).all fun x => decide (0 ≤ x ∧ x < 512)) = true := by
  decide +kernel
theorem shiftn_tell {w : World} {mean : ExcName → Option Value} {mg mb : Str → Option Value} {news : List (Addr × Obj)} {D₁ : Addr} {n₁ : Nat} {vs : List Value} {n wd : Int} {tk tw : Tok}
    (hm₁ : (D₁, listOf vs.toArray n₁) ∈ news) (hI : IntsAre vs (rowI wd.toNat (n - 1))) (hw : wOk wd) (hn : nOk n) :
    Tell w mean mg mb 67 4 news [.ref D₁, .int (dbl n) tk, .int wd tw] (ListOut (rowI wd.toNat (oddOf n))) := by
  have hwd : 2 ≤ wd ∧ wd ≤ 9 := by obtain ⟨j, rfl⟩ := hw; have := j.isLt; omega
  have hl := rowI_len (w := wd.toNat) (by omega) (n - 1)
  have hd := dbl_in n
  have hf : ((rowI wd.toNat (n - 1)).all fun x => decide (0 ≤ x ∧ x < 512)) = true := by
    obtain ⟨j, rfl⟩ := hw
    obtain ⟨k, rfl⟩ := hn
    exact factsm_all j k
  simp only [List.all_eq_true, decide_eq_true_eq] at hf
  refine shift_tell hm₁ hI (fun k => (getD_all hf k).1) (fun k => (getD_all hf k).2) (by omega) (by omega) hd.2 ?_ hwd.1 hwd.2
  obtain ⟨j, rfl⟩ := hw
  obtain ⟨k, rfl⟩ := hn
  exact shn_all j k
/-! _law_hides -/
def hidesF : Nat → Int → Int → Int → Bool
  | 0, _, _, _ => false
  | f + 1, n, a, e => if e.fmod 2 = 0 then (if pw a e n ≠ 1 then decide (pw a e n = n - 1) else hidesF f n a (e.fdiv 2)) else (decide (pw a e n = 1) || decide (pw a e n = n - 1))
theorem hidesF_fuel {n a : Int} : ∀ (f g : Nat) (e : Int), 0 < e → e < 2 ^ f → e < 2 ^ g → hidesF f n a e = hidesF g n a e
  | 0, _, e, h0, h, _ => by simp at h; omega
  | _ + 1, 0, e, h0, _, h => by simp at h; omega
  | f + 1, g + 1, e, h0, h1, h2 => by
    simp only [hidesF]
    split
    · rename_i he
      split
      · rfl
      · have hd : e.fdiv 2 = e / 2 := Int.fdiv_eq_ediv_of_nonneg e (by omega)
        have hm : e.fmod 2 = e % 2 := Int.fmod_eq_emod_of_nonneg e (by omega)
        refine hidesF_fuel f g _ ?_ ?_ ?_
        · omega
        · rw [Int.pow_succ] at h1; omega
        · rw [Int.pow_succ] at h2; omega
    · rfl
@[irreducible] def hidesI (n a : Int) (e : Int) : Bool := hidesF 12 n a e
theorem hides_start {n a : Int} (h0 : 1 < n) (h1 : n < 1024) : 0 < n - 1 ∧ n - 1 < 1024 ∧ hidesI n a (n - 1) = hidesI n a (n - 1) := ⟨by omega, by omega, rfl⟩
theorem half_in {e : Int} (h0 : 0 < e) (he : e.fmod 2 = 0) : 0 < e.fdiv 2 ∧ 2 * e.fdiv 2 = e := by
  have hd : e.fdiv 2 = e / 2 := Int.fdiv_eq_ediv_of_nonneg e (by omega)
  have hm : e.fmod 2 = e % 2 := Int.fmod_eq_emod_of_nonneg e (by omega)
  omega
theorem hides_turn {n a e e₀ : Int} (he : e.fmod 2 = 0) (hp : pw a e n = 1) (hi : hidesI n a e = hidesI n a e₀) (h0 : 0 < e) (h1 : e < 1024) :
    0 < e.fdiv 2 ∧ e.fdiv 2 < 1024 ∧ hidesI n a (e.fdiv 2) = hidesI n a e₀ := by
  have q := half_in h0 he
  refine ⟨q.1, by omega, ?_⟩
  rw [← hi]
  have e1 : hidesI n a e = hidesF 11 n a (e.fdiv 2) := by
    unfold hidesI
    simp only [hidesF, he, hp]
    simp
  rw [e1]
  unfold hidesI
  exact hidesF_fuel _ _ _ q.1 (by omega) (by omega)
theorem hides_endA {n a e e₀ : Int} (he : e.fmod 2 = 0) (hp : pw a e n ≠ 1) (hi : hidesI n a e = hidesI n a e₀) : (pw a e n == n - 1) = hidesI n a e₀ := by
  rw [← hi]
  unfold hidesI
  rw [hidesF, if_pos he, if_pos hp]
  rfl
theorem hides_endB {n a e e₀ : Int} (he : e.fmod 2 ≠ 0) (hi : hidesI n a e = hidesI n a e₀) : ([1, n - 1].any fun x => x == pw a e n) = hidesI n a e₀ := by
  rw [← hi]
  unfold hidesI
  simp only [hidesF, he]
  simp [eq_comm, Bool.beq_eq_decide_eq]
section
set_option maxHeartbeats 8000000 in
theorem hides_tell {w : World} {mean : ExcName → Option Value} {mg mb : Str → Option Value} {news : List (Addr × Obj)} {n a : Int} {tn ta : Tok} (h0 : 1 < n) (h1 : n < 1024) :
    Tell w mean mg mb 175 2 news [.int n tn, .int a ta] (BoolOut (hidesI n a (n - 1))) := by
  unfold Tell
  k_fill
  intro dp un gd cn cs a' ccd cl outer A₀ base h₀ L m s Q E B F X N T hk hd hu hret
  w_top off
  k_with_none
  k_with "own pow" => (k_here; (refine call_pow3 rfl (by omega) (by assumption) ?_))
  have hI0 : IntsAre [] [] := .nil
  k_with "own while" => (k_while_given ["n", "a", "exponent!"] (fun n₀ a₀ e₀ script e => 0 < e ∧ e < 1024 ∧ hidesI n₀ a₀ e = hidesI n₀ a₀ e₀) (fun n₀ a₀ e₀ script e => e.toNat) "exponent")
  k_with "state" => first | exact hides_start (by assumption) (by assumption) | exact hides_turn (by assumption) (by assumption) (by assumption) (by assumption) (by assumption)
  k_with "measure" => have q9 := half_in (by assumption) (by assumption); omega
  refine wpAny_call ?_
  k_dflt ktr_enter
  k_steps
  · exact ret_bool hret (by assumption) (by assumption) in_self (hides_endA (by assumption) (by assumption) (by assumption))
  · exact ret_bool hret (by assumption) (by assumption) (in_cons in_self) (hides_endB (by assumption) (by assumption))
end
/-! _law_take: it turns the box -/
set_option maxHeartbeats 8000000 in
theorem take_tell {w : World} {mean : ExcName → Option Value} {mg mb : Str → Option Value} {news : List (Addr × Obj)} {D : Addr} {k : Nat} {g c many : Int} {tg tc tm : Tok} (hlt : AllLt D news) (g0 : 0 ≤ g) (c0 : 0 ≤ c) (c1 : c < 1000) (m0 : 1 ≤ many) (m1 : many < 1000) :
    ∀ (dp un : Nat) (gd : Option (List Code)) (cn : Str) (cs : Scope) (a : Addr) (ccd : Value) (cl : List (Str × Addr)) (outer : List Env) (A₀ : Around) (base h₀ : Heap) (L : Addr) (m : Str → Option Value) (s : Shared) (Q E : Value → Shared → Prop),
    Below A₀ base outer h₀ → Fr h₀ L s.heap m → (Mine.hd.heap_39 w.params).In h₀ → News h₀ L s.heap ((D, listOf [Value.int g tg, Value.int c tc].toArray k) :: news) → Top Mine.hd.view_39 (looseW Mine.hd.view_39 []) mean mg mb h₀ → cs.kind = .function → dp + 2 < recursionLimit → un + 8 * 2 < cLine →
    (∀ (d g' : Int) td tg' tc' k' h' tk', 0 ≤ d → d < many → 0 ≤ g' → g' ≤ g → Fr h₀ L h' m → News h₀ L h' ((D, listOf [Value.int g' tg', Value.int (c + 1) tc'].toArray k') :: news) → Q (.int d td) { s with heap := h', toks := tk' }) →
    wpAny (model PySem.Challenge.rw_nz0078_01.row.prog w) (ktrTop dp un gd cn cs L a ccd cl outer) (call (.ref 121) [.ref D, .int many tm]) Q E s := by
  k_fill
  intro dp un gd cn cs a ccd cl outer A₀ base h₀ L m s Q E B F X N T hk hd hu hret
  w_top off
  k_with_none
  refine wpAny_call ?_
  k_dflt ktr_enter
  k_steps
  · have q0 : 0 ≤ g.fdiv many := Int.fdiv_nonneg g0 (by omega)
    have q1 : g.fdiv many ≤ g := by
      rw [Int.fdiv_eq_ediv_of_nonneg g (by omega)]
      exact Int.ediv_le_self many g0
    exact hret (g.fmod many) (g.fdiv many) _ _ _ _ _ _ (Int.fmod_nonneg_of_pos g (by omega)) (Int.fmod_lt_of_pos g (by omega)) q0 q1 (by assumption) (by assumption)
  · exact hret (((c + 1) * 7 + (c + 1).fdiv 5).fmod many) g _ _ _ _ _ _ (Int.fmod_nonneg_of_pos _ (by omega)) (Int.fmod_lt_of_pos _ (by omega)) g0 (Int.le_refl g) (by assumption) (by assumption)
/-! is_one -/
theorem row_one {w : Nat} (hw : 1 ≤ w) : rowI w 1 = [1] := by
  have h2 := pow_ge2 hw
  have e1 : (1 : Int).fmod (2 ^ w) = 1 := by
    rw [Int.fmod_eq_emod_of_nonneg _ (by omega)]
    exact Int.emod_eq_of_lt (by omega) (by omega)
  have e2 : (1 : Int).fdiv (2 ^ w) = 0 := by
    rw [Int.fdiv_eq_ediv_of_nonneg _ (by omega)]
    exact Int.ediv_eq_zero_of_lt (by omega) (by omega)
  rw [rowI_pos hw (by omega) (by omega), e1, e2, rowI_zero (by omega)]
theorem row_inj {w : Nat} {x y : Int} (hw : 1 ≤ w) (x0 : 0 ≤ x) (x1 : x < 1048576) (y0 : 0 ≤ y) (y1 : y < 1048576) (h : rowI w x = rowI w y) : x = y := by
  have := congrArg (fun l => topI w l.reverse) h
  simp only [top_rowI hw x0 x1, top_rowI hw y0 y1] at this
  exact this
set_option maxHeartbeats 2000000 in
theorem isone_tell {w : World} {mean : ExcName → Option Value} {mg mb : Str → Option Value} {news : List (Addr × Obj)} {D : Addr} {vs : List Value} {n₀ : Nat} {ns : List Int} (hm : (D, listOf vs.toArray n₀) ∈ news) (hI : IntsAre vs ns) (hl : ns.length ≤ 24) :
    Tell w mean mg mb 102 14 news [.ref D] (BoolOut (decide (ns = [1]))) := by
  unfold Tell
  k_fill
  intro dp un gd cn cs a ccd cl outer A₀ base h₀ L m s Q E B F X N T hk hd hu hret
  w_top off
  k_with_none
  replace N := news_dup N hm
  k_with "own eq" => (k_here; with_unfolding_all refine' eq_intsK ?k1 ?k2 ?k3 ?k4 ?k5 ?_; (case k1 => is_list); (case k2 => first | assumption | ((repeat constructor); done)); (case k3 => is_list); (case k4 => first | assumption | ((repeat constructor); done)); (case k5 => ktr_units); k_whole)
  refine wpAny_call ?_
  k_dflt ktr_enter
  k_steps
  all_goals exact ret_bool hret (by assumption) (by assumption) (in_cons (in_cons in_self)) rfl
theorem isone_row {w : World} {mean : ExcName → Option Value} {mg mb : Str → Option Value} {news : List (Addr × Obj)} {D : Addr} {vs : List Value} {n₀ k : Nat} {x : Int} (hm : (D, listOf vs.toArray n₀) ∈ news) (hI : IntsAre vs (rowI k x)) (hk : 1 ≤ k) (x0 : 0 ≤ x) (x1 : x < 64) :
    Tell w mean mg mb 102 14 news [.ref D] (BoolOut (decide (x = 1))) := by
  have e : decide (x = 1) = decide (rowI k x = [1]) := by
    refine decide_eq_decide.mpr ⟨fun h => by rw [h, row_one hk], fun h => row_inj hk x0 (by omega) (by omega) (by omega) (h.trans (row_one hk).symm)⟩
  rw [e]
  exact isone_tell hm hI (rowI_len hk x)
/-! A comprehension that picks objects out of a list by a test. -/
theorem eq_rows {prog : Program} {w : World} {A : Around} {E : Value → Shared → Prop} {s : Shared} {a b : Addr} {vs us : List Value} {k : Nat} {x y : Int} {Q : Value → Shared → Prop} (hl : s.heap.IsList a vs.toArray) (hi : IntsAre vs (rowI k x)) (hl' : s.heap.IsList b us.toArray) (hi' : IntsAre us (rowI k y)) (hu : A.units + 64 < cLine)
    (hk : 1 ≤ k) (x0 : 0 ≤ x) (x1 : x < 64) (y0 : 0 ≤ y) (y1 : y < 64) (h : Q (.bool (decide (x = y))) s) : wpAny (model prog w) A (compareOp .Eq (.ref a) (.ref b)) Q E s := by
  refine eq_intsK hl hi hl' hi' hu ?_
  have e : decide (rowI k x = rowI k y) = decide (x = y) := decide_eq_decide.mpr ⟨fun h => row_inj hk x0 (by omega) y0 (by omega) h, fun h => by rw [h]⟩
  rw [e]
  exact h
def sel (its : Array Value) (q : Nat → Bool) : Nat → List Value
  | 0 => []
  | i + 1 => if q i = true then sel its q i ++ [its.getD i .none] else sel its q i
theorem comp_refs {prog : Program} {w : World} {A : Around} {h₀ : Heap} {L : Addr} {m : Str → Option Value} {env : Env} {ct elt : Expr} {x : Str} {scope : Scope} {cl : List (Str × Addr)} {s : Shared} {S : List (Addr × Obj) → Prop} {Fin : List Value → List (Addr × Obj) → Prop} {news : List (Addr × Obj)} {its : Array Value} (q : Nat → Bool)
    (turn : ∀ i v I oI C oC D m₂ ys h tk (E' : Value → Shared → Prop), its[i]? = some v → LCg.NsObj oC m₂ → m₂ x = some v → Fr h₀ L h m → News h₀ L h ((I, oI) :: (C, oC) :: (D, LCg.lst ys) :: news) → LCg.Off3 I C D news → ((@Ne Nat I C) ∧ (@Ne Nat I D) ∧ (@Ne Nat C D)) →
      wpAny (model prog w) A (isTrue ct (compEnvC scope cl C env) (eval ct (compEnvC scope cl C env))) (fun b s' => if b = true then wpAny (model prog w) A (eval elt (compEnvC scope cl C env)) (LCg.CompEnd h₀ L m { s with heap := h, toks := tk } I oI C oC D (LCg.lst ys) S (fun y news' => news' = news ∧ q i = true ∧ y = v)) E' s'
        else LCg.CompEnd h₀ L m { s with heap := h, toks := tk } I oI C oC D (LCg.lst ys) S (fun _ news' => news' = news ∧ q i = false) Value.none s') E' { s with heap := h, toks := tk })
    (fin : Fin (sel its q its.size) news) : LCt.CompRestT prog w A h₀ L m env ct elt x scope cl s S (fun i v => its[i]? = some v) Fin its.size 0 [] news := by
  have key : ∀ (j i : Nat) (ys : List Value), i + j = its.size → ys = sel its q i → LCt.CompRestT prog w A h₀ L m env ct elt x scope cl s S (fun i v => its[i]? = some v) Fin j i ys news := by
    intro j
    induction j with
    | zero =>
      intro i ys hi hy
      have e : i = its.size := by omega
      subst e
      subst hy
      exact LCt.CompRestT.zero fin
    | succ j ih =>
      intro i ys hi hy
      refine LCt.CompRestT.succ ?_
      intro v I oI C oC D m₂ h tk E' hv hC hx F N off ne
      have hg : its.getD i .none = v := by
        obtain ⟨hlt, e⟩ := Array.getElem?_eq_some_iff.mp hv
        simp [Array.getD, hlt, e]
      refine wpAny_mono (turn i v I oI C oC D m₂ ys h tk E' hv hC hx F N off ne) (fun b s₂ hq => ?_) fun _ _ e => e
      cases b with
      | true =>
        simp only [if_true] at hq ⊢
        refine wpAny_mono hq (fun y s₃ hr => ?_) fun _ _ e => e
        obtain ⟨h', tk', nw, e, F', N', off', hS, hn, hq', hy'⟩ := hr
        rw [hn] at N' off' hS
        refine ⟨h', tk', news, e, F', N', off', hS, ih (i + 1) _ (by omega) ?_⟩
        rw [hy', hy, sel, if_pos hq', hg]
      | false =>
        simp only [Bool.false_eq_true, if_false] at hq ⊢
        obtain ⟨h', tk', nw, e, F', N', off', hS, hn, hq'⟩ := hq
        rw [hn] at N' off' hS
        refine ⟨h', tk', news, e, F', N', off', hS, ih (i + 1) _ (by omega) ?_⟩
        rw [hy, sel, if_neg (by rw [hq']; exact Bool.false_ne_true)]
  exact key its.size 0 [] (by omega) rfl
theorem cend_same {h₀ : Heap} {L I C D : Addr} {m : Str → Option Value} {s₁ : Shared} {oI oC oD : Obj} {S : List (Addr × Obj) → Prop} {rest : Value → List (Addr × Obj) → Prop} {y : Value} {h' : Heap} {tk : Nat} {news' : List (Addr × Obj)}
    (F : Fr h₀ L h' m) (N : News h₀ L h' ((I, oI) :: (C, oC) :: (D, oD) :: news')) (off : LCg.Off3 I C D news') (hS : S news') (r : rest y news') :
    LCg.CompEnd h₀ L m s₁ I oI C oC D oD S rest y { s₁ with heap := h', toks := tk } := LCg.CompEnd.intro F N news' (fun _ h => h) off hS r
theorem sel_len (its : Array Value) (q : Nat → Bool) : ∀ i, (sel its q i).length ≤ i
  | 0 => Nat.le_refl _
  | i + 1 => by
    have := sel_len its q i
    rw [sel]
    split
    · simp only [List.length_append, List.length_cons, List.length_nil]; omega
    · omega
theorem len_sel {prog : Program} {w : World} {A : Around} {E : Value → Shared → Prop} {s : Shared} {h₀ : Heap} {L D : Addr} {news : List (Addr × Obj)} {its : Array Value} {q : Nat → Bool} {i : Nat} {Q : Value → Shared → Prop} (N : News h₀ L s.heap ((D, LCg.lst (sel its q i)) :: news)) (hi : i ≤ 64)
    (h : Q (.int ((sel its q i).length : Int) (s.toks + 1)) { s with toks := s.toks + 1 + 1 }) : wpAny (model prog w) A (call (.builtin "len") [.ref D]) Q E s := by
  have hl : s.heap.IsList D (sel its q i).toArray := ⟨_, (N _ (.head _)).1, rfl, _, rfl⟩
  have hb := sel_len its q i
  refine len_list hl (by simp only [List.size_toArray]; omega) ?_
  simpa using h
/-! is_strong_witness -/
theorem pw_all : ∀ (k : Fin 14) (a : Fin 36), (decide (1 ≤ a.val) && decide ((a.val : Int) < 9 + 2 * (k.val : Int))) = true → (decide (0 ≤ pw (a.val : Int) (oddOf (9 + 2 * (k.val : Int))) (9 + 2 * (k.val : Int))) && decide (pw (a.val : Int) (oddOf (9 + 2 * (k.val : Int))) (9 + 2 * (k.val : Int)) < 64)) = true := by
  decide +kernel
theorem nOk_in {n : Int} (hn : nOk n) : 9 ≤ n ∧ n ≤ 35 := by
  obtain ⟨k, rfl⟩ := hn
  have := k.isLt
  omega
theorem wOk_in {w : Int} (hw : wOk w) : 2 ≤ w ∧ w ≤ 9 := by
  obtain ⟨k, rfl⟩ := hw
  have := k.isLt
  omega
theorem a_of {n a : Int} (hn : nOk n) (h0 : 1 ≤ a) (h1 : a < n) : ∃ j : Fin 36, a = (j.val : Int) := by
  have := nOk_in hn
  exact ⟨⟨a.toNat, by omega⟩, by show a = (a.toNat : Int); omega⟩
theorem pw_in {n a : Int} (hn : nOk n) (h0 : 1 ≤ a) (h1 : a < n) : 0 ≤ pw a (oddOf n) n ∧ pw a (oddOf n) n < 64 := by
  obtain ⟨j, rfl⟩ := a_of hn h0 h1
  obtain ⟨k, rfl⟩ := hn
  have := pw_all k j (by simp only [Bool.and_eq_true, decide_eq_true_eq]; omega)
  simp only [Bool.and_eq_true, decide_eq_true_eq] at this
  exact this
theorem odd_all : ∀ k : Fin 14, (decide (0 ≤ oddOf (9 + 2 * (k.val : Int))) && decide (oddOf (9 + 2 * (k.val : Int)) < 64)) = true := by
  decide +kernel
theorem odd_in {n : Int} (hn : nOk n) : 0 ≤ oddOf n ∧ oddOf n < 64 := by
  obtain ⟨k, rfl⟩ := hn
  have := odd_all k
  simp only [Bool.and_eq_true, decide_eq_true_eq] at this
  exact this
theorem sq_in {x : Int} (h0 : 0 ≤ x) (h1 : x < 64) : 0 ≤ x * x ∧ x * x < 1048576 := by
  have a1 := Int.mul_nonneg h0 h0
  have a2 : x * x ≤ 64 * 64 := Int.mul_le_mul (by omega) (by omega) h0 (by omega)
  exact ⟨a1, by omega⟩
theorem sq_tell {w : World} {mean : ExcName → Option Value} {mg mb : Str → Option Value} {news : List (Addr × Obj)} {D : Addr} {vs : List Value} {n₀ : Nat} {x wd : Int} {tw : Tok} (hm : (D, listOf vs.toArray n₀) ∈ news) (hI : IntsAre vs (rowI wd.toNat x)) (h0 : 0 ≤ x) (h1 : x < 64) (hw : wOk wd) :
    Tell w mean mg mb 154 4 news [.ref D, .ref D, .int wd tw] (ListOut (rowI wd.toNat (x * x))) := by
  have q := sq_in h0 h1
  exact times_tell hm hI hm hI h0 (by omega) h0 (by omega) rfl q.1 q.2 (wOk_in hw).1 (wOk_in hw).2
/-- one squaring in the round of n -/
@[irreducible] def sqm (n x : Int) : Int := (x * x).fmod n
theorem md_tell {w : World} {mean : ExcName → Option Value} {mg mb : Str → Option Value} {news : List (Addr × Obj)} {D₁ D₂ : Addr} {vs₁ vs₂ : List Value} {n₁ n₂ : Nat} {x n wd : Int} {tw : Tok}
    (hm₁ : (D₁, listOf vs₁.toArray n₁) ∈ news) (hI₁ : IntsAre vs₁ (rowI wd.toNat (x * x))) (hm₂ : (D₂, listOf vs₂.toArray n₂) ∈ news) (hI₂ : IntsAre vs₂ (rowI wd.toNat n)) (h0 : 0 ≤ x) (h1 : x < 64) (hn : nOk n) (hw : wOk wd) :
    Tell w mean mg mb 161 4 news [.ref D₁, .ref D₂, .int wd tw] (PairOut (rowI wd.toNat ((x * x).fdiv n)) (rowI wd.toNat (sqm n x))) := by
  unfold sqm
  have q := sq_in h0 h1
  have k := nOk_in hn
  exact parts_tell hm₁ hI₁ hm₂ hI₂ q.1 q.2 (by omega) (by omega) (wOk_in hw).1 (wOk_in hw).2
theorem md_in {vs : List Value} {x n : Int} {k : Nat} (_ : IntsAre vs (rowI k (sqm n x))) (hn : nOk n) : 0 ≤ sqm n x ∧ sqm n x < 64 := by
  unfold sqm
  have q := nOk_in hn
  have := Int.fmod_lt_of_pos (x * x) (by omega : 0 < n)
  exact ⟨Int.fmod_nonneg_of_pos (x * x) (by omega), by omega⟩
theorem pn_tell {w : World} {mean : ExcName → Option Value} {mg mb : Str → Option Value} {news : List (Addr × Obj)} {D₁ D₂ D₃ : Addr} {vs₁ vs₂ vs₃ : List Value} {n₁ n₂ n₃ : Nat} {a n wd : Int} {tw : Tok}
    (hm₁ : (D₁, listOf vs₁.toArray n₁) ∈ news) (hI₁ : IntsAre vs₁ (rowI wd.toNat a)) (hm₂ : (D₂, listOf vs₂.toArray n₂) ∈ news) (hI₂ : IntsAre vs₂ (rowI wd.toNat (oddOf n))) (hm₃ : (D₃, listOf vs₃.toArray n₃) ∈ news) (hI₃ : IntsAre vs₃ (rowI wd.toNat n)) (a0 : 1 ≤ a) (a1 : a < n) (hn : nOk n) (hw : wOk wd) :
    Tell w mean mg mb 168 4 news [.ref D₁, .ref D₂, .ref D₃, .int wd tw] (ListOut (rowI wd.toNat (pw a (oddOf n) n))) := by
  have q := nOk_in hn
  have r := odd_in hn
  have p := pw_in hn a0 a1
  exact power_tell hm₁ hI₁ hm₂ hI₂ hm₃ hI₃ (by omega) (by omega) r.1 (by omega) (by omega) (by omega) rfl p.1 (by omega) (wOk_in hw).1 (wOk_in hw).2
theorem unr_drop {h₀ : Heap} {L I : Addr} {it : Obj} {rest : (Str → Option Value) → List (Addr × Obj) → Prop} {s₁ : Shared} {h' : Heap} {tk : Nat} {m' : Str → Option Value} {p₁ p₂ p₃ p₄ : Addr × Obj} {l : List (Addr × Obj)} (F : Fr h₀ L h' m') (N : News h₀ L h' (p₁ :: p₂ :: p₃ :: p₄ :: (I, it) :: l))
    (off : ∀ p ∈ p₂ :: l, p.1 ≠ I) (r : rest m' (p₂ :: l)) : UnrEnd h₀ L s₁ I it rest { s₁ with heap := h', toks := tk } :=
  UnrEnd.intro F N _ (fun p hp => by
    rcases List.mem_cons.mp hp with rfl | hp
    · exact .tail _ (.tail _ (.tail _ (.tail _ (.head _))))
    · rcases List.mem_cons.mp hp with rfl | hp
      · exact .tail _ (.head _)
      · exact .tail _ (.tail _ (.tail _ (.tail _ (.tail _ hp))))) off r
/-- what the squarings give, one behind the other -/
def seqI (n x : Int) : Nat → Int
  | 0 => x
  | i + 1 => sqm n (seqI n x i)
def cntq (q : Nat → Bool) : Nat → Nat
  | 0 => 0
  | i + 1 => if q i = true then cntq q i + 1 else cntq q i
theorem sel_cnt (its : Array Value) (q : Nat → Bool) : ∀ i, (sel its q i).length = cntq q i
  | 0 => rfl
  | i + 1 => by
    rw [sel, cntq]
    split
    · rw [List.length_append, sel_cnt its q i]; rfl
    · exact sel_cnt its q i
/-- what is_strong_witness tells of a -/
def witB (n a : Int) : Bool := if pw a (oddOf n) n = 1 then false else decide (cntq (fun i => decide (seqI n (pw a (oddOf n) n) i = n - 1)) (dbl n).toNat = 0)
theorem wit_endA {n a : Int} (h : pw a (oddOf n) n = 1) : false = witB n a := by
  unfold witB
  rw [if_pos h]
theorem wit_endB {n a d : Int} {its : Array Value} (h : ¬ pw a (oddOf n) n = 1) (hd : dbl n = d) (hs : its.size = d.toNat) :
    (((sel its (fun i => decide (seqI n (pw a (oddOf n) n) i = n - 1)) its.size).length : Int) == 0) = witB n a := by
  unfold witB
  rw [if_neg h, sel_cnt, hs, hd]
  have e : ∀ k : Nat, ((k : Int) == 0) = decide (k = 0) := by
    intro k
    cases k with
    | zero => rfl
    | succ k => exact (beq_eq_false_iff_ne.mpr (by omega)).trans (decide_eq_false (by omega)).symm
  exact e _
/-- the law's tools, as they lie in the ledger -/
def toolsObj (w : World) (t₁ t₂ t₃ t₄ t₅ : Tok) : Obj :=
  dictOf [⟨PyData.keyHash w.params (Str.ofString "mul"), .str (Str.ofString "mul") t₁, .ref 154⟩, ⟨PyData.keyHash w.params (Str.ofString "divrem"), .str (Str.ofString "divrem") t₂, .ref 161⟩, ⟨PyData.keyHash w.params (Str.ofString "power"), .str (Str.ofString "power") t₃, .ref 168⟩, ⟨PyData.keyHash w.params (Str.ofString "gcd"), .str (Str.ofString "gcd") t₄, .none⟩, ⟨PyData.keyHash w.params (Str.ofString "factor"), .str (Str.ofString "factor") t₅, .none⟩] 5
theorem room_of {x a b c : Nat} (h : x + b < c) (e : a ≤ b) : x + a < c := Nat.lt_of_le_of_lt (Nat.add_le_add_left e x) h
set_option maxHeartbeats 8000000 in
theorem witness_tell {w : World} {mean : ExcName → Option Value} {mg mb : Str → Option Value} {news : List (Addr × Obj)} {Da Dn X DX : Addr} {vsa vsn : List Value} {na nn : Nat} {a n wd : Int} {tw t₁ t₂ t₃ t₄ t₅ : Tok}
    (hma : (Da, listOf vsa.toArray na) ∈ news) (hIa : IntsAre vsa (rowI wd.toNat a)) (hmn : (Dn, listOf vsn.toArray nn) ∈ news) (hIn : IntsAre vsn (rowI wd.toNat n)) (hmX : (X, instObj 91 DX) ∈ news) (hmD : (DX, toolsObj w t₁ t₂ t₃ t₄ t₅) ∈ news)
    (a0 : 1 ≤ a) (a1 : a < n) (hn : nOk n) (hw : wOk wd) :
    Tell w mean mg mb 114 40 news [.ref Da, .ref Dn, .int wd tw, .ref X] (BoolOut (witB n a)) := by
  have hpw := pw_in hn a0 a1
  obtain ⟨hp0, hp1⟩ := hpw
  have hdb := dbl_in n
  obtain ⟨hb0, hb1⟩ := hdb
  unfold toolsObj at hmD
  unfold Tell
  k_fill
  intro dp un gd cn cs a' ccd cl outer A₀ base h₀ L m s Q E B F X₀ N T hk hd hu hret
  w_top off
  k_with_none
  replace N := news_dup (news_dup (news_dup (news_dup N hma) (.tail _ hmn)) (.tail _ (.tail _ hmX))) (.tail _ (.tail _ (.tail _ hmD)))
  have hkk : ScopeKind.function = ScopeKind.function := rfl
  have kd1 : dp + 1 + 4 < recursionLimit := (room_of hd (by decide : 5 ≤ 40) : dp + 5 < recursionLimit)
  have kd2 : dp + 1 + 1 + 4 < recursionLimit := (room_of hd (by decide : 6 ≤ 40) : dp + 6 < recursionLimit)
  have kd4 : dp + 1 + 14 < recursionLimit := (room_of hd (by decide : 15 ≤ 40) : dp + 15 < recursionLimit)
  have ku1 : un + 3 + 8 * 4 < cLine := (room_of hu (by decide : 35 ≤ 8 * 40) : un + 35 < cLine)
  have ku2 : un + 3 + 3 + 8 * 4 < cLine := (room_of hu (by decide : 38 ≤ 8 * 40) : un + 38 < cLine)
  have ku4 : un + 3 + 8 * 14 < cLine := (room_of hu (by decide : 115 ≤ 8 * 40) : un + 115 < cLine)
  have ku6 : un + 3 + 64 < cLine := (room_of hu (by decide : 67 ≤ 8 * 40) : un + 67 < cLine)
  have hn0 : 0 ≤ n - 1 := by have := nOk_in hn; omega
  have hn1 : n - 1 < 64 := by have := nOk_in hn; omega
  have hw1 : 1 ≤ wd.toNat := by have := wOk_in hw; omega
  k_with "own call" => (k_here; k_dflt (refine' use_list (subn_tell ?m0 ?m1 ?m2 ?m3 ?m4) ?k1 ?k2 ?k3 ?k4 ?k5 ?kK ?kd ?ku ?_; (case k1 => k_asm); (case k2 => k_asm); (case k3 => k_asm); (case k4 => k_asm); (case k5 => k_asm); (case kK => first | exact rfl | assumption); (case m0 => first | assumption | k_mem); (case m1 => assumption); (case m2 => first | assumption | k_mem); (case m3 => assumption); (case m4 => assumption); (case kd => first | exact kd1 | exact kd2 | exact kd4 | ktr_room); (case ku => first | exact ku1 | exact ku2 | exact ku4 | ktr_units); k_whole; intro D' vs' n' h' tk' hI' l1 F' N'; (try k_lt l1); (try k_sweep)))
  k_with "own call" => (k_here; k_dflt (refine' use_int (trailn_tell ?m0 ?m1 ?m2 ?m3) ?k1 ?k2 ?k3 ?k4 ?k5 ?kK ?kd ?ku ?_; (case k1 => k_asm); (case k2 => k_asm); (case k3 => k_asm); (case k4 => k_asm); (case k5 => k_asm); (case kK => first | exact rfl | assumption); (case m0 => first | assumption | k_mem); (case m1 => assumption); (case m2 => assumption); (case m3 => assumption); (case kd => first | exact kd1 | exact kd2 | exact kd4 | ktr_room); (case ku => first | exact ku1 | exact ku2 | exact ku4 | ktr_units); k_whole; intro t' h' tk' F' N'; (try k_sweep)))
  k_with "own call" => (k_here; k_dflt (refine' use_list (shiftn_tell ?m0 ?m1 ?m2 ?m3) ?k1 ?k2 ?k3 ?k4 ?k5 ?kK ?kd ?ku ?_; (case k1 => k_asm); (case k2 => k_asm); (case k3 => k_asm); (case k4 => k_asm); (case k5 => k_asm); (case kK => first | exact rfl | assumption); (case m0 => first | assumption | k_mem); (case m1 => assumption); (case m2 => assumption); (case m3 => assumption); (case kd => first | exact kd1 | exact kd2 | exact kd4 | ktr_room); (case ku => first | exact ku1 | exact ku2 | exact ku4 | ktr_units); k_whole; intro D' vs' n' h' tk' hI' l1 F' N'; (try k_lt l1); (try k_sweep)))
  k_with "own call" => (k_here; k_dflt (refine' use_list (pn_tell ?m0 ?m1 ?m2 ?m3 ?m4 ?m5 ?m6 ?m7 ?m8 ?m9) ?k1 ?k2 ?k3 ?k4 ?k5 ?kK ?kd ?ku ?_; (case k1 => k_asm); (case k2 => k_asm); (case k3 => k_asm); (case k4 => k_asm); (case k5 => k_asm); (case kK => first | exact rfl | assumption); (case m0 => first | assumption | k_mem); (case m1 => assumption); (case m2 => first | assumption | k_mem); (case m3 => assumption); (case m4 => first | assumption | k_mem); (case m5 => assumption); (case m6 => assumption); (case m7 => assumption); (case m8 => assumption); (case m9 => assumption); (case kd => first | exact kd1 | exact kd2 | exact kd4 | ktr_room); (case ku => first | exact ku1 | exact ku2 | exact ku4 | ktr_units); k_whole; intro D' vs' n' h' tk' hI' l1 F' N'; (try k_lt l1); (try k_sweep)))
  k_with "own call" => (k_here; k_dflt (refine' use_list (sq_tell ?m0 ?m1 ?m2 ?m3 ?m4) ?k1 ?k2 ?k3 ?k4 ?k5 ?kK ?kd ?ku ?_; (case k1 => k_asm); (case k2 => k_asm); (case k3 => k_asm); (case k4 => k_asm); (case k5 => k_asm); (case kK => first | exact rfl | assumption); (case m0 => first | assumption | k_mem); (case m1 => assumption); (case m2 => assumption); (case m3 => assumption); (case m4 => assumption); (case kd => first | exact kd1 | exact kd2 | exact kd4 | ktr_room); (case ku => first | exact ku1 | exact ku2 | exact ku4 | ktr_units); k_whole; intro D' vs' n' h' tk' hI' l1 F' N'; (try k_lt l1); (try k_sweep)))
  k_with "own call" => (k_here; k_dflt (refine' use_pair (md_tell ?m0 ?m1 ?m2 ?m3 ?m4 ?m5 ?m6 ?m7) ?k1 ?k2 ?k3 ?k4 ?k5 ?kK ?kd ?ku ?_; (case k1 => k_asm); (case k2 => k_asm); (case k3 => k_asm); (case k4 => k_asm); (case k5 => k_asm); (case kK => first | exact rfl | assumption); (case m0 => first | assumption | k_mem); (case m1 => assumption); (case m2 => first | assumption | k_mem); (case m3 => assumption); (case m4 => assumption); (case m5 => assumption); (case m6 => assumption); (case m7 => assumption); (case kd => first | exact kd1 | exact kd2 | exact kd4 | ktr_room); (case ku => first | exact ku1 | exact ku2 | exact ku4 | ktr_units); k_whole; intro D₁' vs₁' n₁' D₂' vs₂' n₂' T' h' tk' hI₁' hI₂' l1 l2 l3 F' N'; (obtain ⟨hz0', hz1'⟩ := md_in hI₂' (by assumption)); (try k_lt l1); (try k_lt l2); (try k_lt l3); (try k_sweep)))
  k_with "own call" => (k_dflt (show wpAny _ _ (call (Value.ref 109) _) _ _ _); refine wpAny_call ?_; k_dflt ktr_enter)
  k_with "own call" => (k_here; k_dflt (refine' use_bool (isone_row ?m0 ?m1 ?m2 ?m3 ?m4) ?k1 ?k2 ?k3 ?k4 ?k5 ?kK ?kd ?ku ?_; (case k1 => k_asm); (case k2 => k_asm); (case k3 => k_asm); (case k4 => k_asm); (case k5 => k_asm); (case kK => first | exact rfl | assumption); (case m0 => first | assumption | k_mem); (case m1 => assumption); (case m2 => assumption); (case m3 => assumption); (case m4 => assumption); (case kd => first | exact kd1 | exact kd2 | exact kd4 | ktr_room); (case ku => first | exact ku1 | exact ku2 | exact ku4 | ktr_units); k_whole; intro h' tk' F' N'; (try k_sweep)))
  k_with "own eq" => (k_here; with_unfolding_all refine' eq_rows ?k1 ?k2 ?k3 ?k4 ?k5 ?m0 ?m1 ?m2 ?m3 ?m4 ?_; (case k1 => first | assumption | is_list); (case k2 => assumption); (case k3 => is_list); (case k4 => assumption); (case k5 => first | exact ku6 | ktr_units); (case m0 => assumption); (case m1 => assumption); (case m2 => assumption); (case m3 => assumption); (case m4 => assumption); k_whole)
  k_with "own csrc" => (k_here; k_dflt (refine LCt.CompSrcT.ledger (by rfl) (by k_asm) (by k_asm) (by k_mem) (by first | size_fits | exact Nat.le_of_ble_eq_true rfl) ?_); intro g2')
  k_with "own crest" => (k_here; with_unfolding_all (refine comp_refs (fun i => decide (seqI n (pw a (oddOf n) n) i = n - 1)) ?_ ?_); focus ((intro i' v' I' oI' C' oC' D' m' ys' h' tk' E' hv' hC' hx' F' N' off' ne'); (have hit9 : ∃ D9 vs9, v' = Value.ref D9 ∧ h'.IsList D9 (List.toArray vs9) ∧ IntsAre vs9 (rowI wd.toNat (seqI n (pw a (oddOf n) n) i')) ∧ 0 ≤ seqI n (pw a (oddOf n) n) i' ∧ seqI n (pw a (oddOf n) n) i' < 64 := (by (rcases i' with _ | _ | _ | _ | _ | i') <;> first | (exfalso; simp at hv'; done) | ((lcg_open hv'); exact ⟨_, _, rfl, by is_list, by assumption, by assumption, by assumption⟩))); (clear hv'); (obtain ⟨D9, vs9, rfl, hl9, hI9, h09, h19⟩ := hit9); (try simp only [LCg.Off3, and_true] at off')))
  k_with "own cend" => (k_here; refine cend_same (by assumption) (by assumption) ?co ?cs ?cr; (case co => assumption); (case cs => lcg_src); (case cr => first | exact ⟨rfl, decide_eq_true (by assumption), rfl⟩ | exact ⟨rfl, decide_eq_false (by assumption)⟩))
  k_with "own len" => (k_here; refine len_sel (by assumption) (by first | decide | (simp; done) | exact Nat.le_of_ble_eq_true rfl) ?_)
  k_with "own unr" => (k_here; refine unr_drop (by assumption) (by assumption) ?off ?_; (case off => k_all))
  refine wpAny_call ?_
  k_dflt (refine' code_defC ?k1 ?k2 ?k3 ?k4 ?k5 ?kA ?kF ?kK ?k6 ?k7 ?k8 ?k9 ?kB ?kD ?_ ?c2 ?c3 ?c4; (case kA => exact rfl); (case kF => exact rfl); (case kK => assumption); (case k1 => k_asm); (case k2 => k_asm); (case k3 => k_asm); (case k4 => k_asm); (case k5 => k_asm); (case k6 => k_is); (case k7 => k_is); (case k8 => ktr_room); (case k9 => exact BindsTo.of_eq rfl); (case kB => exact rfl); (case kD => decide +kernel); (case c2 => exact rfl); (case c3 => exact rfl); (case c4 => exact rfl); k_whole; intro g' L' h' tk' cells' FG' F' N' Y' B' X' T' l1; (try k_lt l1); k_cells Y'; (try simp only [List.cons_append, List.nil_append] at N'); (try dsimp only); (try k_fold))
  have l0 : AllLt (L' + 1) news := allLt_of fun q hq => Nat.lt_succ_of_lt (kst_ltOf l1.2.2.2.2 q hq)
  k_steps
  all_goals first
    | exact ret_bool hret (by assumption) (by assumption) (by repeat (first | exact in_self | refine in_cons ?_)) (wit_endA (by assumption))
    | exact ret_bool hret (by assumption) (by assumption) (by repeat (first | exact in_self | refine in_cons ?_)) (wit_endB (by assumption) (by assumption) rfl)
    | (exfalso; omega)
/-! The law. -/
theorem wh_all : ∀ (k : Fin 14) (a : Fin 36), (decide (1 ≤ a.val) && decide ((a.val : Int) < 9 + 2 * (k.val : Int))) = true → witB (9 + 2 * (k.val : Int)) (a.val : Int) = !hidesI (9 + 2 * (k.val : Int)) (a.val : Int) (9 + 2 * (k.val : Int) - 1) := by
  decide +kernel
theorem wh_of {n a : Int} (hn : nOk n) (h0 : 1 ≤ a) (h1 : a < n) : witB n a = !hidesI n a (n - 1) := by
  obtain ⟨j, rfl⟩ := a_of hn h0 h1
  obtain ⟨k, rfl⟩ := hn
  exact wh_all k j (by simp only [Bool.and_eq_true, decide_eq_true_eq]; omega)
theorem wit_tell {w : World} {mean : ExcName → Option Value} {mg mb : Str → Option Value} {news : List (Addr × Obj)} {Da Dn X DX : Addr} {vsa vsn : List Value} {na nn : Nat} {a n wd : Int} {tw t₁ t₂ t₃ t₄ t₅ : Tok}
    (hma : (Da, listOf vsa.toArray na) ∈ news) (hIa : IntsAre vsa (rowI wd.toNat a)) (hmn : (Dn, listOf vsn.toArray nn) ∈ news) (hIn : IntsAre vsn (rowI wd.toNat n)) (hmX : (X, instObj 91 DX) ∈ news) (hmD : (DX, toolsObj w t₁ t₂ t₃ t₄ t₅) ∈ news)
    (a0 : 1 ≤ a) (a1 : a < n) (hn : nOk n) (hw : wOk wd) :
    Tell w mean mg mb 114 40 news [.ref Da, .ref Dn, .int wd tw, .ref X] (BoolOut (!hidesI n a (n - 1))) := by
  rw [← wh_of hn a0 a1]
  exact witness_tell hma hIa hmn hIn hmX hmD a0 a1 hn hw
theorem hid_tell {w : World} {mean : ExcName → Option Value} {mg mb : Str → Option Value} {news : List (Addr × Obj)} {n a : Int} {tn ta : Tok} {b : Bool} (hb : hidesI n a (n - 1) = b) (hn : nOk n) :
    Tell w mean mg mb 175 2 news [.int n tn, .int a ta] (BoolOut b) := by
  have := nOk_in hn
  rw [← hb]
  exact hides_tell (by omega) (by omega)
/-- how many of the numbers hide it -/
@[irreducible] def hidC (n : Int) (pre : List Int) : Int := (pre.countP fun a => hidesI n a (n - 1) : Nat)
theorem hid_start (n : Int) : (0 : Int) = hidC n [] := by
  unfold hidC
  rfl
theorem hid_yes {n a h : Int} {pre : List Int} (hb : hidesI n a (n - 1) = true) (e : h = hidC n pre) : h + 1 = hidC n (pre ++ [a]) := by
  rw [e]
  unfold hidC
  rw [List.countP_append]
  simp [hb]
theorem hid_no {n a h : Int} {pre : List Int} (hb : hidesI n a (n - 1) = false) (e : h = hidC n pre) : h + 0 = hidC n (pre ++ [a]) := by
  rw [e]
  unfold hidC
  rw [List.countP_append]
  simp [hb]
def divs (n : Int) : List Int := List.foldl (fun l' k' => if n.fmod k' = 0 then l' ++ [k'] else l') [] (rangeKs 2 (n - 2).toNat)
theorem prime_all : ∀ k : Fin 14, (decide (divs (9 + 2 * (k.val : Int)) = []) == true) = true → hidC (9 + 2 * (k.val : Int)) (rangeKs 1 (9 + 2 * (k.val : Int) - 1).toNat) = 9 + 2 * (k.val : Int) - 1 := by
  decide +kernel
theorem comp_all : ∀ k : Fin 14, (decide (divs (9 + 2 * (k.val : Int)) = []) == false) = true → 4 * hidC (9 + 2 * (k.val : Int)) (rangeKs 1 (9 + 2 * (k.val : Int) - 1).toNat) ≤ 9 + 2 * (k.val : Int) - 1 := by
  decide +kernel
theorem prime_of {n h : Int} (hn : nOk n) (hd : divs n = []) (e : h = hidC n (rangeKs 1 (n - 1).toNat)) : h = n - 1 := by
  rw [e]
  obtain ⟨k, rfl⟩ := hn
  exact prime_all k (by rw [decide_eq_true hd]; rfl)
theorem comp_of {n h : Int} (hn : nOk n) (hd : ¬ divs n = []) (e : h = hidC n (rangeKs 1 (n - 1).toNat)) : 4 * h ≤ n - 1 := by
  rw [e]
  obtain ⟨k, rfl⟩ := hn
  exact comp_all k (by rw [decide_eq_false hd]; rfl)
theorem prime_end {n h : Int} {i : Decidable (divs n = [])} (hn : nOk n) (hd : @decide (divs n = []) i = true) (e : h = hidC n (rangeKs 1 (n - 1).toNat)) : h = n - 1 := prime_of hn (of_decide_eq_true hd) e
theorem comp_endA {n h : Int} {i : Decidable (divs n = [])} (hn : nOk n) (hd : @decide (divs n = []) i = false) (e : h = hidC n (rangeKs 1 (n - 1).toNat)) : 4 * h ≤ n - 1 := comp_of hn (of_decide_eq_false hd) e
theorem comp_endB {n h : Int} {i : Decidable (divs n = [])} (hn : nOk n) (hd : ¬ @decide (divs n = []) i = true) (e : h = hidC n (rangeKs 1 (n - 1).toNat)) : 4 * h ≤ n - 1 := comp_of hn (fun h => hd (decide_eq_true h)) e
theorem tot_turn {g x : Int} (h0 : 0 ≤ g) : 0 ≤ g * 65536 + ((x.natAbs : Int)).fmod 65536 := by
  have m0 : 0 ≤ ((x.natAbs : Int)).fmod 65536 := Int.fmod_nonneg_of_pos _ (by omega)
  omega
set_option maxHeartbeats 20000000 in
theorem law_holds : PySem.Challenge.rw_nz0078_01.Holds := Mine.hd (by
  k_go0; (all_goals try k_fold)
  k_with_none
  k_with "own for" => (k_here; (rename Fr _ _ _ _ => lF'); (with_unfolding_all refine' For_invVF lF' ?k1 ?k2 ?_; (case k1 => exact rfl); (case k2 => exact rfl); k_whole))
  k_with "own iter" => (k_state (fun pre g => 0 ≤ g) "great")
  k_with "own iter" => (k_state (fun pre h => h = hidC (9 + 2 * nD) pre) "hidden")
  k_with "state" => first | exact Int.le_refl 0 | exact tot_turn (by assumption) | exact hid_start _ | exact hid_yes (by assumption) (by assumption) | exact hid_no (by assumption) (by assumption)
  k_with "end" => first | (have e9 := prime_end (n := 9 + 2 * nD) (nOk_of rfl (by omega) (by omega)) (by assumption) (by assumption)) | (have e9 := comp_endA (n := 9 + 2 * nD) (nOk_of rfl (by omega) (by omega)) (by assumption) (by assumption)) | (have e9 := comp_endB (n := 9 + 2 * nD) (nOk_of rfl (by omega) (by omega)) (by assumption) (by assumption))
  k_with "own call" => (k_here; k_dflt (refine' take_tell ?hlt ?g0 ?c0 ?c1 ?m0 ?m1 _ _ _ _ _ _ _ _ _ _ _ _ _ _ _ _ _ ?k1 ?k2 ?k3 ?k4 ?k5 ?kK ?kd ?ku ?_; (case k1 => k_asm); (case k2 => k_asm); (case k3 => k_asm); (case k4 => k_asm); (case k5 => k_asm); (case kK => exact rfl); (case hlt => (simp only [AllLt, and_true]; assumption)); (case g0 => assumption); (case c0 => omega); (case c1 => omega); (case m0 => omega); (case m1 => omega); (case kd => ktr_room); (case ku => ktr_units); k_whole; intro nD g9 td9 tg9 tc9 k9 h' tk' hd0 hd1 hg0 hg1 F' N'; (try k_sweep)))
  k_with "own call" => (k_here; k_dflt (refine' use_list (row_tell ?m2 ?m3 ?m4 ?m5) ?k1 ?k2 ?k3 ?k4 ?k5 ?kK ?kd ?ku ?_; (case k1 => k_asm); (case k2 => k_asm); (case k3 => k_asm); (case k4 => k_asm); (case k5 => k_asm); (case kK => first | exact rfl | assumption); (case m2 => omega); (case m3 => omega); (case m4 => omega); (case m5 => omega); (case kd => ktr_room); (case ku => ktr_units); k_whole; intro D' vs' n' h' tk' hI' l1 F' N'; (try k_lt l1); (try k_sweep)))
  k_with "own call" => (k_here; k_dflt (refine' use_bool (hid_tell ?m0 ?m1) ?k1 ?k2 ?k3 ?k4 ?k5 ?kK ?kd ?ku ?_; (case k1 => k_asm); (case k2 => k_asm); (case k3 => k_asm); (case k4 => k_asm); (case k5 => k_asm); (case kK => first | exact rfl | assumption); (case m0 => assumption); (case m1 => exact nOk_of rfl (by omega) (by omega)); (case kd => ktr_room); (case ku => ktr_units); k_whole; intro h' tk' F' N'; (try k_sweep)))
  k_with "own call" => (k_here; k_dflt (refine' use_bool (wit_tell ?m0 ?m1 ?m2 ?m3 ?m4 ?m5 ?m6 ?m7 ?m8 ?m9) ?k1 ?k2 ?k3 ?k4 ?k5 ?kK ?kd ?ku ?_; (case k1 => k_asm); (case k2 => k_asm); (case k3 => k_asm); (case k4 => k_asm); (case k5 => k_asm); (case kK => first | exact rfl | assumption); (case m0 => first | assumption | k_mem); (case m1 => assumption); (case m2 => first | assumption | k_mem); (case m3 => assumption); (case m4 => first | assumption | k_mem); (case m5 => first | assumption | k_mem); (case m6 => omega); (case m7 => omega); (case m8 => exact nOk_of rfl (by omega) (by omega)); (case m9 => exact wOk_of (by omega) (by omega)); (case kd => ktr_room); (case ku => ktr_units); k_whole; intro h' tk' F' N'; (try k_sweep); (generalize hH : hidesI _ _ _ = b9); (cases b9 <;> dsimp only [Bool.not_true, Bool.not_false])))
  k_with "own cend" => (k_here; refine cend_same (by assumption) (by assumption) ?co ?cs ?_; (case co => first | assumption | (simp only [LCg.Off3, and_true]; assumption)); (case cs => lcg_src))
  k_steps)
end Mine
set_option maxRecDepth 100000 in
set_option maxHeartbeats 8000000 in
theorem PySem.Challenge.cw_nz0078_01_holds : PySem.Challenge.rw_nz0078_01.Holds := by
  exact Mine.law_holds
