import PyProof.Rows.All
import Wide.All
import OpenK.AllK
import Wide.FinOn
import PySem.Challenge.RW_xm0093_01
open PySem PySem.Spec PySem.Calls PySem.W PyProof.Rows
set_option Elab.async false
set_option maxRecDepth 100000
set_option maxHeartbeats 4000000
namespace Mine
section
/-- a head by one check: the holes hl and hc are laid ahead -/
theorem with_hl {T U G : Prop} (hl : T) (hc : U) (k : G) : G := k
noncomputable def hd : (P : Prop) ×' (P → PySem.Challenge.rw_xm0093_01.Holds) := by
  apply PSigma.mk
  case snd =>
    intro hP
    w_on
    o_law
    apply with_hl
    case k =>
      k_head
      (case hw => w_witness2)
    case hc => exact hP
    case hl =>
      intro w
      kernel_rfl

end
section

/-- a call's contract: at every caller's frame -/
def Con (w : World) (D : Nat) (f : Addr) (vs : List Value) (Pre : Heap → Prop)
    (Post : Heap → Addr → (Str → Option Value) → List (Addr × Obj) → Shared → (Value → Shared → Prop) → Prop) : Prop :=
  ∀ (dp un : Nat) (gd : Option (List Code)) (cn : Str) (cs : Scope) (a : Addr) (ccd : Value) (cl : List (Str × Addr)) (outer : List Env) (A₀ : Around) (base h₀ : Heap) (L : Addr) (m : Str → Option Value) (news : List (Addr × Obj)) (s : Shared)
    (Q E : Value → Shared → Prop) (mean : ExcName → Option Value) (mg mb : Str → Option Value),
    Below A₀ base outer h₀ → Fr h₀ L s.heap m → (hd.heap_39 w.params).In h₀ → News h₀ L s.heap news → Top hd.view_39 (looseW hd.view_39 []) mean mg mb h₀ → cs.kind = .function → dp + D < recursionLimit → un + 8 * D < cLine →
    Pre s.heap → Post h₀ L m news s Q →
    wpAny (model PySem.Challenge.rw_xm0093_01.row.prog w) (ktrTop dp un gd cn cs L a ccd cl outer) (call (.ref f) vs) Q E s

abbrev RInt (x : Int) (h₀ : Heap) (L : Addr) (m : Str → Option Value) (news : List (Addr × Obj)) (s : Shared) (Q : Value → Shared → Prop) : Prop :=
  ∀ (t : Tok) (h' : Heap) (tk' : Nat), Fr h₀ L h' m → News h₀ L h' news → Q (.int x t) { s with heap := h', toks := tk' }
abbrev RList (ns : List Int) (h₀ : Heap) (L : Addr) (m : Str → Option Value) (news : List (Addr × Obj)) (s : Shared) (Q : Value → Shared → Prop) : Prop :=
  ∀ (l : Addr) (vs : List Value) (n : Nat) (h' : Heap) (tk' : Nat), Fr h₀ L h' m → News h₀ L h' ((l, listOf vs.toArray n) :: news) → (∀ p ∈ news, p.1 ≠ l) → IntsAre vs ns → vs.length = ns.length → Q (.ref l) { s with heap := h', toks := tk' }
def HasL (l : Addr) (ns : List Int) (h : Heap) : Prop := ∃ vs : List Value, h.IsList l vs.toArray ∧ IntsAre vs ns

section
variable {prog : Program} {w : World} {A₀ A : Around} {s : Shared} {base h₀ : Heap} {outer : List Env} {L : Addr} {m : Str → Option Value} {env : Env} {news : List (Addr × Obj)} {K : Frag}
  {R : Result → Shared → Prop} {name qual : Str} {params : Arguments} {body : List Stmt} {scope : Scope} {dV kV doc pm cdv ct oc : Value} {an od : Option Addr} {osl : Array (Option Value)} {f : Addr} {args : Args} {binds : List (Str × Value)}
  {p : Program} {loose : List Str} {mean : ExcName → Option Value} {mg mb : Str → Option Value}
/-- a def is entered over the whole heap: what the caller made is a part of the ground -/
theorem code_defG (B : Below A₀ base outer h₀) (F : Fr h₀ L s.heap m) (X₀ : K.In h₀) (N : News h₀ L s.heap news) (T : Top p loose mean mg mb h₀) (hA : A.frames = some (env :: outer)) (hf : env.frame = some L) (hke : env.scope.kind = .function)
    (ho : K.lookup f = some ⟨oc, od, .func (fnOf name qual params body scope dV kV doc pm an cdv ct), osl⟩) (hcd : codeIn K cdv qual = true) (hroom : A.depth < recursionLimit)
    (hbind : BindsTo s (fnOf name qual params body scope dV kV doc pm an cdv ct) args binds) (hloc : ∀ y ∈ binds, scope.names.lookup y.1 = some .local)
    (h : ∀ L' h₁, Fr s.heap L' h₁ (fun y => binds.reverse.lookup y) → News s.heap L' h₁ [] → Below A base (env :: outer) s.heap → K.In s.heap → Top p loose mean mg mb s.heap →
      wpAny (model prog w) (A.deeper (envOf qual scope L' f cdv)) (execs body (envOf qual scope L' f cdv))
        (fun fl s' => LeaveK h₀ L m s.heap (fun r s' => (s.heap.StaysIn s'.heap → News h₀ L s'.heap news → R r s')) (match fl with | .ret v => v | _ => .none) s')
        (fun e s' => wpAny (model prog w) (A.deeper (envOf qual scope L' f cdv)) (leaving (envOf qual scope L' f cdv) e) (fun _ s'' => R (.error e) s'') (fun e' s'' => R (.error e') s'') s')
        { s with heap := h₁, toks := s.toks + binds.length })
    (hco : scope.isCoroutine = false) (hgen : scope.isGenerator = false) (hk : scope.kind = .function)
    (hcell : ∀ x ∈ scope.names, x.2 ≠ .cell) : codeAny (model prog w) A (.call (.ref f) args) R s := by
  have hX := X₀.keeps F.keep
  refine codeAny_call_def (fd := fnOf name qual params body scope dV kV doc pm an cdv ct) (body := body) (binds := binds) hroom (hX _ _ ho) rfl (T.nolimit.keeps F.keep) (codeRec_of hX hcd) rfl hbind hcell hloc (fun h₁ hns hk₁ => ?_) hco hgen hk
  obtain ⟨_, BG, _, _⟩ := groundX (R := R) (news := []) B F (fun _ hp => nomatch hp) hA hf hke
  refine wpAny_mono (h s.heap.objs.size h₁ ⟨hns, hk₁, Nat.le_refl _⟩ (fun _ hp => nomatch hp) BG hX (T.keeps F.keep)) (fun fl s' hl => ?_) fun _ _ y => y
  obtain ⟨L', m', news', F', N', k⟩ := hl
  have st : s.heap.StaysIn s'.heap := F'.keep
  obtain ⟨oL, es, ep, hL, hLd, hLk, hLf⟩ := F.ns
  refine k ⟨⟨oL, es, ep, st L oL hL, hLd, hLk, hLf⟩, fun b o e => st b o (F.keep b o e), F.above⟩ (fun p hp => ⟨(N' p hp).1, fun q => ?_, ?_⟩) st fun p hp => ⟨st _ _ (N p hp).1, (N p hp).2⟩
  · have := (N' p hp).2.2; rw [q, hL] at this; cases this
  · cases q : h₀.get? p.1 with
    | none => rfl
    | some o => have := (N' p hp).2.2; rw [F.keep _ _ q] at this; cases this
end
section
variable {prog : Program} {w : World} {A₀ A : Around} {s : Shared} {base h₀ : Heap} {outer : List Env} {L : Addr} {m : Str → Option Value} {env : Env} {news : List (Addr × Obj)} {K : Frag}
  {R : Result → Shared → Prop} {name qual : Str} {params : Arguments} {body : List Stmt} {scope : Scope} {dV kV doc pm cdv ct oc : Value} {an od : Option Addr} {osl : Array (Option Value)} {f : Addr} {args : Args} {binds : List (Str × Value)}
  {p : Program} {loose : List Str} {mean : ExcName → Option Value} {mg mb : Str → Option Value}
/-- the same of a def whose locals are captured -/
theorem code_defGC (B : Below A₀ base outer h₀) (F : Fr h₀ L s.heap m) (X₀ : K.In h₀) (N : News h₀ L s.heap news) (T : Top p loose mean mg mb h₀) (hA : A.frames = some (env :: outer)) (hf : env.frame = some L) (hke : env.scope.kind = .function)
    (ho : K.lookup f = some ⟨oc, od, .func (fnOf name qual params body scope dV kV doc pm an cdv ct), osl⟩) (hcd : codeIn K cdv qual = true) (hroom : A.depth < recursionLimit)
    (hbind : BindsTo s (fnOf name qual params body scope dV kV doc pm an cdv ct) args binds) (hkind : (binds.all fun y => scope.names.lookup y.1 == some .local || scope.names.lookup y.1 == some .cell) = true)
    (hnd : ((cellsFrom 0 scope.names []).map (·.1)).Nodup)
    (h : ∀ L' h₁ tk cells, Fr s.heap L' h₁ (bindL (envOfC qual scope L' f cdv).kindOf binds fun _ => none) → News s.heap L' h₁ cells →
      CellsAre (bindC (envOfC qual scope L' f cdv).kindOf binds fun _ => none) (cellsFrom (L' + 1) scope.names []) cells → Below A base (env :: outer) s.heap → K.In s.heap → Top p loose mean mg mb s.heap →
      wpAny (model prog w) (A.deeper (envOfC qual scope L' f cdv)) (execs body (envOfC qual scope L' f cdv))
        (fun fl s' => LeaveK h₀ L m s.heap (fun r s' => (s.heap.StaysIn s'.heap → News h₀ L s'.heap news → R r s')) (match fl with | .ret v => v | _ => .none) s')
        (fun e s' => wpAny (model prog w) (A.deeper (envOfC qual scope L' f cdv)) (leaving (envOfC qual scope L' f cdv) e) (fun _ s'' => R (.error e) s'') (fun e' s'' => R (.error e') s'') s')
        { s with heap := h₁, toks := tk })
    (hco : scope.isCoroutine = false) (hgen : scope.isGenerator = false) (hk : scope.kind = .function) : codeAny (model prog w) A (.call (.ref f) args) R s := by
  have hX := X₀.keeps F.keep
  have hlim := T.nolimit.keeps F.keep
  obtain ⟨_, BG, _, _⟩ := groundX (R := R) (news := []) B F (fun _ hp => nomatch hp) hA hf hke
  refine codeAny_call_function hroom (hX _ _ ho) rfl hco hgen rfl (codeRec_of hX hcd) (hbind _ _ _ _ ?_)
  refine wpAny_newFunctionEnv_cells hk (kindsX hkind _) fun env' he s' x => ?_
  subst he
  refine ⟨hlim.keeps x.toInCall.keep, codeAny_func ?_⟩
  obtain ⟨h₁, tk, rfl, _⟩ := x.done
  have hk₁ := x.toInCall.keep
  obtain ⟨cells, NC, Y⟩ := Cl.news (h₀ := s.heap) (Nat.le_refl _) fun n c hm => ⟨x.cell n c (lookup_of_mem_nodup (cellsFrom_names scope.names 0 (s.heap.objs.size + 1) [] [] rfl ▸ hnd) hm), x.above n c hm⟩
  refine wpAny_mono (h s.heap.objs.size h₁ tk cells ⟨x.toInCall.ns, hk₁, Nat.le_refl _⟩ NC Y BG hX (T.keeps F.keep)) (fun fl s' hl => ?_) fun _ _ y => y
  obtain ⟨L', m', news', F', N', k⟩ := hl
  have st : s.heap.StaysIn s'.heap := F'.keep
  obtain ⟨oL, es, ep, hL, hLd, hLk, hLf⟩ := F.ns
  refine k ⟨⟨oL, es, ep, st L oL hL, hLd, hLk, hLf⟩, fun b o e => st b o (F.keep b o e), F.above⟩ (fun p hp => ⟨(N' p hp).1, fun q => ?_, ?_⟩) st fun p hp => ⟨st _ _ (N p hp).1, (N p hp).2⟩
  · have := (N' p hp).2.2; rw [q, hL] at this; cases this
  · cases q : h₀.get? p.1 with
    | none => rfl
    | some o => have := (N' p hp).2.2; rw [F.keep _ _ q] at this; cases this
end
section
variable {h₀ g h' : Heap} {L L' : Addr} {m : Str → Option Value} {news nx : List (Addr × Obj)} {s : Shared} {Q : Value → Shared → Prop}
theorem rlist_end {l : Addr} {vs : List Value} {n tk : Nat} {ns ns' : List Int} (hret : RList ns h₀ L m news s Q) (N0 : News h₀ L s.heap news) (F : Fr h₀ L h' m) (N1 : News h₀ L h' news) (Nk : News h₀ L h' nx) (Ng : News s.heap L' h' nx)
    (hm : (l, listOf vs.toArray n) ∈ nx) (hI : IntsAre vs ns') (e : ns' = ns) : Q (.ref l) { s with heap := h', toks := tk } := by
  subst e
  refine hret l vs n h' tk F (fun p hp => ?_) (fun p hp => ?_) hI hI.length
  · rcases List.mem_cons.mp hp with rfl | hp
    · exact Nk _ hm
    · exact N1 p hp
  · intro q
    have h1 := (N0 p hp).1
    have h2 := (Ng _ hm).2.2
    rw [q] at h1
    rw [h2] at h1
    cases h1
theorem rint_end {x y : Int} {t : Tok} {tk : Nat} (hret : RInt x h₀ L m news s Q) (F : Fr h₀ L h' m) (N1 : News h₀ L h' news) (e : y = x) : Q (.int y t) { s with heap := h', toks := tk } := by
  subst e
  exact hret t h' tk F N1
end
section
variable {w : World} {D : Nat} {f : Addr} {vs : List Value} {Pre : Heap → Prop} {Post : Heap → Addr → (Str → Option Value) → List (Addr × Obj) → Shared → (Value → Shared → Prop) → Prop}
theorem con_use (C : Con w D f vs Pre Post) {dp un : Nat} {gd : Option (List Code)} {cn : Str} {cs : Scope} {a : Addr} {ccd : Value} {cl : List (Str × Addr)} {outer : List Env} {A₀ : Around} {base h₀ : Heap} {L : Addr} {m : Str → Option Value} {news : List (Addr × Obj)} {s : Shared}
    {Q E : Value → Shared → Prop} {mean : ExcName → Option Value} {mg mb : Str → Option Value}
    (B : Below A₀ base outer h₀) (F : Fr h₀ L s.heap m) (X : (hd.heap_39 w.params).In h₀) (N : News h₀ L s.heap news) (T : Top hd.view_39 (looseW hd.view_39 []) mean mg mb h₀) (hk : cs.kind = .function) (hd : dp + D < recursionLimit) (hu : un + 8 * D < cLine)
    (pre : Pre s.heap) (post : Post h₀ L m news s Q) : wpAny (model PySem.Challenge.rw_xm0093_01.row.prog w) (ktrTop dp un gd cn cs L a ccd cl outer) (call (.ref f) vs) Q E s :=
  C _ _ _ _ _ _ _ _ _ _ _ _ _ _ _ _ _ _ _ _ _ B F X N T hk hd hu pre post
theorem hasL_of {h : Heap} {l : Addr} {vs : List Value} {ns : List Int} (a : h.IsList l vs.toArray) (b : IntsAre vs ns) : HasL l ns h := ⟨vs, a, b⟩
end
/-- no address of the ledger is l: a word that omega does not see -/
def Apt (news : List (Addr × Obj)) (l : Addr) : Prop := ∀ p ∈ news, p.1 ≠ l
theorem Apt.of {news : List (Addr × Obj)} {l : Addr} (h : ∀ p ∈ news, p.1 ≠ l) : Apt news l := h
theorem Apt.use {news : List (Addr × Obj)} {l a : Addr} {o : Obj} (h : Apt news l) (hm : (a, o) ∈ news) : @Ne Nat a l := h _ hm
theorem ints_hide {vs : List Value} {ns : List Int} (h : IntsAre vs ns) : ∃ d, IntsAre vs d ∧ d = ns := ⟨ns, h, rfl⟩
/-- room for a call: by the caller's room, with no search -/
theorem room_of {d a b D R : Nat} (h : d + D < R) (e : Nat.ble (a + b) D = true) : d + a + b < R := Nat.lt_of_le_of_lt (Nat.le_trans (Nat.le_of_eq (Nat.add_assoc d a b)) (Nat.add_le_add_left (Nat.le_of_ble_eq_true e) d)) h
theorem room_in {d D R : Nat} (h : d + D < R) : d < R := Nat.lt_of_le_of_lt (Nat.le_add_right d D) h
/-- a bound by a bound that stands -/
theorem lt_wid {x a b : Nat} (h : x < a) (e : Nat.ble a b = true) : x < b := Nat.lt_of_lt_of_le h (Nat.le_of_ble_eq_true e)
theorem le_wid {x a b : Nat} (h : x < a) (e : Nat.ble a b = true) : x ≤ b := Nat.le_of_lt (lt_wid h e)
theorem ilt_wid {x a b : Int} (h : x < a) (e : decide (a ≤ b) = true) : x < b := Int.lt_of_lt_of_le h (of_decide_eq_true e)
theorem igt_wid {x a b : Int} (h : a < x) (e : decide (b ≤ a) = true) : b < x := Int.lt_of_le_of_lt (of_decide_eq_true e) h
theorem apt_lt {news : List (Addr × Obj)} {D : Addr} (h : ∀ p ∈ news, p.1 < D) : Apt news D := fun p hp e => absurd (h p hp) (e ▸ Nat.lt_irrefl _)

end
local macro_rules | `(tactic| walk_at $s:str) => `(tactic| k_extra $s)
local macro_rules | `(tactic| omega) => `(tactic| k_extra "omega")
local macro_rules | `(tactic| ktr_room) => `(tactic| k_extra "ktr_room")
local macro_rules | `(tactic| ktr_units) => `(tactic| k_extra "ktr_units")
local macro_rules | `(tactic| ktd_step) => `(tactic| k_extra "ktd_step")
local macro_rules | `(tactic| ktr_step) => `(tactic| k_extra "ktr_step")
local macro_rules | `(tactic| ktn_step) => `(tactic| k_extra "ktn_step")
local macro_rules | `(tactic| ktf_step) => `(tactic| k_extra "ktf_step")
local macro_rules | `(tactic| k_ne) => `(tactic| k_extra "k_ne")
local macro_rules | `(tactic| ktr_rel) => `(tactic| k_extra "ktr_rel")
local macro_rules | `(tactic| l_ints) => `(tactic| k_extra "l_ints")
local macro_rules | `(tactic| mul_fits) => `(tactic| k_extra "mul_fits")
local macro_rules | `(tactic| kit_at) => `(tactic| k_extra "kit_at")
local macro_rules | `(tactic| lcg_off) => `(tactic| k_extra "lcg_off")
local macro_rules | `(tactic| k_lt $h:ident) => `(tactic| ((have a9 := apt_lt $h:ident); (replace $h:ident := allLt_of $h:ident); (simp only [AllLt, and_true] at $h:ident)))
section
def trimP (ns : List Int) : List Int := (ns.reverse.dropWhile (· == 0)).reverse

theorem dropWhile_rev_zero (a b : List Int) (hb : ∀ x ∈ b, x = 0) (ha : ∀ x, a.getLast? = some x → x ≠ 0) : ((a ++ b).reverse.dropWhile (· == 0)).reverse = a := by
  have h1 : ∀ (c d : List Int), (∀ x ∈ c, x = 0) → (c ++ d).dropWhile (· == 0) = d.dropWhile (· == 0) := by
    intro c
    induction c with
    | nil => intro d _; rfl
    | cons x c ih =>
      intro d h
      rw [List.cons_append, List.dropWhile_cons]
      have := h x (.head _)
      simp only [this, beq_self_eq_true, if_true]
      exact ih d fun y hy => h y (.tail _ hy)
  rw [List.reverse_append, h1 _ _ (by simpa using hb)]
  have h2 : a.reverse.dropWhile (· == 0) = a.reverse := by
    cases h : a.reverse with
    | nil => rfl
    | cons x r =>
      have : a.getLast? = some x := by rw [List.getLast?_eq_head?_reverse, h]; rfl
      have := ha x this
      rw [List.dropWhile_cons]
      simp [this]
  rw [h2, List.reverse_reverse]
theorem trim_of_mark {ns : List Int} {k : Int} (h1 : k ≤ (ns.length : Int)) (h0 : min (ns.length : Int) 0 ≤ k)
    (h2 : ∀ j : Int, k < j → j ≤ (ns.length : Int) → (if 0 < j then if (ns.getD (j - 1).toNat 0 == 0) = true then true else false else false) = true)
    (h3 : (if 0 < k then if (ns.getD (k - 1).toNat 0 == 0) = true then true else false else false) = false) : ns.take k.toNat = trimP ns := by
  have hk : 0 ≤ k := by omega
  have e : trimP ns = trimP (ns.take k.toNat ++ ns.drop k.toNat) := by rw [List.take_append_drop]
  rw [e]
  symm
  refine dropWhile_rev_zero _ _ (fun x hx => ?_) fun x hx => ?_
  · obtain ⟨i, hi, rfl⟩ := List.mem_iff_getElem.mp hx
    rw [List.length_drop] at hi
    rw [List.getElem_drop]
    have := h2 (k + i + 1) (by omega) (by omega)
    rw [if_pos (by omega)] at this
    have e : (k + i + 1 - 1).toNat = k.toNat + i := by omega
    rw [e] at this
    have e3 : ns.getD (k.toNat + i) 0 = ns[k.toNat + i]'(by omega) := by simp [List.getD, (by omega : k.toNat + i < ns.length)]
    rw [e3] at this
    simpa using this
  · by_cases hz : 0 < k
    · rw [if_pos hz] at h3
      rw [List.getLast?_eq_getElem?, List.length_take, List.getElem?_take] at hx
      have e1 : min k.toNat ns.length - 1 = (k - 1).toNat := by omega
      rw [e1] at hx
      intro hx0
      subst hx0
      split at hx
      · have e4 : (k - 1).toNat = k.toNat - 1 := by omega
        rw [e4] at hx
        simp [List.getD, hx] at h3
      · cases hx
    · have : k = 0 := by omega
      subst this
      simp at hx

theorem ztrim_c (w : World) (l : Addr) (ns : List Int) (hz : ns.length < 2 ^ 20) : Con w 3 74 [.ref l] (HasL l ns) (RList (trimP ns)) := by
  w_top off
  k_with_none
  k_with "ktd_step" => (first | (refine' code_defG ?k1_q7 ?k2_q7 ?k3_q7 ?k4_q7 ?k5_q7 ?kA_q7 ?kF_q7 ?kK_q7 ?k6_q7 ?k7_q7 ?k8_q7 ?k9_q7 ?kB_q7 ?_ ?c2_q7 ?c3_q7 ?c4_q7 ?c5_q7; (case kA_q7 => exact rfl); (case kF_q7 => exact rfl); (case kK_q7 => assumption); (case k1_q7 => k_asm); (case k2_q7 => k_asm); (case k3_q7 => k_asm); (case k4_q7 => k_asm); (case k5_q7 => k_asm); (case k6_q7 => k_is); (case k7_q7 => k_is); (case k8_q7 => ktr_room); (case k9_q7 => exact BindsTo.of_eq rfl); (case c5_q7 => decide); (case kB_q7 => exact locs rfl); (case c2_q7 => exact rfl); (case c3_q7 => exact rfl); (case c4_q7 => exact rfl); k_whole; intro L' h' F' N' B' X' T'; (try dsimp only); (try k_fold)) | (refine' code_defGC ?k1_q7 ?k2_q7 ?k3_q7 ?k4_q7 ?k5_q7 ?kA_q7 ?kF_q7 ?kK_q7 ?k6_q7 ?k7_q7 ?k8_q7 ?k9_q7 ?kB_q7 ?kD_q7 ?_ ?c2_q7 ?c3_q7 ?c4_q7; (case kA_q7 => exact rfl); (case kF_q7 => exact rfl); (case kK_q7 => assumption); (case k1_q7 => k_asm); (case k2_q7 => k_asm); (case k3_q7 => k_asm); (case k4_q7 => k_asm); (case k5_q7 => k_asm); (case k6_q7 => k_is); (case k7_q7 => k_is); (case k8_q7 => ktr_room); (case k9_q7 => exact BindsTo.of_eq rfl); (case kB_q7 => exact rfl); (case kD_q7 => decide +kernel); (case c2_q7 => exact rfl); (case c3_q7 => exact rfl); (case c4_q7 => exact rfl); k_whole; intro L' h' tk' cells' F' N' Y' B' X' T'; k_cells Y'; (try dsimp only); (try k_fold)) | fail "step: no entry")
  k_with "ktr_step" => ((refine rlist_end (by assumption) (by assumption) (by assumption) (by assumption) (by assumption) (by assumption) List.mem_cons_self (by assumption) ?_))
  k_with "ktn_step" => ((refine rlist_end (vs := []) (by assumption) (by assumption) (by assumption) (by assumption) (by assumption) (by assumption) List.mem_cons_self IntsAre.nil ?_))
  k_with "ktf_step" => (first | assumption | exact lt_wid (by with_reducible assumption) (by k_dflt (exact rfl)) | k_dflt (exact Nat.le_of_ble_eq_true rfl) | l_fit)
  k_with "exec While Compare cons nil" => ((k_extra "while"))
  k_with "k_ne" => ((refine neN ?_; (try dsimp only); first | exact Apt.use (by assumption) (by k_mem) | exact Ne.symm (Apt.use (by assumption) (by k_mem)) | ((with_reducible rename (@Ne Nat _ _ ∧ _) ∧ _ => q9); first | with_reducible exact q9.1.1 | with_reducible exact Ne.symm q9.1.1 | with_reducible exact q9.1.2.1 | with_reducible exact Ne.symm q9.1.2.1 | with_reducible exact q9.1.2.2 | with_reducible exact Ne.symm q9.1.2.2 | with_reducible exact q9.1 | with_reducible exact Ne.symm q9.1 | with_reducible exact q9.2.1 | with_reducible exact Ne.symm q9.2.1 | with_reducible exact q9.2.2 | with_reducible exact Ne.symm q9.2.2 | with_reducible exact q9.2.1.1 | with_reducible exact Ne.symm q9.2.1.1 | with_reducible exact q9.2.1.2.1 | with_reducible exact Ne.symm q9.2.1.2.1 | with_reducible exact q9.2.1.2.2 | with_reducible exact Ne.symm q9.2.1.2.2 | with_reducible exact q9.2.2.1 | with_reducible exact Ne.symm q9.2.2.1 | with_reducible exact q9.2.2.2 | with_reducible exact Ne.symm q9.2.2.2 | with_reducible exact q9.2.2.1.1 | with_reducible exact Ne.symm q9.2.2.1.1 | with_reducible exact q9.2.2.1.2.1 | with_reducible exact Ne.symm q9.2.2.1.2.1 | with_reducible exact q9.2.2.1.2.2 | with_reducible exact Ne.symm q9.2.2.1.2.2 | with_reducible exact q9.2.2.2.1 | with_reducible exact Ne.symm q9.2.2.2.1 | with_reducible exact q9.2.2.2.2 | with_reducible exact Ne.symm q9.2.2.2.2 | with_reducible exact q9.2.2.2.1.1 | with_reducible exact Ne.symm q9.2.2.2.1.1 | with_reducible exact q9.2.2.2.1.2.1 | with_reducible exact Ne.symm q9.2.2.2.1.2.1 | with_reducible exact q9.2.2.2.1.2.2 | with_reducible exact Ne.symm q9.2.2.2.1.2.2 | with_reducible exact q9.2.2.2.2.1 | with_reducible exact Ne.symm q9.2.2.2.2.1 | with_reducible exact q9.2.2.2.2.2 | with_reducible exact Ne.symm q9.2.2.2.2.2 | with_reducible exact q9.2.2.2.2.1.1 | with_reducible exact Ne.symm q9.2.2.2.2.1.1 | with_reducible exact q9.2.2.2.2.1.2.1 | with_reducible exact Ne.symm q9.2.2.2.2.1.2.1 | with_reducible exact q9.2.2.2.2.1.2.2 | with_reducible exact Ne.symm q9.2.2.2.2.1.2.2 | with_reducible exact q9.2.2.2.2.2.1 | with_reducible exact Ne.symm q9.2.2.2.2.2.1 | with_reducible exact q9.2.2.2.2.2.2 | with_reducible exact Ne.symm q9.2.2.2.2.2.2) | ((with_reducible rename @Ne Nat _ _ ∧ _ => q9); first | with_reducible exact q9.1 | with_reducible exact Ne.symm q9.1 | with_reducible exact q9.2.1 | with_reducible exact Ne.symm q9.2.1 | with_reducible exact q9.2.2 | with_reducible exact Ne.symm q9.2.2)))
  k_with "execs cons" => ((dsimp only))
  k_with "eval BinOp" => ((dsimp only))
  k_with "storeName" => ((dsimp only))
  k_with "ktr_room" => ((first | exact room_of (by with_reducible assumption) (by k_dflt (exact rfl)) | exact room_in (by with_reducible assumption)))
  k_with "ktr_units" => ((exact room_of (by with_reducible assumption) (by k_dflt (exact rfl))))
  k_with "omega" => ((first | (with_reducible assumption) | exact lt_wid (by with_reducible assumption) (by k_dflt (exact rfl)) | exact le_wid (by with_reducible assumption) (by k_dflt (exact rfl)) | (k_dflt (exact Nat.le_of_ble_eq_true rfl)) | exact ilt_wid (And.right (by with_reducible assumption)) (by k_dflt (exact rfl)) | exact igt_wid (And.left (by with_reducible assumption)) (by k_dflt (exact rfl)) | (k_dflt decide) | exact Apt.use (by with_reducible assumption) (by k_mem) | exact Ne.symm (Apt.use (by with_reducible assumption) (by k_mem)) | ((repeat ((with_reducible rename (@Ne Nat _ _ ∧ _) ∧ _ => q9); clear q9)); (repeat ((with_reducible rename @Ne Nat _ _ ∧ _ => q9); clear q9)); (try clear hu); (try clear hd); omega +splitNatSub)))
  unfold Con
  k_fill
  intro dp un gd cn cs a ccd cl outer A₀ base h₀ L m news s Q E mean mg mb B F X N T hk hd hu hpre hret
  obtain ⟨vs, hl, hi⟩ := hpre
  refine wpAny_call ?_
  k_dflt ktd_step
  k_steps
  refine rlist_end hret N (by assumption) (by assumption) (by assumption) (by assumption) List.mem_cons_self (by assumption) ?_
  apply trim_of_mark <;> assumption
theorem trimP_le (a : List Int) : (trimP a).length ≤ a.length := by
  unfold trimP
  rw [List.length_reverse]
  have := List.IsSuffix.length_le (List.dropWhile_suffix (fun x : Int => x == 0) (l := a.reverse))
  rw [List.length_reverse] at this
  exact this
theorem le_trim {d ns : List Int} (e : d = trimP ns) : d.length ≤ ns.length := e ▸ trimP_le ns

end
section
-- needs: C1
def negP (ns : List Int) : List Int := ns.map Neg.neg
theorem zneg_c (w : World) (l : Addr) (ns : List Int) (hz : ns.length < 2 ^ 20) : Con w 3 98 [.ref l] (HasL l ns) (RList (negP ns)) := by
  w_top off
  k_with_none
  k_with "ktd_step" => (first | (refine' code_defG ?k1_q7 ?k2_q7 ?k3_q7 ?k4_q7 ?k5_q7 ?kA_q7 ?kF_q7 ?kK_q7 ?k6_q7 ?k7_q7 ?k8_q7 ?k9_q7 ?kB_q7 ?_ ?c2_q7 ?c3_q7 ?c4_q7 ?c5_q7; (case kA_q7 => exact rfl); (case kF_q7 => exact rfl); (case kK_q7 => assumption); (case k1_q7 => k_asm); (case k2_q7 => k_asm); (case k3_q7 => k_asm); (case k4_q7 => k_asm); (case k5_q7 => k_asm); (case k6_q7 => k_is); (case k7_q7 => k_is); (case k8_q7 => ktr_room); (case k9_q7 => exact BindsTo.of_eq rfl); (case c5_q7 => decide); (case kB_q7 => exact locs rfl); (case c2_q7 => exact rfl); (case c3_q7 => exact rfl); (case c4_q7 => exact rfl); k_whole; intro L' h' F' N' B' X' T'; (try dsimp only); (try k_fold)) | (refine' code_defGC ?k1_q7 ?k2_q7 ?k3_q7 ?k4_q7 ?k5_q7 ?kA_q7 ?kF_q7 ?kK_q7 ?k6_q7 ?k7_q7 ?k8_q7 ?k9_q7 ?kB_q7 ?kD_q7 ?_ ?c2_q7 ?c3_q7 ?c4_q7; (case kA_q7 => exact rfl); (case kF_q7 => exact rfl); (case kK_q7 => assumption); (case k1_q7 => k_asm); (case k2_q7 => k_asm); (case k3_q7 => k_asm); (case k4_q7 => k_asm); (case k5_q7 => k_asm); (case k6_q7 => k_is); (case k7_q7 => k_is); (case k8_q7 => ktr_room); (case k9_q7 => exact BindsTo.of_eq rfl); (case kB_q7 => exact rfl); (case kD_q7 => decide +kernel); (case c2_q7 => exact rfl); (case c3_q7 => exact rfl); (case c4_q7 => exact rfl); k_whole; intro L' h' tk' cells' F' N' Y' B' X' T'; k_cells Y'; (try dsimp only); (try k_fold)) | fail "step: no entry")
  k_with "ktr_step" => ((refine rlist_end (by assumption) (by assumption) (by assumption) (by assumption) (by assumption) (by assumption) List.mem_cons_self (by assumption) ?_))
  k_with "ktn_step" => ((refine rlist_end (vs := []) (by assumption) (by assumption) (by assumption) (by assumption) (by assumption) (by assumption) List.mem_cons_self IntsAre.nil ?_))
  k_with "ktf_step" => (first | assumption | exact lt_wid (by with_reducible assumption) (by k_dflt (exact rfl)) | k_dflt (exact Nat.le_of_ble_eq_true rfl) | l_fit)
  k_with "exec While Compare cons nil" => ((k_extra "while"))
  k_with "k_ne" => ((refine neN ?_; (try dsimp only); first | exact Apt.use (by assumption) (by k_mem) | exact Ne.symm (Apt.use (by assumption) (by k_mem)) | ((with_reducible rename (@Ne Nat _ _ ∧ _) ∧ _ => q9); first | with_reducible exact q9.1.1 | with_reducible exact Ne.symm q9.1.1 | with_reducible exact q9.1.2.1 | with_reducible exact Ne.symm q9.1.2.1 | with_reducible exact q9.1.2.2 | with_reducible exact Ne.symm q9.1.2.2 | with_reducible exact q9.1 | with_reducible exact Ne.symm q9.1 | with_reducible exact q9.2.1 | with_reducible exact Ne.symm q9.2.1 | with_reducible exact q9.2.2 | with_reducible exact Ne.symm q9.2.2 | with_reducible exact q9.2.1.1 | with_reducible exact Ne.symm q9.2.1.1 | with_reducible exact q9.2.1.2.1 | with_reducible exact Ne.symm q9.2.1.2.1 | with_reducible exact q9.2.1.2.2 | with_reducible exact Ne.symm q9.2.1.2.2 | with_reducible exact q9.2.2.1 | with_reducible exact Ne.symm q9.2.2.1 | with_reducible exact q9.2.2.2 | with_reducible exact Ne.symm q9.2.2.2 | with_reducible exact q9.2.2.1.1 | with_reducible exact Ne.symm q9.2.2.1.1 | with_reducible exact q9.2.2.1.2.1 | with_reducible exact Ne.symm q9.2.2.1.2.1 | with_reducible exact q9.2.2.1.2.2 | with_reducible exact Ne.symm q9.2.2.1.2.2 | with_reducible exact q9.2.2.2.1 | with_reducible exact Ne.symm q9.2.2.2.1 | with_reducible exact q9.2.2.2.2 | with_reducible exact Ne.symm q9.2.2.2.2 | with_reducible exact q9.2.2.2.1.1 | with_reducible exact Ne.symm q9.2.2.2.1.1 | with_reducible exact q9.2.2.2.1.2.1 | with_reducible exact Ne.symm q9.2.2.2.1.2.1 | with_reducible exact q9.2.2.2.1.2.2 | with_reducible exact Ne.symm q9.2.2.2.1.2.2 | with_reducible exact q9.2.2.2.2.1 | with_reducible exact Ne.symm q9.2.2.2.2.1 | with_reducible exact q9.2.2.2.2.2 | with_reducible exact Ne.symm q9.2.2.2.2.2 | with_reducible exact q9.2.2.2.2.1.1 | with_reducible exact Ne.symm q9.2.2.2.2.1.1 | with_reducible exact q9.2.2.2.2.1.2.1 | with_reducible exact Ne.symm q9.2.2.2.2.1.2.1 | with_reducible exact q9.2.2.2.2.1.2.2 | with_reducible exact Ne.symm q9.2.2.2.2.1.2.2 | with_reducible exact q9.2.2.2.2.2.1 | with_reducible exact Ne.symm q9.2.2.2.2.2.1 | with_reducible exact q9.2.2.2.2.2.2 | with_reducible exact Ne.symm q9.2.2.2.2.2.2) | ((with_reducible rename @Ne Nat _ _ ∧ _ => q9); first | with_reducible exact q9.1 | with_reducible exact Ne.symm q9.1 | with_reducible exact q9.2.1 | with_reducible exact Ne.symm q9.2.1 | with_reducible exact q9.2.2 | with_reducible exact Ne.symm q9.2.2)))
  k_with "execs cons" => ((dsimp only))
  k_with "eval BinOp" => ((dsimp only))
  k_with "storeName" => ((dsimp only))
  k_with "ktr_room" => ((first | exact room_of (by with_reducible assumption) (by k_dflt (exact rfl)) | exact room_in (by with_reducible assumption)))
  k_with "ktr_units" => ((exact room_of (by with_reducible assumption) (by k_dflt (exact rfl))))
  k_with "omega" => ((first | (with_reducible assumption) | exact lt_wid (by with_reducible assumption) (by k_dflt (exact rfl)) | exact le_wid (by with_reducible assumption) (by k_dflt (exact rfl)) | (k_dflt (exact Nat.le_of_ble_eq_true rfl)) | exact ilt_wid (And.right (by with_reducible assumption)) (by k_dflt (exact rfl)) | exact igt_wid (And.left (by with_reducible assumption)) (by k_dflt (exact rfl)) | (k_dflt decide) | exact Apt.use (by with_reducible assumption) (by k_mem) | exact Ne.symm (Apt.use (by with_reducible assumption) (by k_mem)) | ((repeat ((with_reducible rename (@Ne Nat _ _ ∧ _) ∧ _ => q9); clear q9)); (repeat ((with_reducible rename @Ne Nat _ _ ∧ _ => q9); clear q9)); (try clear hu); (try clear hd); omega +splitNatSub)))
  k_with "call ref" => ((k_here; k_dflt ((refine' con_use (ztrim_c _ _ _ ?hz_q7) ?k1_q7 ?k2_q7 ?k3_q7 ?k4_q7 ?k5_q7 ?kK_q7 ?kd_q7 ?ku_q7 ?kp_q7 ?_; (case kp_q7 => exact hasL_of (by is_list) (by l_ints)); (case hz_q7 => ktf_step); (case k1_q7 => k_asm); (case k2_q7 => k_asm); (case k3_q7 => k_asm); (case k4_q7 => k_asm); (case k5_q7 => k_asm); (case kK_q7 => first | exact rfl | assumption); (case kd_q7 => ktr_room); (case ku_q7 => ktr_units); k_whole); intro l' vs' n' h' tk' F' N' l1 I' e1; (replace l1 := Apt.of l1); (obtain ⟨d9, I9, e9⟩ := ints_hide I'); clear I' e1; (have b9 := le_trim e9); (try simp only [List.length_cons, List.length_nil] at b9); (try k_sweep))))
  unfold Con
  k_fill
  intro dp un gd cn cs aa ccd cl outer A₀ base h₀ L m news s Q E mean mg mb B F X N T hk hd hu hpre hret
  obtain ⟨vs, hl, hi⟩ := hpre
  refine wpAny_call ?_
  k_dflt ktd_step
  k_steps
  ktr_step
  rfl
def scaleP (ns : List Int) (k : Int) : List Int := if k = 0 then [] else ns.map fun x => x * k
theorem zscale_c (w : World) (l : Addr) (ns : List Int) (k : Int) (t : Tok) (hz : ns.length < 2 ^ 20) (hk : -2 ^ 60 < k ∧ k < 2 ^ 60) : Con w 3 110 [.ref l, .int k t] (HasL l ns) (RList (scaleP ns k)) := by
  w_top off
  k_with_none
  k_with "ktd_step" => (first | (refine' code_defG ?k1_q7 ?k2_q7 ?k3_q7 ?k4_q7 ?k5_q7 ?kA_q7 ?kF_q7 ?kK_q7 ?k6_q7 ?k7_q7 ?k8_q7 ?k9_q7 ?kB_q7 ?_ ?c2_q7 ?c3_q7 ?c4_q7 ?c5_q7; (case kA_q7 => exact rfl); (case kF_q7 => exact rfl); (case kK_q7 => assumption); (case k1_q7 => k_asm); (case k2_q7 => k_asm); (case k3_q7 => k_asm); (case k4_q7 => k_asm); (case k5_q7 => k_asm); (case k6_q7 => k_is); (case k7_q7 => k_is); (case k8_q7 => ktr_room); (case k9_q7 => exact BindsTo.of_eq rfl); (case c5_q7 => decide); (case kB_q7 => exact locs rfl); (case c2_q7 => exact rfl); (case c3_q7 => exact rfl); (case c4_q7 => exact rfl); k_whole; intro L' h' F' N' B' X' T'; (try dsimp only); (try k_fold)) | (refine' code_defGC ?k1_q7 ?k2_q7 ?k3_q7 ?k4_q7 ?k5_q7 ?kA_q7 ?kF_q7 ?kK_q7 ?k6_q7 ?k7_q7 ?k8_q7 ?k9_q7 ?kB_q7 ?kD_q7 ?_ ?c2_q7 ?c3_q7 ?c4_q7; (case kA_q7 => exact rfl); (case kF_q7 => exact rfl); (case kK_q7 => assumption); (case k1_q7 => k_asm); (case k2_q7 => k_asm); (case k3_q7 => k_asm); (case k4_q7 => k_asm); (case k5_q7 => k_asm); (case k6_q7 => k_is); (case k7_q7 => k_is); (case k8_q7 => ktr_room); (case k9_q7 => exact BindsTo.of_eq rfl); (case kB_q7 => exact rfl); (case kD_q7 => decide +kernel); (case c2_q7 => exact rfl); (case c3_q7 => exact rfl); (case c4_q7 => exact rfl); k_whole; intro L' h' tk' cells' F' N' Y' B' X' T'; k_cells Y'; (try dsimp only); (try k_fold)) | fail "step: no entry")
  k_with "ktr_step" => ((refine rlist_end (by assumption) (by assumption) (by assumption) (by assumption) (by assumption) (by assumption) List.mem_cons_self (by assumption) ?_))
  k_with "ktn_step" => ((refine rlist_end (vs := []) (by assumption) (by assumption) (by assumption) (by assumption) (by assumption) (by assumption) List.mem_cons_self IntsAre.nil ?_))
  k_with "ktf_step" => (first | assumption | exact lt_wid (by with_reducible assumption) (by k_dflt (exact rfl)) | k_dflt (exact Nat.le_of_ble_eq_true rfl) | l_fit)
  k_with "exec While Compare cons nil" => ((k_extra "while"))
  k_with "k_ne" => ((refine neN ?_; (try dsimp only); first | exact Apt.use (by assumption) (by k_mem) | exact Ne.symm (Apt.use (by assumption) (by k_mem)) | ((with_reducible rename (@Ne Nat _ _ ∧ _) ∧ _ => q9); first | with_reducible exact q9.1.1 | with_reducible exact Ne.symm q9.1.1 | with_reducible exact q9.1.2.1 | with_reducible exact Ne.symm q9.1.2.1 | with_reducible exact q9.1.2.2 | with_reducible exact Ne.symm q9.1.2.2 | with_reducible exact q9.1 | with_reducible exact Ne.symm q9.1 | with_reducible exact q9.2.1 | with_reducible exact Ne.symm q9.2.1 | with_reducible exact q9.2.2 | with_reducible exact Ne.symm q9.2.2 | with_reducible exact q9.2.1.1 | with_reducible exact Ne.symm q9.2.1.1 | with_reducible exact q9.2.1.2.1 | with_reducible exact Ne.symm q9.2.1.2.1 | with_reducible exact q9.2.1.2.2 | with_reducible exact Ne.symm q9.2.1.2.2 | with_reducible exact q9.2.2.1 | with_reducible exact Ne.symm q9.2.2.1 | with_reducible exact q9.2.2.2 | with_reducible exact Ne.symm q9.2.2.2 | with_reducible exact q9.2.2.1.1 | with_reducible exact Ne.symm q9.2.2.1.1 | with_reducible exact q9.2.2.1.2.1 | with_reducible exact Ne.symm q9.2.2.1.2.1 | with_reducible exact q9.2.2.1.2.2 | with_reducible exact Ne.symm q9.2.2.1.2.2 | with_reducible exact q9.2.2.2.1 | with_reducible exact Ne.symm q9.2.2.2.1 | with_reducible exact q9.2.2.2.2 | with_reducible exact Ne.symm q9.2.2.2.2 | with_reducible exact q9.2.2.2.1.1 | with_reducible exact Ne.symm q9.2.2.2.1.1 | with_reducible exact q9.2.2.2.1.2.1 | with_reducible exact Ne.symm q9.2.2.2.1.2.1 | with_reducible exact q9.2.2.2.1.2.2 | with_reducible exact Ne.symm q9.2.2.2.1.2.2 | with_reducible exact q9.2.2.2.2.1 | with_reducible exact Ne.symm q9.2.2.2.2.1 | with_reducible exact q9.2.2.2.2.2 | with_reducible exact Ne.symm q9.2.2.2.2.2 | with_reducible exact q9.2.2.2.2.1.1 | with_reducible exact Ne.symm q9.2.2.2.2.1.1 | with_reducible exact q9.2.2.2.2.1.2.1 | with_reducible exact Ne.symm q9.2.2.2.2.1.2.1 | with_reducible exact q9.2.2.2.2.1.2.2 | with_reducible exact Ne.symm q9.2.2.2.2.1.2.2 | with_reducible exact q9.2.2.2.2.2.1 | with_reducible exact Ne.symm q9.2.2.2.2.2.1 | with_reducible exact q9.2.2.2.2.2.2 | with_reducible exact Ne.symm q9.2.2.2.2.2.2) | ((with_reducible rename @Ne Nat _ _ ∧ _ => q9); first | with_reducible exact q9.1 | with_reducible exact Ne.symm q9.1 | with_reducible exact q9.2.1 | with_reducible exact Ne.symm q9.2.1 | with_reducible exact q9.2.2 | with_reducible exact Ne.symm q9.2.2)))
  k_with "execs cons" => ((dsimp only))
  k_with "eval BinOp" => ((dsimp only))
  k_with "storeName" => ((dsimp only))
  k_with "ktr_room" => ((first | exact room_of (by with_reducible assumption) (by k_dflt (exact rfl)) | exact room_in (by with_reducible assumption)))
  k_with "ktr_units" => ((exact room_of (by with_reducible assumption) (by k_dflt (exact rfl))))
  k_with "omega" => ((first | (with_reducible assumption) | exact lt_wid (by with_reducible assumption) (by k_dflt (exact rfl)) | exact le_wid (by with_reducible assumption) (by k_dflt (exact rfl)) | (k_dflt (exact Nat.le_of_ble_eq_true rfl)) | exact ilt_wid (And.right (by with_reducible assumption)) (by k_dflt (exact rfl)) | exact igt_wid (And.left (by with_reducible assumption)) (by k_dflt (exact rfl)) | (k_dflt decide) | exact Apt.use (by with_reducible assumption) (by k_mem) | exact Ne.symm (Apt.use (by with_reducible assumption) (by k_mem)) | ((repeat ((with_reducible rename (@Ne Nat _ _ ∧ _) ∧ _ => q9); clear q9)); (repeat ((with_reducible rename @Ne Nat _ _ ∧ _ => q9); clear q9)); (try clear hu); (try clear hd); omega +splitNatSub)))
  k_with "call ref" => ((k_here; k_dflt ((refine' con_use (ztrim_c _ _ _ ?hz_q7) ?k1_q7 ?k2_q7 ?k3_q7 ?k4_q7 ?k5_q7 ?kK_q7 ?kd_q7 ?ku_q7 ?kp_q7 ?_; (case kp_q7 => exact hasL_of (by is_list) (by l_ints)); (case hz_q7 => ktf_step); (case k1_q7 => k_asm); (case k2_q7 => k_asm); (case k3_q7 => k_asm); (case k4_q7 => k_asm); (case k5_q7 => k_asm); (case kK_q7 => first | exact rfl | assumption); (case kd_q7 => ktr_room); (case ku_q7 => ktr_units); k_whole); intro l' vs' n' h' tk' F' N' l1 I' e1; (replace l1 := Apt.of l1); (obtain ⟨d9, I9, e9⟩ := ints_hide I'); clear I' e1; (have b9 := le_trim e9); (try simp only [List.length_cons, List.length_nil] at b9); (try k_sweep))))
  unfold Con
  k_fill
  intro dp un gd cn cs aa ccd cl outer A₀ base h₀ L m news s Q E mean mg mb B F X N T hk hd hu hpre hret
  obtain ⟨vs, hl, hi⟩ := hpre
  refine wpAny_call ?_
  k_dflt ktd_step
  k_steps
  · ktr_step
    rw [scaleP, if_neg (by assumption)]
  · ktn_step
    rw [scaleP, if_pos (by assumption)]
def raiseP (ns : List Int) (k : Int) : List Int := if ns.length = 0 then [] else List.replicate k.toNat 0 ++ ns
theorem flat_rep {α : Type} (x : α) : ∀ n, (List.replicate n [x]).flatten = List.replicate n x
  | 0 => rfl
  | n + 1 => by rw [List.replicate_succ, List.replicate_succ, List.flatten_cons, flat_rep x n]; rfl
theorem zraise_c (w : World) (l : Addr) (ns : List Int) (k : Int) (t : Tok) (hz : ns.length < 2 ^ 20) (hk : 0 ≤ k ∧ k < 2 ^ 18) : Con w 3 117 [.ref l, .int k t] (HasL l ns) (RList (raiseP ns k)) := by
  w_top off
  k_with_none
  k_with "ktd_step" => (first | (refine' code_defG ?k1_q7 ?k2_q7 ?k3_q7 ?k4_q7 ?k5_q7 ?kA_q7 ?kF_q7 ?kK_q7 ?k6_q7 ?k7_q7 ?k8_q7 ?k9_q7 ?kB_q7 ?_ ?c2_q7 ?c3_q7 ?c4_q7 ?c5_q7; (case kA_q7 => exact rfl); (case kF_q7 => exact rfl); (case kK_q7 => assumption); (case k1_q7 => k_asm); (case k2_q7 => k_asm); (case k3_q7 => k_asm); (case k4_q7 => k_asm); (case k5_q7 => k_asm); (case k6_q7 => k_is); (case k7_q7 => k_is); (case k8_q7 => ktr_room); (case k9_q7 => exact BindsTo.of_eq rfl); (case c5_q7 => decide); (case kB_q7 => exact locs rfl); (case c2_q7 => exact rfl); (case c3_q7 => exact rfl); (case c4_q7 => exact rfl); k_whole; intro L' h' F' N' B' X' T'; (try dsimp only); (try k_fold)) | (refine' code_defGC ?k1_q7 ?k2_q7 ?k3_q7 ?k4_q7 ?k5_q7 ?kA_q7 ?kF_q7 ?kK_q7 ?k6_q7 ?k7_q7 ?k8_q7 ?k9_q7 ?kB_q7 ?kD_q7 ?_ ?c2_q7 ?c3_q7 ?c4_q7; (case kA_q7 => exact rfl); (case kF_q7 => exact rfl); (case kK_q7 => assumption); (case k1_q7 => k_asm); (case k2_q7 => k_asm); (case k3_q7 => k_asm); (case k4_q7 => k_asm); (case k5_q7 => k_asm); (case k6_q7 => k_is); (case k7_q7 => k_is); (case k8_q7 => ktr_room); (case k9_q7 => exact BindsTo.of_eq rfl); (case kB_q7 => exact rfl); (case kD_q7 => decide +kernel); (case c2_q7 => exact rfl); (case c3_q7 => exact rfl); (case c4_q7 => exact rfl); k_whole; intro L' h' tk' cells' F' N' Y' B' X' T'; k_cells Y'; (try dsimp only); (try k_fold)) | fail "step: no entry")
  k_with "ktr_step" => ((refine rlist_end (by assumption) (by assumption) (by assumption) (by assumption) (by assumption) (by assumption) List.mem_cons_self (by assumption) ?_))
  k_with "ktn_step" => ((refine rlist_end (vs := []) (by assumption) (by assumption) (by assumption) (by assumption) (by assumption) (by assumption) List.mem_cons_self IntsAre.nil ?_))
  k_with "ktf_step" => (first | assumption | exact lt_wid (by with_reducible assumption) (by k_dflt (exact rfl)) | k_dflt (exact Nat.le_of_ble_eq_true rfl) | l_fit)
  k_with "exec While Compare cons nil" => ((k_extra "while"))
  k_with "k_ne" => ((refine neN ?_; (try dsimp only); first | exact Apt.use (by assumption) (by k_mem) | exact Ne.symm (Apt.use (by assumption) (by k_mem)) | ((with_reducible rename (@Ne Nat _ _ ∧ _) ∧ _ => q9); first | with_reducible exact q9.1.1 | with_reducible exact Ne.symm q9.1.1 | with_reducible exact q9.1.2.1 | with_reducible exact Ne.symm q9.1.2.1 | with_reducible exact q9.1.2.2 | with_reducible exact Ne.symm q9.1.2.2 | with_reducible exact q9.1 | with_reducible exact Ne.symm q9.1 | with_reducible exact q9.2.1 | with_reducible exact Ne.symm q9.2.1 | with_reducible exact q9.2.2 | with_reducible exact Ne.symm q9.2.2 | with_reducible exact q9.2.1.1 | with_reducible exact Ne.symm q9.2.1.1 | with_reducible exact q9.2.1.2.1 | with_reducible exact Ne.symm q9.2.1.2.1 | with_reducible exact q9.2.1.2.2 | with_reducible exact Ne.symm q9.2.1.2.2 | with_reducible exact q9.2.2.1 | with_reducible exact Ne.symm q9.2.2.1 | with_reducible exact q9.2.2.2 | with_reducible exact Ne.symm q9.2.2.2 | with_reducible exact q9.2.2.1.1 | with_reducible exact Ne.symm q9.2.2.1.1 | with_reducible exact q9.2.2.1.2.1 | with_reducible exact Ne.symm q9.2.2.1.2.1 | with_reducible exact q9.2.2.1.2.2 | with_reducible exact Ne.symm q9.2.2.1.2.2 | with_reducible exact q9.2.2.2.1 | with_reducible exact Ne.symm q9.2.2.2.1 | with_reducible exact q9.2.2.2.2 | with_reducible exact Ne.symm q9.2.2.2.2 | with_reducible exact q9.2.2.2.1.1 | with_reducible exact Ne.symm q9.2.2.2.1.1 | with_reducible exact q9.2.2.2.1.2.1 | with_reducible exact Ne.symm q9.2.2.2.1.2.1 | with_reducible exact q9.2.2.2.1.2.2 | with_reducible exact Ne.symm q9.2.2.2.1.2.2 | with_reducible exact q9.2.2.2.2.1 | with_reducible exact Ne.symm q9.2.2.2.2.1 | with_reducible exact q9.2.2.2.2.2 | with_reducible exact Ne.symm q9.2.2.2.2.2 | with_reducible exact q9.2.2.2.2.1.1 | with_reducible exact Ne.symm q9.2.2.2.2.1.1 | with_reducible exact q9.2.2.2.2.1.2.1 | with_reducible exact Ne.symm q9.2.2.2.2.1.2.1 | with_reducible exact q9.2.2.2.2.1.2.2 | with_reducible exact Ne.symm q9.2.2.2.2.1.2.2 | with_reducible exact q9.2.2.2.2.2.1 | with_reducible exact Ne.symm q9.2.2.2.2.2.1 | with_reducible exact q9.2.2.2.2.2.2 | with_reducible exact Ne.symm q9.2.2.2.2.2.2) | ((with_reducible rename @Ne Nat _ _ ∧ _ => q9); first | with_reducible exact q9.1 | with_reducible exact Ne.symm q9.1 | with_reducible exact q9.2.1 | with_reducible exact Ne.symm q9.2.1 | with_reducible exact q9.2.2 | with_reducible exact Ne.symm q9.2.2)))
  k_with "execs cons" => ((dsimp only))
  k_with "eval BinOp" => ((dsimp only))
  k_with "storeName" => ((dsimp only))
  k_with "ktr_room" => ((first | exact room_of (by with_reducible assumption) (by k_dflt (exact rfl)) | exact room_in (by with_reducible assumption)))
  k_with "ktr_units" => ((exact room_of (by with_reducible assumption) (by k_dflt (exact rfl))))
  k_with "omega" => ((first | (with_reducible assumption) | exact lt_wid (by with_reducible assumption) (by k_dflt (exact rfl)) | exact le_wid (by with_reducible assumption) (by k_dflt (exact rfl)) | (k_dflt (exact Nat.le_of_ble_eq_true rfl)) | exact ilt_wid (And.right (by with_reducible assumption)) (by k_dflt (exact rfl)) | exact igt_wid (And.left (by with_reducible assumption)) (by k_dflt (exact rfl)) | (k_dflt decide) | exact Apt.use (by with_reducible assumption) (by k_mem) | exact Ne.symm (Apt.use (by with_reducible assumption) (by k_mem)) | ((repeat ((with_reducible rename (@Ne Nat _ _ ∧ _) ∧ _ => q9); clear q9)); (repeat ((with_reducible rename @Ne Nat _ _ ∧ _ => q9); clear q9)); (try clear hu); (try clear hd); omega +splitNatSub)))
  k_with "call ref" => ((k_here; k_dflt ((refine' con_use (ztrim_c _ _ _ ?hz_q7) ?k1_q7 ?k2_q7 ?k3_q7 ?k4_q7 ?k5_q7 ?kK_q7 ?kd_q7 ?ku_q7 ?kp_q7 ?_; (case kp_q7 => exact hasL_of (by is_list) (by l_ints)); (case hz_q7 => ktf_step); (case k1_q7 => k_asm); (case k2_q7 => k_asm); (case k3_q7 => k_asm); (case k4_q7 => k_asm); (case k5_q7 => k_asm); (case kK_q7 => first | exact rfl | assumption); (case kd_q7 => ktr_room); (case ku_q7 => ktr_units); k_whole); intro l' vs' n' h' tk' F' N' l1 I' e1; (replace l1 := Apt.of l1); (obtain ⟨d9, I9, e9⟩ := ints_hide I'); clear I' e1; (have b9 := le_trim e9); (try simp only [List.length_cons, List.length_nil] at b9); (try k_sweep))))
  unfold Con
  k_fill
  intro dp un gd cn cs aa ccd cl outer A₀ base h₀ L m news s Q E mean mg mb B F X N T hk hd hu hpre hret
  obtain ⟨vs, hl, hi⟩ := hpre
  refine wpAny_call ?_
  k_dflt ktd_step
  k_steps
  · ktr_step
    rw [raiseP, if_neg (by omega), flat_rep]
  · ktn_step
    rw [raiseP, if_pos (by omega)]
def addP (a b : List Int) : List Int := trimP ((List.range (max a.length b.length)).map fun i => a.getD i 0 + b.getD i 0)
theorem addP_of (a b : List Int) : trimP (List.map (fun k' : Int => if k' < (a.length : Int) ∧ k' < (b.length : Int) then a.getD k'.toNat 0 + b.getD k'.toNat 0 else if k' < (a.length : Int) ∧ ¬k' < (b.length : Int) then a.getD k'.toNat 0 + 0 else 0 + b.getD k'.toNat 0) (rangeKs 0 ((if (b.length : Int) > (a.length : Int) then (b.length : Int) else (a.length : Int)) - 0).toNat)) = addP a b := by
  unfold addP
  congr 1
  have e : ((if (b.length : Int) > (a.length : Int) then (b.length : Int) else (a.length : Int)) - 0).toNat = max a.length b.length := by split <;> omega
  rw [e, rangeKs, List.map_map]
  refine List.map_congr_left fun i hi => ?_
  simp only [Function.comp, Int.zero_add, Int.toNat_natCast]
  have g : ∀ (xs : List Int), ¬ (i : Int) < (xs.length : Int) → xs.getD i 0 = 0 := fun xs h => by
    have : xs.length ≤ i := by omega
    simp [List.getD, this]
  split
  · rfl
  · split
    · next h => rw [g b h.2]
    · next h1 h2 =>
      have : ¬ (i : Int) < (a.length : Int) := by omega
      rw [g a this]; omega
theorem zadd_c (w : World) (la lb : Addr) (a b : List Int) (hz : a.length < 2 ^ 19) (hz2 : b.length < 2 ^ 19) : Con w 6 93 [.ref la, .ref lb] (fun h => HasL la a h ∧ HasL lb b h) (RList (addP a b)) := by
  w_top off
  k_with_none
  k_with "ktd_step" => (first | (refine' code_defG ?k1_q7 ?k2_q7 ?k3_q7 ?k4_q7 ?k5_q7 ?kA_q7 ?kF_q7 ?kK_q7 ?k6_q7 ?k7_q7 ?k8_q7 ?k9_q7 ?kB_q7 ?_ ?c2_q7 ?c3_q7 ?c4_q7 ?c5_q7; (case kA_q7 => exact rfl); (case kF_q7 => exact rfl); (case kK_q7 => assumption); (case k1_q7 => k_asm); (case k2_q7 => k_asm); (case k3_q7 => k_asm); (case k4_q7 => k_asm); (case k5_q7 => k_asm); (case k6_q7 => k_is); (case k7_q7 => k_is); (case k8_q7 => ktr_room); (case k9_q7 => exact BindsTo.of_eq rfl); (case c5_q7 => decide); (case kB_q7 => exact locs rfl); (case c2_q7 => exact rfl); (case c3_q7 => exact rfl); (case c4_q7 => exact rfl); k_whole; intro L' h' F' N' B' X' T'; (try dsimp only); (try k_fold)) | (refine' code_defGC ?k1_q7 ?k2_q7 ?k3_q7 ?k4_q7 ?k5_q7 ?kA_q7 ?kF_q7 ?kK_q7 ?k6_q7 ?k7_q7 ?k8_q7 ?k9_q7 ?kB_q7 ?kD_q7 ?_ ?c2_q7 ?c3_q7 ?c4_q7; (case kA_q7 => exact rfl); (case kF_q7 => exact rfl); (case kK_q7 => assumption); (case k1_q7 => k_asm); (case k2_q7 => k_asm); (case k3_q7 => k_asm); (case k4_q7 => k_asm); (case k5_q7 => k_asm); (case k6_q7 => k_is); (case k7_q7 => k_is); (case k8_q7 => ktr_room); (case k9_q7 => exact BindsTo.of_eq rfl); (case kB_q7 => exact rfl); (case kD_q7 => decide +kernel); (case c2_q7 => exact rfl); (case c3_q7 => exact rfl); (case c4_q7 => exact rfl); k_whole; intro L' h' tk' cells' F' N' Y' B' X' T'; k_cells Y'; (try dsimp only); (try k_fold)) | fail "step: no entry")
  k_with "ktr_step" => ((refine rlist_end (by assumption) (by assumption) (by assumption) (by assumption) (by assumption) (by assumption) List.mem_cons_self (by assumption) ?_))
  k_with "ktn_step" => ((refine rlist_end (vs := []) (by assumption) (by assumption) (by assumption) (by assumption) (by assumption) (by assumption) List.mem_cons_self IntsAre.nil ?_))
  k_with "ktf_step" => (first | assumption | exact lt_wid (by with_reducible assumption) (by k_dflt (exact rfl)) | k_dflt (exact Nat.le_of_ble_eq_true rfl) | l_fit)
  k_with "exec While Compare cons nil" => ((k_extra "while"))
  k_with "k_ne" => ((refine neN ?_; (try dsimp only); first | exact Apt.use (by assumption) (by k_mem) | exact Ne.symm (Apt.use (by assumption) (by k_mem)) | ((with_reducible rename (@Ne Nat _ _ ∧ _) ∧ _ => q9); first | with_reducible exact q9.1.1 | with_reducible exact Ne.symm q9.1.1 | with_reducible exact q9.1.2.1 | with_reducible exact Ne.symm q9.1.2.1 | with_reducible exact q9.1.2.2 | with_reducible exact Ne.symm q9.1.2.2 | with_reducible exact q9.1 | with_reducible exact Ne.symm q9.1 | with_reducible exact q9.2.1 | with_reducible exact Ne.symm q9.2.1 | with_reducible exact q9.2.2 | with_reducible exact Ne.symm q9.2.2 | with_reducible exact q9.2.1.1 | with_reducible exact Ne.symm q9.2.1.1 | with_reducible exact q9.2.1.2.1 | with_reducible exact Ne.symm q9.2.1.2.1 | with_reducible exact q9.2.1.2.2 | with_reducible exact Ne.symm q9.2.1.2.2 | with_reducible exact q9.2.2.1 | with_reducible exact Ne.symm q9.2.2.1 | with_reducible exact q9.2.2.2 | with_reducible exact Ne.symm q9.2.2.2 | with_reducible exact q9.2.2.1.1 | with_reducible exact Ne.symm q9.2.2.1.1 | with_reducible exact q9.2.2.1.2.1 | with_reducible exact Ne.symm q9.2.2.1.2.1 | with_reducible exact q9.2.2.1.2.2 | with_reducible exact Ne.symm q9.2.2.1.2.2 | with_reducible exact q9.2.2.2.1 | with_reducible exact Ne.symm q9.2.2.2.1 | with_reducible exact q9.2.2.2.2 | with_reducible exact Ne.symm q9.2.2.2.2 | with_reducible exact q9.2.2.2.1.1 | with_reducible exact Ne.symm q9.2.2.2.1.1 | with_reducible exact q9.2.2.2.1.2.1 | with_reducible exact Ne.symm q9.2.2.2.1.2.1 | with_reducible exact q9.2.2.2.1.2.2 | with_reducible exact Ne.symm q9.2.2.2.1.2.2 | with_reducible exact q9.2.2.2.2.1 | with_reducible exact Ne.symm q9.2.2.2.2.1 | with_reducible exact q9.2.2.2.2.2 | with_reducible exact Ne.symm q9.2.2.2.2.2 | with_reducible exact q9.2.2.2.2.1.1 | with_reducible exact Ne.symm q9.2.2.2.2.1.1 | with_reducible exact q9.2.2.2.2.1.2.1 | with_reducible exact Ne.symm q9.2.2.2.2.1.2.1 | with_reducible exact q9.2.2.2.2.1.2.2 | with_reducible exact Ne.symm q9.2.2.2.2.1.2.2 | with_reducible exact q9.2.2.2.2.2.1 | with_reducible exact Ne.symm q9.2.2.2.2.2.1 | with_reducible exact q9.2.2.2.2.2.2 | with_reducible exact Ne.symm q9.2.2.2.2.2.2) | ((with_reducible rename @Ne Nat _ _ ∧ _ => q9); first | with_reducible exact q9.1 | with_reducible exact Ne.symm q9.1 | with_reducible exact q9.2.1 | with_reducible exact Ne.symm q9.2.1 | with_reducible exact q9.2.2 | with_reducible exact Ne.symm q9.2.2)))
  k_with "execs cons" => ((dsimp only))
  k_with "eval BinOp" => ((dsimp only))
  k_with "storeName" => ((dsimp only))
  k_with "ktr_room" => ((first | exact room_of (by with_reducible assumption) (by k_dflt (exact rfl)) | exact room_in (by with_reducible assumption)))
  k_with "ktr_units" => ((exact room_of (by with_reducible assumption) (by k_dflt (exact rfl))))
  k_with "omega" => ((first | (with_reducible assumption) | exact lt_wid (by with_reducible assumption) (by k_dflt (exact rfl)) | exact le_wid (by with_reducible assumption) (by k_dflt (exact rfl)) | (k_dflt (exact Nat.le_of_ble_eq_true rfl)) | exact ilt_wid (And.right (by with_reducible assumption)) (by k_dflt (exact rfl)) | exact igt_wid (And.left (by with_reducible assumption)) (by k_dflt (exact rfl)) | (k_dflt decide) | exact Apt.use (by with_reducible assumption) (by k_mem) | exact Ne.symm (Apt.use (by with_reducible assumption) (by k_mem)) | ((repeat ((with_reducible rename (@Ne Nat _ _ ∧ _) ∧ _ => q9); clear q9)); (repeat ((with_reducible rename @Ne Nat _ _ ∧ _ => q9); clear q9)); (try clear hu); (try clear hd); omega +splitNatSub)))
  k_with "call ref" => ((k_here; k_dflt ((refine' con_use (ztrim_c _ _ _ ?hz_q7) ?k1_q7 ?k2_q7 ?k3_q7 ?k4_q7 ?k5_q7 ?kK_q7 ?kd_q7 ?ku_q7 ?kp_q7 ?_; (case kp_q7 => exact hasL_of (by is_list) (by l_ints)); (case hz_q7 => ktf_step); (case k1_q7 => k_asm); (case k2_q7 => k_asm); (case k3_q7 => k_asm); (case k4_q7 => k_asm); (case k5_q7 => k_asm); (case kK_q7 => first | exact rfl | assumption); (case kd_q7 => ktr_room); (case ku_q7 => ktr_units); k_whole); intro l' vs' n' h' tk' F' N' l1 I' e1; (replace l1 := Apt.of l1); (obtain ⟨d9, I9, e9⟩ := ints_hide I'); clear I' e1; (have b9 := le_trim e9); (try simp only [List.length_cons, List.length_nil] at b9); (try k_sweep))))
  unfold Con
  k_fill
  intro dp un gd cn cs aa ccd cl outer A₀ base h₀ L m news s Q E mean mg mb B F X N T hk hd hu hpre hret
  obtain ⟨⟨vs, hl, hi⟩, ⟨vs2, hl2, hi2⟩⟩ := hpre
  refine wpAny_call ?_
  k_dflt ktd_step
  k_steps
  ktr_step
  rename _ = trimP _ => e9
  rw [e9]
  exact addP_of a b

def subP (a b : List Int) : List Int := addP a (negP b)
theorem le_neg {d ns : List Int} (e : d = negP ns) : d.length = ns.length := by rw [e, negP, List.length_map]
theorem le_scale {d ns : List Int} {k : Int} (e : d = scaleP ns k) : d.length ≤ ns.length := by
  rw [e, scaleP]; split
  · exact Nat.zero_le _
  · rw [List.length_map]; exact Nat.le_refl _
theorem le_raise {d ns : List Int} {k : Int} (e : d = raiseP ns k) : d.length ≤ k.toNat + ns.length := by
  rw [e, raiseP]; split
  · exact Nat.zero_le _
  · rw [List.length_append, List.length_replicate]; exact Nat.le_refl _
theorem le_add {d a b : List Int} (e : d = addP a b) : d.length ≤ max a.length b.length := by
  rw [e, addP]
  refine Nat.le_trans (trimP_le _) ?_
  rw [List.length_map, List.length_range]; exact Nat.le_refl _
theorem le_sub {d a b : List Int} (e : d = subP a b) : d.length ≤ max a.length b.length := by
  have := le_add (d := d) (a := a) (b := negP b) e
  rwa [le_neg (ns := b) rfl] at this

end
section
-- needs: C2
theorem zsub_c (w : World) (la lb : Addr) (a b : List Int) (hz : a.length < 2 ^ 19) (hz2 : b.length < 2 ^ 19) : Con w 9 105 [.ref la, .ref lb] (fun h => HasL la a h ∧ HasL lb b h) (RList (subP a b)) := by
  w_top off
  k_with_none
  k_with "ktd_step" => (first | (refine' code_defG ?k1_q7 ?k2_q7 ?k3_q7 ?k4_q7 ?k5_q7 ?kA_q7 ?kF_q7 ?kK_q7 ?k6_q7 ?k7_q7 ?k8_q7 ?k9_q7 ?kB_q7 ?_ ?c2_q7 ?c3_q7 ?c4_q7 ?c5_q7; (case kA_q7 => exact rfl); (case kF_q7 => exact rfl); (case kK_q7 => assumption); (case k1_q7 => k_asm); (case k2_q7 => k_asm); (case k3_q7 => k_asm); (case k4_q7 => k_asm); (case k5_q7 => k_asm); (case k6_q7 => k_is); (case k7_q7 => k_is); (case k8_q7 => ktr_room); (case k9_q7 => exact BindsTo.of_eq rfl); (case c5_q7 => decide); (case kB_q7 => exact locs rfl); (case c2_q7 => exact rfl); (case c3_q7 => exact rfl); (case c4_q7 => exact rfl); k_whole; intro L' h' F' N' B' X' T'; (try dsimp only); (try k_fold)) | (refine' code_defGC ?k1_q7 ?k2_q7 ?k3_q7 ?k4_q7 ?k5_q7 ?kA_q7 ?kF_q7 ?kK_q7 ?k6_q7 ?k7_q7 ?k8_q7 ?k9_q7 ?kB_q7 ?kD_q7 ?_ ?c2_q7 ?c3_q7 ?c4_q7; (case kA_q7 => exact rfl); (case kF_q7 => exact rfl); (case kK_q7 => assumption); (case k1_q7 => k_asm); (case k2_q7 => k_asm); (case k3_q7 => k_asm); (case k4_q7 => k_asm); (case k5_q7 => k_asm); (case k6_q7 => k_is); (case k7_q7 => k_is); (case k8_q7 => ktr_room); (case k9_q7 => exact BindsTo.of_eq rfl); (case kB_q7 => exact rfl); (case kD_q7 => decide +kernel); (case c2_q7 => exact rfl); (case c3_q7 => exact rfl); (case c4_q7 => exact rfl); k_whole; intro L' h' tk' cells' F' N' Y' B' X' T'; k_cells Y'; (try dsimp only); (try k_fold)) | fail "step: no entry")
  k_with "ktr_step" => ((refine rlist_end (by assumption) (by assumption) (by assumption) (by assumption) (by assumption) (by assumption) List.mem_cons_self (by assumption) ?_))
  k_with "ktn_step" => ((refine rlist_end (vs := []) (by assumption) (by assumption) (by assumption) (by assumption) (by assumption) (by assumption) List.mem_cons_self IntsAre.nil ?_))
  k_with "ktf_step" => (first | assumption | exact lt_wid (by with_reducible assumption) (by k_dflt (exact rfl)) | k_dflt (exact Nat.le_of_ble_eq_true rfl) | l_fit)
  k_with "exec While Compare cons nil" => ((k_extra "while"))
  k_with "k_ne" => ((refine neN ?_; (try dsimp only); first | exact Apt.use (by assumption) (by k_mem) | exact Ne.symm (Apt.use (by assumption) (by k_mem)) | ((with_reducible rename (@Ne Nat _ _ ∧ _) ∧ _ => q9); first | with_reducible exact q9.1.1 | with_reducible exact Ne.symm q9.1.1 | with_reducible exact q9.1.2.1 | with_reducible exact Ne.symm q9.1.2.1 | with_reducible exact q9.1.2.2 | with_reducible exact Ne.symm q9.1.2.2 | with_reducible exact q9.1 | with_reducible exact Ne.symm q9.1 | with_reducible exact q9.2.1 | with_reducible exact Ne.symm q9.2.1 | with_reducible exact q9.2.2 | with_reducible exact Ne.symm q9.2.2 | with_reducible exact q9.2.1.1 | with_reducible exact Ne.symm q9.2.1.1 | with_reducible exact q9.2.1.2.1 | with_reducible exact Ne.symm q9.2.1.2.1 | with_reducible exact q9.2.1.2.2 | with_reducible exact Ne.symm q9.2.1.2.2 | with_reducible exact q9.2.2.1 | with_reducible exact Ne.symm q9.2.2.1 | with_reducible exact q9.2.2.2 | with_reducible exact Ne.symm q9.2.2.2 | with_reducible exact q9.2.2.1.1 | with_reducible exact Ne.symm q9.2.2.1.1 | with_reducible exact q9.2.2.1.2.1 | with_reducible exact Ne.symm q9.2.2.1.2.1 | with_reducible exact q9.2.2.1.2.2 | with_reducible exact Ne.symm q9.2.2.1.2.2 | with_reducible exact q9.2.2.2.1 | with_reducible exact Ne.symm q9.2.2.2.1 | with_reducible exact q9.2.2.2.2 | with_reducible exact Ne.symm q9.2.2.2.2 | with_reducible exact q9.2.2.2.1.1 | with_reducible exact Ne.symm q9.2.2.2.1.1 | with_reducible exact q9.2.2.2.1.2.1 | with_reducible exact Ne.symm q9.2.2.2.1.2.1 | with_reducible exact q9.2.2.2.1.2.2 | with_reducible exact Ne.symm q9.2.2.2.1.2.2 | with_reducible exact q9.2.2.2.2.1 | with_reducible exact Ne.symm q9.2.2.2.2.1 | with_reducible exact q9.2.2.2.2.2 | with_reducible exact Ne.symm q9.2.2.2.2.2 | with_reducible exact q9.2.2.2.2.1.1 | with_reducible exact Ne.symm q9.2.2.2.2.1.1 | with_reducible exact q9.2.2.2.2.1.2.1 | with_reducible exact Ne.symm q9.2.2.2.2.1.2.1 | with_reducible exact q9.2.2.2.2.1.2.2 | with_reducible exact Ne.symm q9.2.2.2.2.1.2.2 | with_reducible exact q9.2.2.2.2.2.1 | with_reducible exact Ne.symm q9.2.2.2.2.2.1 | with_reducible exact q9.2.2.2.2.2.2 | with_reducible exact Ne.symm q9.2.2.2.2.2.2) | ((with_reducible rename @Ne Nat _ _ ∧ _ => q9); first | with_reducible exact q9.1 | with_reducible exact Ne.symm q9.1 | with_reducible exact q9.2.1 | with_reducible exact Ne.symm q9.2.1 | with_reducible exact q9.2.2 | with_reducible exact Ne.symm q9.2.2)))
  k_with "execs cons" => ((dsimp only))
  k_with "eval BinOp" => ((dsimp only))
  k_with "storeName" => ((dsimp only))
  k_with "ktr_room" => ((first | exact room_of (by with_reducible assumption) (by k_dflt (exact rfl)) | exact room_in (by with_reducible assumption)))
  k_with "ktr_units" => ((exact room_of (by with_reducible assumption) (by k_dflt (exact rfl))))
  k_with "omega" => ((first | (with_reducible assumption) | exact lt_wid (by with_reducible assumption) (by k_dflt (exact rfl)) | exact le_wid (by with_reducible assumption) (by k_dflt (exact rfl)) | (k_dflt (exact Nat.le_of_ble_eq_true rfl)) | exact ilt_wid (And.right (by with_reducible assumption)) (by k_dflt (exact rfl)) | exact igt_wid (And.left (by with_reducible assumption)) (by k_dflt (exact rfl)) | (k_dflt decide) | exact Apt.use (by with_reducible assumption) (by k_mem) | exact Ne.symm (Apt.use (by with_reducible assumption) (by k_mem)) | ((repeat ((with_reducible rename (@Ne Nat _ _ ∧ _) ∧ _ => q9); clear q9)); (repeat ((with_reducible rename @Ne Nat _ _ ∧ _ => q9); clear q9)); (try clear hu); (try clear hd); omega +splitNatSub)))
  k_with "ktf_step" => (first | assumption | exact lt_wid (by with_reducible assumption) (by k_dflt (exact rfl)) | k_dflt (exact Nat.le_of_ble_eq_true rfl) | l_fit | ((simp only [List.length_cons, List.length_nil]); omega) | (simp only [List.length_cons, List.length_nil, List.length_append]; first | done | omega) | exact Nat.le_refl _)
  k_with "ktr_rel" => (first | assumption | exact IsTup.keeps (by assumption) (Fr.keep (by assumption)) | exact News.isTup (by assumption) (by k_mem) | fail "no tuple")
  k_with "subscriptTail Name BinOp ref int" => (((with_reducible show wpAny _ _ (subscriptTail _ _ (Value.ref _) (Value.int _ _)) _ _ _); k_dflt (refine' item_list_ints ?k1_q7 ?k2_q7 ?k3_q7 ?k4_q7 ?k5_q7 ?_; (case k1_q7 => first | exact News.isList (by assumption) (by k_mem) | is_list); (case k2_q7 => assumption); (case k3_q7 => ((repeat ((with_reducible rename (@Ne Nat _ _ ∧ _) ∧ _ => q9); clear q9)); (repeat ((with_reducible rename @Ne Nat _ _ ∧ _ => q9); clear q9)); omega)); (case k4_q7 => ((repeat ((with_reducible rename (@Ne Nat _ _ ∧ _) ∧ _ => q9); clear q9)); (repeat ((with_reducible rename @Ne Nat _ _ ∧ _ => q9); clear q9)); omega)); (case k5_q7 => ((repeat ((with_reducible rename (@Ne Nat _ _ ∧ _) ∧ _ => q9); clear q9)); (repeat ((with_reducible rename @Ne Nat _ _ ∧ _ => q9); clear q9)); omega)); k_whole); intro _))
  k_with "subscriptTail Name Name ref int" => (((with_reducible show wpAny _ _ (subscriptTail _ _ (Value.ref _) (Value.int _ _)) _ _ _); k_dflt (refine' item_list_ints ?k1_q7 ?k2_q7 ?k3_q7 ?k4_q7 ?k5_q7 ?_; (case k1_q7 => first | exact News.isList (by assumption) (by k_mem) | is_list); (case k2_q7 => assumption); (case k3_q7 => ((repeat ((with_reducible rename (@Ne Nat _ _ ∧ _) ∧ _ => q9); clear q9)); (repeat ((with_reducible rename @Ne Nat _ _ ∧ _ => q9); clear q9)); omega)); (case k4_q7 => ((repeat ((with_reducible rename (@Ne Nat _ _ ∧ _) ∧ _ => q9); clear q9)); (repeat ((with_reducible rename @Ne Nat _ _ ∧ _ => q9); clear q9)); omega)); (case k5_q7 => ((repeat ((with_reducible rename (@Ne Nat _ _ ∧ _) ∧ _ => q9); clear q9)); (repeat ((with_reducible rename @Ne Nat _ _ ∧ _ => q9); clear q9)); omega)); k_whole); intro _))
  k_with "l_ints" => (k_dflt (first | assumption | exact IntsAre.nil | exact IntsAre.cons _ _ IntsAre.nil | exact IntsAre.cons _ _ (IntsAre.cons _ _ IntsAre.nil) | exact IntsAre.cons _ _ (IntsAre.cons _ _ (IntsAre.cons _ _ IntsAre.nil)) | exact IntsAre.cons _ _ (IntsAre.cons _ _ (IntsAre.cons _ _ (IntsAre.cons _ _ (IntsAre.cons _ _ (IntsAre.cons _ _ (IntsAre.cons _ _ (IntsAre.cons _ _ IntsAre.nil))))))) | exact IntsAre.append (by l_ints) (IntsAre.cons _ _ IntsAre.nil)))
  k_with "call ref" => ((k_here; k_dflt ((refine' con_use (zneg_c _ _ _ ?hz_q7) ?k1_q7 ?k2_q7 ?k3_q7 ?k4_q7 ?k5_q7 ?kK_q7 ?kd_q7 ?ku_q7 ?kp_q7 ?_; (case kp_q7 => exact hasL_of (by is_list) (by l_ints)); (case hz_q7 => ktf_step); (case k1_q7 => k_asm); (case k2_q7 => k_asm); (case k3_q7 => k_asm); (case k4_q7 => k_asm); (case k5_q7 => k_asm); (case kK_q7 => first | exact rfl | assumption); (case kd_q7 => ktr_room); (case ku_q7 => ktr_units); k_whole); intro l' vs' n' h' tk' F' N' l1 I' e1; (replace l1 := Apt.of l1); (obtain ⟨d9, I9, e9⟩ := ints_hide I'); clear I' e1; (have b9 := le_neg e9); (try simp only [List.length_cons, List.length_nil] at b9); (try k_sweep))))
  k_with "call ref" => ((k_here; k_dflt ((refine' con_use (zadd_c _ _ _ _ _ ?hz_q7 ?hb_q7) ?k1_q7 ?k2_q7 ?k3_q7 ?k4_q7 ?k5_q7 ?kK_q7 ?kd_q7 ?ku_q7 ?kp_q7 ?_; (case kp_q7 => exact ⟨hasL_of (by is_list) (by l_ints), hasL_of (by is_list) (by l_ints)⟩); (case hz_q7 => ktf_step); (case hb_q7 => ktf_step); (case k1_q7 => k_asm); (case k2_q7 => k_asm); (case k3_q7 => k_asm); (case k4_q7 => k_asm); (case k5_q7 => k_asm); (case kK_q7 => first | exact rfl | assumption); (case kd_q7 => ktr_room); (case ku_q7 => ktr_units); k_whole); intro l' vs' n' h' tk' F' N' l1 I' e1; (replace l1 := Apt.of l1); (obtain ⟨d9, I9, e9⟩ := ints_hide I'); clear I' e1; (have b9 := le_add e9); (try simp only [List.length_cons, List.length_nil] at b9); (try k_sweep))))
  unfold Con
  k_fill
  intro dp un gd cn cs aa ccd cl outer A₀ base h₀ L m news s Q E mean mg mb B F X N T hk hd hu hpre hret
  obtain ⟨⟨vs, hl, hi⟩, ⟨vs2, hl2, hi2⟩⟩ := hpre
  refine wpAny_call ?_
  k_dflt ktd_step
  k_steps
  ktr_step
  subst_vars
  rfl

end
section
-- needs: C2
theorem abs_nat (a : Int) : (if a < 0 then -a else a) = (a.natAbs : Int) := by split <;> omega
theorem gcd_turn {x y : Int} {a b : Int} (h : 0 ≤ x ∧ 0 ≤ y ∧ Int.gcd x y = Int.gcd a b) (hy : ¬ y = 0) : 0 ≤ y ∧ 0 ≤ x.fmod y ∧ Int.gcd y (x.fmod y) = Int.gcd a b := by
  have hy' : 0 < y := by omega
  have e : x.fmod y = x % y := Int.fmod_eq_emod_of_nonneg x (by omega)
  refine ⟨by omega, by rw [e]; exact Int.emod_nonneg x hy, ?_⟩
  rw [e, ← h.2.2]
  obtain ⟨n, rfl⟩ := Int.eq_ofNat_of_zero_le h.1
  obtain ⟨k, rfl⟩ := Int.eq_ofNat_of_zero_le h.2.1
  have e2 : (n : Int) % (k : Int) = ((n % k : Nat) : Int) := rfl
  rw [e2]
  show Nat.gcd k (n % k) = Nat.gcd n k
  rw [Nat.gcd_comm k, ← Nat.gcd_rec, Nat.gcd_comm]
theorem gcd_less {x y : Int} (hy : ¬ y = 0) (h : 0 ≤ y) : (x.fmod y).toNat < y.toNat := by
  have h1 := fmod_lo x (n := y) (by omega)
  have h2 := fmod_hi x (n := y) (by omega)
  omega
theorem gcd_start (a b : Int) : 0 ≤ (if a < 0 then -a else a) ∧ 0 ≤ (if b < 0 then -b else b) ∧ Int.gcd (if a < 0 then -a else a) (if b < 0 then -b else b) = Int.gcd a b := by
  rw [abs_nat, abs_nat]
  refine ⟨by omega, by omega, ?_⟩
  simp [Int.gcd]
theorem gcd_fin {x y a b : Int} (h : 0 ≤ x ∧ 0 ≤ y ∧ Int.gcd x y = Int.gcd a b) (hy : y = 0) : x = (Int.gcd a b : Nat) := by
  subst hy
  rw [← h.2.2, Int.gcd_zero_right]
  omega
theorem gcd_c (w : World) (a b : Int) (t u : Tok) : Con w 3 60 [.int a t, .int b u] (fun _ => True) (RInt (Int.gcd a b : Nat)) := by
  w_top off
  k_with_none
  k_with "ktd_step" => (first | (refine' code_defG ?k1_q7 ?k2_q7 ?k3_q7 ?k4_q7 ?k5_q7 ?kA_q7 ?kF_q7 ?kK_q7 ?k6_q7 ?k7_q7 ?k8_q7 ?k9_q7 ?kB_q7 ?_ ?c2_q7 ?c3_q7 ?c4_q7 ?c5_q7; (case kA_q7 => exact rfl); (case kF_q7 => exact rfl); (case kK_q7 => assumption); (case k1_q7 => k_asm); (case k2_q7 => k_asm); (case k3_q7 => k_asm); (case k4_q7 => k_asm); (case k5_q7 => k_asm); (case k6_q7 => k_is); (case k7_q7 => k_is); (case k8_q7 => ktr_room); (case k9_q7 => exact BindsTo.of_eq rfl); (case c5_q7 => decide); (case kB_q7 => exact locs rfl); (case c2_q7 => exact rfl); (case c3_q7 => exact rfl); (case c4_q7 => exact rfl); k_whole; intro L' h' F' N' B' X' T'; (try dsimp only); (try k_fold)) | (refine' code_defGC ?k1_q7 ?k2_q7 ?k3_q7 ?k4_q7 ?k5_q7 ?kA_q7 ?kF_q7 ?kK_q7 ?k6_q7 ?k7_q7 ?k8_q7 ?k9_q7 ?kB_q7 ?kD_q7 ?_ ?c2_q7 ?c3_q7 ?c4_q7; (case kA_q7 => exact rfl); (case kF_q7 => exact rfl); (case kK_q7 => assumption); (case k1_q7 => k_asm); (case k2_q7 => k_asm); (case k3_q7 => k_asm); (case k4_q7 => k_asm); (case k5_q7 => k_asm); (case k6_q7 => k_is); (case k7_q7 => k_is); (case k8_q7 => ktr_room); (case k9_q7 => exact BindsTo.of_eq rfl); (case kB_q7 => exact rfl); (case kD_q7 => decide +kernel); (case c2_q7 => exact rfl); (case c3_q7 => exact rfl); (case c4_q7 => exact rfl); k_whole; intro L' h' tk' cells' F' N' Y' B' X' T'; k_cells Y'; (try dsimp only); (try k_fold)) | fail "step: no entry")
  k_with "ktr_step" => ((refine rlist_end (by assumption) (by assumption) (by assumption) (by assumption) (by assumption) (by assumption) List.mem_cons_self (by assumption) ?_))
  k_with "ktn_step" => ((refine rlist_end (vs := []) (by assumption) (by assumption) (by assumption) (by assumption) (by assumption) (by assumption) List.mem_cons_self IntsAre.nil ?_))
  k_with "ktf_step" => (first | assumption | exact lt_wid (by with_reducible assumption) (by k_dflt (exact rfl)) | k_dflt (exact Nat.le_of_ble_eq_true rfl) | l_fit)
  k_with "exec While Compare cons nil" => ((k_extra "while"))
  k_with "k_ne" => ((refine neN ?_; (try dsimp only); first | exact Apt.use (by assumption) (by k_mem) | exact Ne.symm (Apt.use (by assumption) (by k_mem)) | ((with_reducible rename (@Ne Nat _ _ ∧ _) ∧ _ => q9); first | with_reducible exact q9.1.1 | with_reducible exact Ne.symm q9.1.1 | with_reducible exact q9.1.2.1 | with_reducible exact Ne.symm q9.1.2.1 | with_reducible exact q9.1.2.2 | with_reducible exact Ne.symm q9.1.2.2 | with_reducible exact q9.1 | with_reducible exact Ne.symm q9.1 | with_reducible exact q9.2.1 | with_reducible exact Ne.symm q9.2.1 | with_reducible exact q9.2.2 | with_reducible exact Ne.symm q9.2.2 | with_reducible exact q9.2.1.1 | with_reducible exact Ne.symm q9.2.1.1 | with_reducible exact q9.2.1.2.1 | with_reducible exact Ne.symm q9.2.1.2.1 | with_reducible exact q9.2.1.2.2 | with_reducible exact Ne.symm q9.2.1.2.2 | with_reducible exact q9.2.2.1 | with_reducible exact Ne.symm q9.2.2.1 | with_reducible exact q9.2.2.2 | with_reducible exact Ne.symm q9.2.2.2 | with_reducible exact q9.2.2.1.1 | with_reducible exact Ne.symm q9.2.2.1.1 | with_reducible exact q9.2.2.1.2.1 | with_reducible exact Ne.symm q9.2.2.1.2.1 | with_reducible exact q9.2.2.1.2.2 | with_reducible exact Ne.symm q9.2.2.1.2.2 | with_reducible exact q9.2.2.2.1 | with_reducible exact Ne.symm q9.2.2.2.1 | with_reducible exact q9.2.2.2.2 | with_reducible exact Ne.symm q9.2.2.2.2 | with_reducible exact q9.2.2.2.1.1 | with_reducible exact Ne.symm q9.2.2.2.1.1 | with_reducible exact q9.2.2.2.1.2.1 | with_reducible exact Ne.symm q9.2.2.2.1.2.1 | with_reducible exact q9.2.2.2.1.2.2 | with_reducible exact Ne.symm q9.2.2.2.1.2.2 | with_reducible exact q9.2.2.2.2.1 | with_reducible exact Ne.symm q9.2.2.2.2.1 | with_reducible exact q9.2.2.2.2.2 | with_reducible exact Ne.symm q9.2.2.2.2.2 | with_reducible exact q9.2.2.2.2.1.1 | with_reducible exact Ne.symm q9.2.2.2.2.1.1 | with_reducible exact q9.2.2.2.2.1.2.1 | with_reducible exact Ne.symm q9.2.2.2.2.1.2.1 | with_reducible exact q9.2.2.2.2.1.2.2 | with_reducible exact Ne.symm q9.2.2.2.2.1.2.2 | with_reducible exact q9.2.2.2.2.2.1 | with_reducible exact Ne.symm q9.2.2.2.2.2.1 | with_reducible exact q9.2.2.2.2.2.2 | with_reducible exact Ne.symm q9.2.2.2.2.2.2) | ((with_reducible rename @Ne Nat _ _ ∧ _ => q9); first | with_reducible exact q9.1 | with_reducible exact Ne.symm q9.1 | with_reducible exact q9.2.1 | with_reducible exact Ne.symm q9.2.1 | with_reducible exact q9.2.2 | with_reducible exact Ne.symm q9.2.2)))
  k_with "execs cons" => ((dsimp only))
  k_with "eval BinOp" => ((dsimp only))
  k_with "storeName" => ((dsimp only))
  k_with "ktr_room" => ((first | exact room_of (by with_reducible assumption) (by k_dflt (exact rfl)) | exact room_in (by with_reducible assumption)))
  k_with "ktr_units" => ((exact room_of (by with_reducible assumption) (by k_dflt (exact rfl))))
  k_with "omega" => ((first | (with_reducible assumption) | exact lt_wid (by with_reducible assumption) (by k_dflt (exact rfl)) | exact le_wid (by with_reducible assumption) (by k_dflt (exact rfl)) | (k_dflt (exact Nat.le_of_ble_eq_true rfl)) | exact ilt_wid (And.right (by with_reducible assumption)) (by k_dflt (exact rfl)) | exact igt_wid (And.left (by with_reducible assumption)) (by k_dflt (exact rfl)) | (k_dflt decide) | exact Apt.use (by with_reducible assumption) (by k_mem) | exact Ne.symm (Apt.use (by with_reducible assumption) (by k_mem)) | ((repeat ((with_reducible rename (@Ne Nat _ _ ∧ _) ∧ _ => q9); clear q9)); (repeat ((with_reducible rename @Ne Nat _ _ ∧ _ => q9); clear q9)); (try clear hu); (try clear hd); omega +splitNatSub)))
  k_with "ktf_step" => (first | assumption | exact lt_wid (by with_reducible assumption) (by k_dflt (exact rfl)) | k_dflt (exact Nat.le_of_ble_eq_true rfl) | l_fit | ((simp only [List.length_cons, List.length_nil]); omega) | (simp only [List.length_cons, List.length_nil, List.length_append]; first | done | omega) | exact Nat.le_refl _)
  k_with "ktr_rel" => (first | assumption | exact IsTup.keeps (by assumption) (Fr.keep (by assumption)) | exact News.isTup (by assumption) (by k_mem) | fail "no tuple")
  k_with "subscriptTail Name BinOp ref int" => (((with_reducible show wpAny _ _ (subscriptTail _ _ (Value.ref _) (Value.int _ _)) _ _ _); k_dflt (refine' item_list_ints ?k1_q7 ?k2_q7 ?k3_q7 ?k4_q7 ?k5_q7 ?_; (case k1_q7 => first | exact News.isList (by assumption) (by k_mem) | is_list); (case k2_q7 => assumption); (case k3_q7 => ((repeat ((with_reducible rename (@Ne Nat _ _ ∧ _) ∧ _ => q9); clear q9)); (repeat ((with_reducible rename @Ne Nat _ _ ∧ _ => q9); clear q9)); omega)); (case k4_q7 => ((repeat ((with_reducible rename (@Ne Nat _ _ ∧ _) ∧ _ => q9); clear q9)); (repeat ((with_reducible rename @Ne Nat _ _ ∧ _ => q9); clear q9)); omega)); (case k5_q7 => ((repeat ((with_reducible rename (@Ne Nat _ _ ∧ _) ∧ _ => q9); clear q9)); (repeat ((with_reducible rename @Ne Nat _ _ ∧ _ => q9); clear q9)); omega)); k_whole); intro _))
  k_with "subscriptTail Name Name ref int" => (((with_reducible show wpAny _ _ (subscriptTail _ _ (Value.ref _) (Value.int _ _)) _ _ _); k_dflt (refine' item_list_ints ?k1_q7 ?k2_q7 ?k3_q7 ?k4_q7 ?k5_q7 ?_; (case k1_q7 => first | exact News.isList (by assumption) (by k_mem) | is_list); (case k2_q7 => assumption); (case k3_q7 => ((repeat ((with_reducible rename (@Ne Nat _ _ ∧ _) ∧ _ => q9); clear q9)); (repeat ((with_reducible rename @Ne Nat _ _ ∧ _ => q9); clear q9)); omega)); (case k4_q7 => ((repeat ((with_reducible rename (@Ne Nat _ _ ∧ _) ∧ _ => q9); clear q9)); (repeat ((with_reducible rename @Ne Nat _ _ ∧ _ => q9); clear q9)); omega)); (case k5_q7 => ((repeat ((with_reducible rename (@Ne Nat _ _ ∧ _) ∧ _ => q9); clear q9)); (repeat ((with_reducible rename @Ne Nat _ _ ∧ _ => q9); clear q9)); omega)); k_whole); intro _))
  k_with "l_ints" => (k_dflt (first | assumption | exact IntsAre.nil | exact IntsAre.cons _ _ IntsAre.nil | exact IntsAre.cons _ _ (IntsAre.cons _ _ IntsAre.nil) | exact IntsAre.cons _ _ (IntsAre.cons _ _ (IntsAre.cons _ _ IntsAre.nil)) | exact IntsAre.cons _ _ (IntsAre.cons _ _ (IntsAre.cons _ _ (IntsAre.cons _ _ (IntsAre.cons _ _ (IntsAre.cons _ _ (IntsAre.cons _ _ (IntsAre.cons _ _ IntsAre.nil))))))) | exact IntsAre.append (by l_ints) (IntsAre.cons _ _ IntsAre.nil)))
  k_with "while" => k_while (fun _ x y => 0 ≤ x ∧ 0 ≤ y ∧ Int.gcd x y = Int.gcd a b) (fun _ _ y => y.toNat) "a" "b"
  k_with "state" => first | exact gcd_start a b | exact gcd_turn ⟨by assumption, by assumption, by assumption⟩ (by assumption)
  k_with "measure" => exact gcd_less (by assumption) (by omega)
  unfold Con
  k_fill
  intro dp un gd cn cs aa ccd cl outer A₀ base h₀ L m news s Q E mean mg mb B F X N T hk hd hu hpre hret
  refine wpAny_call ?_
  k_dflt ktd_step
  k_steps
  refine rint_end hret (by assumption) (by assumption) ?_
  exact gcd_fin ⟨by assumption, by assumption, by assumption⟩ (by assumption)

end
section
-- needs: C2
-- small ints
def Small (ns : List Int) : Prop := ∀ x ∈ ns, -2 ^ 60 < x ∧ x < 2 ^ 60
theorem fdiv_small {prog : Program} {w : World} {A : Around} {E : Value → Shared → Prop} {s : Shared} {a b : Int} {t u : Tok} {Q : Value → Shared → Prop} (hb : b ≠ 0) (ha : -2 ^ 30 < b ∧ b < 2 ^ 30) (h : Q (.int (a.fdiv b) s.toks) { s with toks := s.toks + 1 }) :
    wpAny (model prog w) A (binaryOp .FloorDiv (.int a t) (.int b u)) Q E s := floordiv_int hb h (Or.inl (PyProof.noPylong_small (by omega)))
theorem zdivided_c (w : World) (l : Addr) (ns : List Int) (k : Int) (t : Tok) (hz : ns.length < 2 ^ 20) (hk0 : k ≠ 0) (hk : -2 ^ 30 < k ∧ k < 2 ^ 30) : Con w 3 129 [.ref l, .int k t] (HasL l ns) (RList (ns.map fun x => Int.fdiv x k)) := by
  w_top off
  k_with_none
  k_with "ktd_step" => (first | (refine' code_defG ?k1_q7 ?k2_q7 ?k3_q7 ?k4_q7 ?k5_q7 ?kA_q7 ?kF_q7 ?kK_q7 ?k6_q7 ?k7_q7 ?k8_q7 ?k9_q7 ?kB_q7 ?_ ?c2_q7 ?c3_q7 ?c4_q7 ?c5_q7; (case kA_q7 => exact rfl); (case kF_q7 => exact rfl); (case kK_q7 => assumption); (case k1_q7 => k_asm); (case k2_q7 => k_asm); (case k3_q7 => k_asm); (case k4_q7 => k_asm); (case k5_q7 => k_asm); (case k6_q7 => k_is); (case k7_q7 => k_is); (case k8_q7 => ktr_room); (case k9_q7 => exact BindsTo.of_eq rfl); (case c5_q7 => decide); (case kB_q7 => exact locs rfl); (case c2_q7 => exact rfl); (case c3_q7 => exact rfl); (case c4_q7 => exact rfl); k_whole; intro L' h' F' N' B' X' T'; (try dsimp only); (try k_fold)) | (refine' code_defGC ?k1_q7 ?k2_q7 ?k3_q7 ?k4_q7 ?k5_q7 ?kA_q7 ?kF_q7 ?kK_q7 ?k6_q7 ?k7_q7 ?k8_q7 ?k9_q7 ?kB_q7 ?kD_q7 ?_ ?c2_q7 ?c3_q7 ?c4_q7; (case kA_q7 => exact rfl); (case kF_q7 => exact rfl); (case kK_q7 => assumption); (case k1_q7 => k_asm); (case k2_q7 => k_asm); (case k3_q7 => k_asm); (case k4_q7 => k_asm); (case k5_q7 => k_asm); (case k6_q7 => k_is); (case k7_q7 => k_is); (case k8_q7 => ktr_room); (case k9_q7 => exact BindsTo.of_eq rfl); (case kB_q7 => exact rfl); (case kD_q7 => decide +kernel); (case c2_q7 => exact rfl); (case c3_q7 => exact rfl); (case c4_q7 => exact rfl); k_whole; intro L' h' tk' cells' F' N' Y' B' X' T'; k_cells Y'; (try dsimp only); (try k_fold)) | fail "step: no entry")
  k_with "ktr_step" => ((refine rlist_end (by assumption) (by assumption) (by assumption) (by assumption) (by assumption) (by assumption) List.mem_cons_self (by assumption) ?_))
  k_with "ktn_step" => ((refine rlist_end (vs := []) (by assumption) (by assumption) (by assumption) (by assumption) (by assumption) (by assumption) List.mem_cons_self IntsAre.nil ?_))
  k_with "ktf_step" => (first | assumption | exact lt_wid (by with_reducible assumption) (by k_dflt (exact rfl)) | k_dflt (exact Nat.le_of_ble_eq_true rfl) | l_fit)
  k_with "exec While Compare cons nil" => ((k_extra "while"))
  k_with "k_ne" => ((refine neN ?_; (try dsimp only); first | exact Apt.use (by assumption) (by k_mem) | exact Ne.symm (Apt.use (by assumption) (by k_mem)) | ((with_reducible rename (@Ne Nat _ _ ∧ _) ∧ _ => q9); first | with_reducible exact q9.1.1 | with_reducible exact Ne.symm q9.1.1 | with_reducible exact q9.1.2.1 | with_reducible exact Ne.symm q9.1.2.1 | with_reducible exact q9.1.2.2 | with_reducible exact Ne.symm q9.1.2.2 | with_reducible exact q9.1 | with_reducible exact Ne.symm q9.1 | with_reducible exact q9.2.1 | with_reducible exact Ne.symm q9.2.1 | with_reducible exact q9.2.2 | with_reducible exact Ne.symm q9.2.2 | with_reducible exact q9.2.1.1 | with_reducible exact Ne.symm q9.2.1.1 | with_reducible exact q9.2.1.2.1 | with_reducible exact Ne.symm q9.2.1.2.1 | with_reducible exact q9.2.1.2.2 | with_reducible exact Ne.symm q9.2.1.2.2 | with_reducible exact q9.2.2.1 | with_reducible exact Ne.symm q9.2.2.1 | with_reducible exact q9.2.2.2 | with_reducible exact Ne.symm q9.2.2.2 | with_reducible exact q9.2.2.1.1 | with_reducible exact Ne.symm q9.2.2.1.1 | with_reducible exact q9.2.2.1.2.1 | with_reducible exact Ne.symm q9.2.2.1.2.1 | with_reducible exact q9.2.2.1.2.2 | with_reducible exact Ne.symm q9.2.2.1.2.2 | with_reducible exact q9.2.2.2.1 | with_reducible exact Ne.symm q9.2.2.2.1 | with_reducible exact q9.2.2.2.2 | with_reducible exact Ne.symm q9.2.2.2.2 | with_reducible exact q9.2.2.2.1.1 | with_reducible exact Ne.symm q9.2.2.2.1.1 | with_reducible exact q9.2.2.2.1.2.1 | with_reducible exact Ne.symm q9.2.2.2.1.2.1 | with_reducible exact q9.2.2.2.1.2.2 | with_reducible exact Ne.symm q9.2.2.2.1.2.2 | with_reducible exact q9.2.2.2.2.1 | with_reducible exact Ne.symm q9.2.2.2.2.1 | with_reducible exact q9.2.2.2.2.2 | with_reducible exact Ne.symm q9.2.2.2.2.2 | with_reducible exact q9.2.2.2.2.1.1 | with_reducible exact Ne.symm q9.2.2.2.2.1.1 | with_reducible exact q9.2.2.2.2.1.2.1 | with_reducible exact Ne.symm q9.2.2.2.2.1.2.1 | with_reducible exact q9.2.2.2.2.1.2.2 | with_reducible exact Ne.symm q9.2.2.2.2.1.2.2 | with_reducible exact q9.2.2.2.2.2.1 | with_reducible exact Ne.symm q9.2.2.2.2.2.1 | with_reducible exact q9.2.2.2.2.2.2 | with_reducible exact Ne.symm q9.2.2.2.2.2.2) | ((with_reducible rename @Ne Nat _ _ ∧ _ => q9); first | with_reducible exact q9.1 | with_reducible exact Ne.symm q9.1 | with_reducible exact q9.2.1 | with_reducible exact Ne.symm q9.2.1 | with_reducible exact q9.2.2 | with_reducible exact Ne.symm q9.2.2)))
  k_with "execs cons" => ((dsimp only))
  k_with "eval BinOp" => ((dsimp only))
  k_with "storeName" => ((dsimp only))
  k_with "ktr_room" => ((first | exact room_of (by with_reducible assumption) (by k_dflt (exact rfl)) | exact room_in (by with_reducible assumption)))
  k_with "ktr_units" => ((exact room_of (by with_reducible assumption) (by k_dflt (exact rfl))))
  k_with "omega" => ((first | (with_reducible assumption) | exact lt_wid (by with_reducible assumption) (by k_dflt (exact rfl)) | exact le_wid (by with_reducible assumption) (by k_dflt (exact rfl)) | (k_dflt (exact Nat.le_of_ble_eq_true rfl)) | exact ilt_wid (And.right (by with_reducible assumption)) (by k_dflt (exact rfl)) | exact igt_wid (And.left (by with_reducible assumption)) (by k_dflt (exact rfl)) | (k_dflt decide) | exact Apt.use (by with_reducible assumption) (by k_mem) | exact Ne.symm (Apt.use (by with_reducible assumption) (by k_mem)) | ((repeat ((with_reducible rename (@Ne Nat _ _ ∧ _) ∧ _ => q9); clear q9)); (repeat ((with_reducible rename @Ne Nat _ _ ∧ _ => q9); clear q9)); (try clear hu); (try clear hd); omega +splitNatSub)))
  k_with "ktf_step" => (first | assumption | exact lt_wid (by with_reducible assumption) (by k_dflt (exact rfl)) | k_dflt (exact Nat.le_of_ble_eq_true rfl) | l_fit | ((simp only [List.length_cons, List.length_nil]); omega) | (simp only [List.length_cons, List.length_nil, List.length_append]; first | done | omega) | exact Nat.le_refl _)
  k_with "ktr_rel" => (first | assumption | exact IsTup.keeps (by assumption) (Fr.keep (by assumption)) | exact News.isTup (by assumption) (by k_mem) | fail "no tuple")
  k_with "subscriptTail Name BinOp ref int" => (((with_reducible show wpAny _ _ (subscriptTail _ _ (Value.ref _) (Value.int _ _)) _ _ _); k_dflt (refine' item_list_ints ?k1_q7 ?k2_q7 ?k3_q7 ?k4_q7 ?k5_q7 ?_; (case k1_q7 => first | exact News.isList (by assumption) (by k_mem) | is_list); (case k2_q7 => assumption); (case k3_q7 => ((repeat ((with_reducible rename (@Ne Nat _ _ ∧ _) ∧ _ => q9); clear q9)); (repeat ((with_reducible rename @Ne Nat _ _ ∧ _ => q9); clear q9)); omega)); (case k4_q7 => ((repeat ((with_reducible rename (@Ne Nat _ _ ∧ _) ∧ _ => q9); clear q9)); (repeat ((with_reducible rename @Ne Nat _ _ ∧ _ => q9); clear q9)); omega)); (case k5_q7 => ((repeat ((with_reducible rename (@Ne Nat _ _ ∧ _) ∧ _ => q9); clear q9)); (repeat ((with_reducible rename @Ne Nat _ _ ∧ _ => q9); clear q9)); omega)); k_whole); intro _))
  k_with "subscriptTail Name Name ref int" => (((with_reducible show wpAny _ _ (subscriptTail _ _ (Value.ref _) (Value.int _ _)) _ _ _); k_dflt (refine' item_list_ints ?k1_q7 ?k2_q7 ?k3_q7 ?k4_q7 ?k5_q7 ?_; (case k1_q7 => first | exact News.isList (by assumption) (by k_mem) | is_list); (case k2_q7 => assumption); (case k3_q7 => ((repeat ((with_reducible rename (@Ne Nat _ _ ∧ _) ∧ _ => q9); clear q9)); (repeat ((with_reducible rename @Ne Nat _ _ ∧ _ => q9); clear q9)); omega)); (case k4_q7 => ((repeat ((with_reducible rename (@Ne Nat _ _ ∧ _) ∧ _ => q9); clear q9)); (repeat ((with_reducible rename @Ne Nat _ _ ∧ _ => q9); clear q9)); omega)); (case k5_q7 => ((repeat ((with_reducible rename (@Ne Nat _ _ ∧ _) ∧ _ => q9); clear q9)); (repeat ((with_reducible rename @Ne Nat _ _ ∧ _ => q9); clear q9)); omega)); k_whole); intro _))
  k_with "l_ints" => (k_dflt (first | assumption | exact IntsAre.nil | exact IntsAre.cons _ _ IntsAre.nil | exact IntsAre.cons _ _ (IntsAre.cons _ _ IntsAre.nil) | exact IntsAre.cons _ _ (IntsAre.cons _ _ (IntsAre.cons _ _ IntsAre.nil)) | exact IntsAre.cons _ _ (IntsAre.cons _ _ (IntsAre.cons _ _ (IntsAre.cons _ _ (IntsAre.cons _ _ (IntsAre.cons _ _ (IntsAre.cons _ _ (IntsAre.cons _ _ IntsAre.nil))))))) | exact IntsAre.append (by l_ints) (IntsAre.cons _ _ IntsAre.nil)))
  k_with "binaryOp FloorDiv int int" => ((refine fdiv_small (by assumption) (by assumption) ?_))
  unfold Con
  k_fill
  intro dp un gd cn cs aa ccd cl outer A₀ base h₀ L m news s Q E mean mg mb B F X N T hk hd hu hpre hret
  obtain ⟨vs, hl, hi⟩ := hpre
  refine wpAny_call ?_
  k_dflt ktd_step
  k_steps
  ktr_step
  rfl
theorem le_div {d ns : List Int} {k : Int} (e : d = ns.map fun x => Int.fdiv x k) : d.length = ns.length := by rw [e, List.length_map]

end
section
-- needs: C2
def leadP (ns : List Int) : Int := if 0 < ns.length then ns.getD (ns.length - 1) 0 else 0
theorem zlead_c (w : World) (l : Addr) (ns : List Int) (hz : ns.length < 2 ^ 20) : Con w 3 88 [.ref l] (HasL l ns) (RInt (leadP ns)) := by
  w_top off
  k_with_none
  k_with "ktd_step" => (first | (refine' code_defG ?k1_q7 ?k2_q7 ?k3_q7 ?k4_q7 ?k5_q7 ?kA_q7 ?kF_q7 ?kK_q7 ?k6_q7 ?k7_q7 ?k8_q7 ?k9_q7 ?kB_q7 ?_ ?c2_q7 ?c3_q7 ?c4_q7 ?c5_q7; (case kA_q7 => exact rfl); (case kF_q7 => exact rfl); (case kK_q7 => assumption); (case k1_q7 => k_asm); (case k2_q7 => k_asm); (case k3_q7 => k_asm); (case k4_q7 => k_asm); (case k5_q7 => k_asm); (case k6_q7 => k_is); (case k7_q7 => k_is); (case k8_q7 => ktr_room); (case k9_q7 => exact BindsTo.of_eq rfl); (case c5_q7 => decide); (case kB_q7 => exact locs rfl); (case c2_q7 => exact rfl); (case c3_q7 => exact rfl); (case c4_q7 => exact rfl); k_whole; intro L' h' F' N' B' X' T'; (try dsimp only); (try k_fold)) | (refine' code_defGC ?k1_q7 ?k2_q7 ?k3_q7 ?k4_q7 ?k5_q7 ?kA_q7 ?kF_q7 ?kK_q7 ?k6_q7 ?k7_q7 ?k8_q7 ?k9_q7 ?kB_q7 ?kD_q7 ?_ ?c2_q7 ?c3_q7 ?c4_q7; (case kA_q7 => exact rfl); (case kF_q7 => exact rfl); (case kK_q7 => assumption); (case k1_q7 => k_asm); (case k2_q7 => k_asm); (case k3_q7 => k_asm); (case k4_q7 => k_asm); (case k5_q7 => k_asm); (case k6_q7 => k_is); (case k7_q7 => k_is); (case k8_q7 => ktr_room); (case k9_q7 => exact BindsTo.of_eq rfl); (case kB_q7 => exact rfl); (case kD_q7 => decide +kernel); (case c2_q7 => exact rfl); (case c3_q7 => exact rfl); (case c4_q7 => exact rfl); k_whole; intro L' h' tk' cells' F' N' Y' B' X' T'; k_cells Y'; (try dsimp only); (try k_fold)) | fail "step: no entry")
  k_with "ktr_step" => ((refine rlist_end (by assumption) (by assumption) (by assumption) (by assumption) (by assumption) (by assumption) List.mem_cons_self (by assumption) ?_))
  k_with "ktn_step" => ((refine rlist_end (vs := []) (by assumption) (by assumption) (by assumption) (by assumption) (by assumption) (by assumption) List.mem_cons_self IntsAre.nil ?_))
  k_with "ktf_step" => (first | assumption | exact lt_wid (by with_reducible assumption) (by k_dflt (exact rfl)) | k_dflt (exact Nat.le_of_ble_eq_true rfl) | l_fit)
  k_with "exec While Compare cons nil" => ((k_extra "while"))
  k_with "k_ne" => ((refine neN ?_; (try dsimp only); first | exact Apt.use (by assumption) (by k_mem) | exact Ne.symm (Apt.use (by assumption) (by k_mem)) | ((with_reducible rename (@Ne Nat _ _ ∧ _) ∧ _ => q9); first | with_reducible exact q9.1.1 | with_reducible exact Ne.symm q9.1.1 | with_reducible exact q9.1.2.1 | with_reducible exact Ne.symm q9.1.2.1 | with_reducible exact q9.1.2.2 | with_reducible exact Ne.symm q9.1.2.2 | with_reducible exact q9.1 | with_reducible exact Ne.symm q9.1 | with_reducible exact q9.2.1 | with_reducible exact Ne.symm q9.2.1 | with_reducible exact q9.2.2 | with_reducible exact Ne.symm q9.2.2 | with_reducible exact q9.2.1.1 | with_reducible exact Ne.symm q9.2.1.1 | with_reducible exact q9.2.1.2.1 | with_reducible exact Ne.symm q9.2.1.2.1 | with_reducible exact q9.2.1.2.2 | with_reducible exact Ne.symm q9.2.1.2.2 | with_reducible exact q9.2.2.1 | with_reducible exact Ne.symm q9.2.2.1 | with_reducible exact q9.2.2.2 | with_reducible exact Ne.symm q9.2.2.2 | with_reducible exact q9.2.2.1.1 | with_reducible exact Ne.symm q9.2.2.1.1 | with_reducible exact q9.2.2.1.2.1 | with_reducible exact Ne.symm q9.2.2.1.2.1 | with_reducible exact q9.2.2.1.2.2 | with_reducible exact Ne.symm q9.2.2.1.2.2 | with_reducible exact q9.2.2.2.1 | with_reducible exact Ne.symm q9.2.2.2.1 | with_reducible exact q9.2.2.2.2 | with_reducible exact Ne.symm q9.2.2.2.2 | with_reducible exact q9.2.2.2.1.1 | with_reducible exact Ne.symm q9.2.2.2.1.1 | with_reducible exact q9.2.2.2.1.2.1 | with_reducible exact Ne.symm q9.2.2.2.1.2.1 | with_reducible exact q9.2.2.2.1.2.2 | with_reducible exact Ne.symm q9.2.2.2.1.2.2 | with_reducible exact q9.2.2.2.2.1 | with_reducible exact Ne.symm q9.2.2.2.2.1 | with_reducible exact q9.2.2.2.2.2 | with_reducible exact Ne.symm q9.2.2.2.2.2 | with_reducible exact q9.2.2.2.2.1.1 | with_reducible exact Ne.symm q9.2.2.2.2.1.1 | with_reducible exact q9.2.2.2.2.1.2.1 | with_reducible exact Ne.symm q9.2.2.2.2.1.2.1 | with_reducible exact q9.2.2.2.2.1.2.2 | with_reducible exact Ne.symm q9.2.2.2.2.1.2.2 | with_reducible exact q9.2.2.2.2.2.1 | with_reducible exact Ne.symm q9.2.2.2.2.2.1 | with_reducible exact q9.2.2.2.2.2.2 | with_reducible exact Ne.symm q9.2.2.2.2.2.2) | ((with_reducible rename @Ne Nat _ _ ∧ _ => q9); first | with_reducible exact q9.1 | with_reducible exact Ne.symm q9.1 | with_reducible exact q9.2.1 | with_reducible exact Ne.symm q9.2.1 | with_reducible exact q9.2.2 | with_reducible exact Ne.symm q9.2.2)))
  k_with "execs cons" => ((dsimp only))
  k_with "eval BinOp" => ((dsimp only))
  k_with "storeName" => ((dsimp only))
  k_with "ktr_room" => ((first | exact room_of (by with_reducible assumption) (by k_dflt (exact rfl)) | exact room_in (by with_reducible assumption)))
  k_with "ktr_units" => ((exact room_of (by with_reducible assumption) (by k_dflt (exact rfl))))
  k_with "omega" => ((first | (with_reducible assumption) | exact lt_wid (by with_reducible assumption) (by k_dflt (exact rfl)) | exact le_wid (by with_reducible assumption) (by k_dflt (exact rfl)) | (k_dflt (exact Nat.le_of_ble_eq_true rfl)) | exact ilt_wid (And.right (by with_reducible assumption)) (by k_dflt (exact rfl)) | exact igt_wid (And.left (by with_reducible assumption)) (by k_dflt (exact rfl)) | (k_dflt decide) | exact Apt.use (by with_reducible assumption) (by k_mem) | exact Ne.symm (Apt.use (by with_reducible assumption) (by k_mem)) | ((repeat ((with_reducible rename (@Ne Nat _ _ ∧ _) ∧ _ => q9); clear q9)); (repeat ((with_reducible rename @Ne Nat _ _ ∧ _ => q9); clear q9)); (try clear hu); (try clear hd); omega +splitNatSub)))
  k_with "ktf_step" => (first | assumption | exact lt_wid (by with_reducible assumption) (by k_dflt (exact rfl)) | k_dflt (exact Nat.le_of_ble_eq_true rfl) | l_fit | ((simp only [List.length_cons, List.length_nil]); omega) | (simp only [List.length_cons, List.length_nil, List.length_append]; first | done | omega) | exact Nat.le_refl _)
  k_with "ktr_rel" => (first | assumption | exact IsTup.keeps (by assumption) (Fr.keep (by assumption)) | exact News.isTup (by assumption) (by k_mem) | fail "no tuple")
  k_with "subscriptTail Name BinOp ref int" => (((with_reducible show wpAny _ _ (subscriptTail _ _ (Value.ref _) (Value.int _ _)) _ _ _); k_dflt (refine' item_list_ints ?k1_q7 ?k2_q7 ?k3_q7 ?k4_q7 ?k5_q7 ?_; (case k1_q7 => first | exact News.isList (by assumption) (by k_mem) | is_list); (case k2_q7 => assumption); (case k3_q7 => ((repeat ((with_reducible rename (@Ne Nat _ _ ∧ _) ∧ _ => q9); clear q9)); (repeat ((with_reducible rename @Ne Nat _ _ ∧ _ => q9); clear q9)); omega)); (case k4_q7 => ((repeat ((with_reducible rename (@Ne Nat _ _ ∧ _) ∧ _ => q9); clear q9)); (repeat ((with_reducible rename @Ne Nat _ _ ∧ _ => q9); clear q9)); omega)); (case k5_q7 => ((repeat ((with_reducible rename (@Ne Nat _ _ ∧ _) ∧ _ => q9); clear q9)); (repeat ((with_reducible rename @Ne Nat _ _ ∧ _ => q9); clear q9)); omega)); k_whole); intro _))
  k_with "subscriptTail Name Name ref int" => (((with_reducible show wpAny _ _ (subscriptTail _ _ (Value.ref _) (Value.int _ _)) _ _ _); k_dflt (refine' item_list_ints ?k1_q7 ?k2_q7 ?k3_q7 ?k4_q7 ?k5_q7 ?_; (case k1_q7 => first | exact News.isList (by assumption) (by k_mem) | is_list); (case k2_q7 => assumption); (case k3_q7 => ((repeat ((with_reducible rename (@Ne Nat _ _ ∧ _) ∧ _ => q9); clear q9)); (repeat ((with_reducible rename @Ne Nat _ _ ∧ _ => q9); clear q9)); omega)); (case k4_q7 => ((repeat ((with_reducible rename (@Ne Nat _ _ ∧ _) ∧ _ => q9); clear q9)); (repeat ((with_reducible rename @Ne Nat _ _ ∧ _ => q9); clear q9)); omega)); (case k5_q7 => ((repeat ((with_reducible rename (@Ne Nat _ _ ∧ _) ∧ _ => q9); clear q9)); (repeat ((with_reducible rename @Ne Nat _ _ ∧ _ => q9); clear q9)); omega)); k_whole); intro _))
  k_with "l_ints" => (k_dflt (first | assumption | exact IntsAre.nil | exact IntsAre.cons _ _ IntsAre.nil | exact IntsAre.cons _ _ (IntsAre.cons _ _ IntsAre.nil) | exact IntsAre.cons _ _ (IntsAre.cons _ _ (IntsAre.cons _ _ IntsAre.nil)) | exact IntsAre.cons _ _ (IntsAre.cons _ _ (IntsAre.cons _ _ (IntsAre.cons _ _ (IntsAre.cons _ _ (IntsAre.cons _ _ (IntsAre.cons _ _ (IntsAre.cons _ _ IntsAre.nil))))))) | exact IntsAre.append (by l_ints) (IntsAre.cons _ _ IntsAre.nil)))
  unfold Con
  k_fill
  intro dp un gd cn cs aa ccd cl outer A₀ base h₀ L m news s Q E mean mg mb B F X N T hk hd hu hpre hret
  obtain ⟨vs, hl, hi⟩ := hpre
  refine wpAny_call ?_
  k_dflt ktd_step
  k_steps
  · refine rint_end hret (by assumption) (by assumption) ?_
    rw [leadP, if_pos (by omega)]
    congr 1; omega
  · refine rint_end hret (by assumption) (by assumption) ?_
    rw [leadP, if_neg (by omega)]
def signP (x : Int) : Int := if 0 < x then 1 else if x < 0 then -1 else 0
theorem signP_of (a : Int) : b2i (decide (0 < a)) - b2i (decide (a < 0)) = signP a := by
  unfold signP
  by_cases h1 : 0 < a
  · have h2 : ¬ a < 0 := by omega
    simp [h1, h2, b2i]
  · by_cases h2 : a < 0
    · simp [h1, h2, b2i]
    · simp [h1, h2, b2i]
theorem sign_c (w : World) (a : Int) (t : Tok) : Con w 3 204 [.int a t] (fun _ => True) (RInt (signP a)) := by
  w_top off
  k_with_none
  k_with "ktd_step" => (first | (refine' code_defG ?k1_q7 ?k2_q7 ?k3_q7 ?k4_q7 ?k5_q7 ?kA_q7 ?kF_q7 ?kK_q7 ?k6_q7 ?k7_q7 ?k8_q7 ?k9_q7 ?kB_q7 ?_ ?c2_q7 ?c3_q7 ?c4_q7 ?c5_q7; (case kA_q7 => exact rfl); (case kF_q7 => exact rfl); (case kK_q7 => assumption); (case k1_q7 => k_asm); (case k2_q7 => k_asm); (case k3_q7 => k_asm); (case k4_q7 => k_asm); (case k5_q7 => k_asm); (case k6_q7 => k_is); (case k7_q7 => k_is); (case k8_q7 => ktr_room); (case k9_q7 => exact BindsTo.of_eq rfl); (case c5_q7 => decide); (case kB_q7 => exact locs rfl); (case c2_q7 => exact rfl); (case c3_q7 => exact rfl); (case c4_q7 => exact rfl); k_whole; intro L' h' F' N' B' X' T'; (try dsimp only); (try k_fold)) | (refine' code_defGC ?k1_q7 ?k2_q7 ?k3_q7 ?k4_q7 ?k5_q7 ?kA_q7 ?kF_q7 ?kK_q7 ?k6_q7 ?k7_q7 ?k8_q7 ?k9_q7 ?kB_q7 ?kD_q7 ?_ ?c2_q7 ?c3_q7 ?c4_q7; (case kA_q7 => exact rfl); (case kF_q7 => exact rfl); (case kK_q7 => assumption); (case k1_q7 => k_asm); (case k2_q7 => k_asm); (case k3_q7 => k_asm); (case k4_q7 => k_asm); (case k5_q7 => k_asm); (case k6_q7 => k_is); (case k7_q7 => k_is); (case k8_q7 => ktr_room); (case k9_q7 => exact BindsTo.of_eq rfl); (case kB_q7 => exact rfl); (case kD_q7 => decide +kernel); (case c2_q7 => exact rfl); (case c3_q7 => exact rfl); (case c4_q7 => exact rfl); k_whole; intro L' h' tk' cells' F' N' Y' B' X' T'; k_cells Y'; (try dsimp only); (try k_fold)) | fail "step: no entry")
  k_with "ktr_step" => ((refine rlist_end (by assumption) (by assumption) (by assumption) (by assumption) (by assumption) (by assumption) List.mem_cons_self (by assumption) ?_))
  k_with "ktn_step" => ((refine rlist_end (vs := []) (by assumption) (by assumption) (by assumption) (by assumption) (by assumption) (by assumption) List.mem_cons_self IntsAre.nil ?_))
  k_with "ktf_step" => (first | assumption | exact lt_wid (by with_reducible assumption) (by k_dflt (exact rfl)) | k_dflt (exact Nat.le_of_ble_eq_true rfl) | l_fit)
  k_with "exec While Compare cons nil" => ((k_extra "while"))
  k_with "k_ne" => ((refine neN ?_; (try dsimp only); first | exact Apt.use (by assumption) (by k_mem) | exact Ne.symm (Apt.use (by assumption) (by k_mem)) | ((with_reducible rename (@Ne Nat _ _ ∧ _) ∧ _ => q9); first | with_reducible exact q9.1.1 | with_reducible exact Ne.symm q9.1.1 | with_reducible exact q9.1.2.1 | with_reducible exact Ne.symm q9.1.2.1 | with_reducible exact q9.1.2.2 | with_reducible exact Ne.symm q9.1.2.2 | with_reducible exact q9.1 | with_reducible exact Ne.symm q9.1 | with_reducible exact q9.2.1 | with_reducible exact Ne.symm q9.2.1 | with_reducible exact q9.2.2 | with_reducible exact Ne.symm q9.2.2 | with_reducible exact q9.2.1.1 | with_reducible exact Ne.symm q9.2.1.1 | with_reducible exact q9.2.1.2.1 | with_reducible exact Ne.symm q9.2.1.2.1 | with_reducible exact q9.2.1.2.2 | with_reducible exact Ne.symm q9.2.1.2.2 | with_reducible exact q9.2.2.1 | with_reducible exact Ne.symm q9.2.2.1 | with_reducible exact q9.2.2.2 | with_reducible exact Ne.symm q9.2.2.2 | with_reducible exact q9.2.2.1.1 | with_reducible exact Ne.symm q9.2.2.1.1 | with_reducible exact q9.2.2.1.2.1 | with_reducible exact Ne.symm q9.2.2.1.2.1 | with_reducible exact q9.2.2.1.2.2 | with_reducible exact Ne.symm q9.2.2.1.2.2 | with_reducible exact q9.2.2.2.1 | with_reducible exact Ne.symm q9.2.2.2.1 | with_reducible exact q9.2.2.2.2 | with_reducible exact Ne.symm q9.2.2.2.2 | with_reducible exact q9.2.2.2.1.1 | with_reducible exact Ne.symm q9.2.2.2.1.1 | with_reducible exact q9.2.2.2.1.2.1 | with_reducible exact Ne.symm q9.2.2.2.1.2.1 | with_reducible exact q9.2.2.2.1.2.2 | with_reducible exact Ne.symm q9.2.2.2.1.2.2 | with_reducible exact q9.2.2.2.2.1 | with_reducible exact Ne.symm q9.2.2.2.2.1 | with_reducible exact q9.2.2.2.2.2 | with_reducible exact Ne.symm q9.2.2.2.2.2 | with_reducible exact q9.2.2.2.2.1.1 | with_reducible exact Ne.symm q9.2.2.2.2.1.1 | with_reducible exact q9.2.2.2.2.1.2.1 | with_reducible exact Ne.symm q9.2.2.2.2.1.2.1 | with_reducible exact q9.2.2.2.2.1.2.2 | with_reducible exact Ne.symm q9.2.2.2.2.1.2.2 | with_reducible exact q9.2.2.2.2.2.1 | with_reducible exact Ne.symm q9.2.2.2.2.2.1 | with_reducible exact q9.2.2.2.2.2.2 | with_reducible exact Ne.symm q9.2.2.2.2.2.2) | ((with_reducible rename @Ne Nat _ _ ∧ _ => q9); first | with_reducible exact q9.1 | with_reducible exact Ne.symm q9.1 | with_reducible exact q9.2.1 | with_reducible exact Ne.symm q9.2.1 | with_reducible exact q9.2.2 | with_reducible exact Ne.symm q9.2.2)))
  k_with "execs cons" => ((dsimp only))
  k_with "eval BinOp" => ((dsimp only))
  k_with "storeName" => ((dsimp only))
  k_with "ktr_room" => ((first | exact room_of (by with_reducible assumption) (by k_dflt (exact rfl)) | exact room_in (by with_reducible assumption)))
  k_with "ktr_units" => ((exact room_of (by with_reducible assumption) (by k_dflt (exact rfl))))
  k_with "omega" => ((first | (with_reducible assumption) | exact lt_wid (by with_reducible assumption) (by k_dflt (exact rfl)) | exact le_wid (by with_reducible assumption) (by k_dflt (exact rfl)) | (k_dflt (exact Nat.le_of_ble_eq_true rfl)) | exact ilt_wid (And.right (by with_reducible assumption)) (by k_dflt (exact rfl)) | exact igt_wid (And.left (by with_reducible assumption)) (by k_dflt (exact rfl)) | (k_dflt decide) | exact Apt.use (by with_reducible assumption) (by k_mem) | exact Ne.symm (Apt.use (by with_reducible assumption) (by k_mem)) | ((repeat ((with_reducible rename (@Ne Nat _ _ ∧ _) ∧ _ => q9); clear q9)); (repeat ((with_reducible rename @Ne Nat _ _ ∧ _ => q9); clear q9)); (try clear hu); (try clear hd); omega +splitNatSub)))
  k_with "ktf_step" => (first | assumption | exact lt_wid (by with_reducible assumption) (by k_dflt (exact rfl)) | k_dflt (exact Nat.le_of_ble_eq_true rfl) | l_fit | ((simp only [List.length_cons, List.length_nil]); omega) | (simp only [List.length_cons, List.length_nil, List.length_append]; first | done | omega) | exact Nat.le_refl _)
  k_with "ktr_rel" => (first | assumption | exact IsTup.keeps (by assumption) (Fr.keep (by assumption)) | exact News.isTup (by assumption) (by k_mem) | fail "no tuple")
  k_with "subscriptTail Name BinOp ref int" => (((with_reducible show wpAny _ _ (subscriptTail _ _ (Value.ref _) (Value.int _ _)) _ _ _); k_dflt (refine' item_list_ints ?k1_q7 ?k2_q7 ?k3_q7 ?k4_q7 ?k5_q7 ?_; (case k1_q7 => first | exact News.isList (by assumption) (by k_mem) | is_list); (case k2_q7 => assumption); (case k3_q7 => ((repeat ((with_reducible rename (@Ne Nat _ _ ∧ _) ∧ _ => q9); clear q9)); (repeat ((with_reducible rename @Ne Nat _ _ ∧ _ => q9); clear q9)); omega)); (case k4_q7 => ((repeat ((with_reducible rename (@Ne Nat _ _ ∧ _) ∧ _ => q9); clear q9)); (repeat ((with_reducible rename @Ne Nat _ _ ∧ _ => q9); clear q9)); omega)); (case k5_q7 => ((repeat ((with_reducible rename (@Ne Nat _ _ ∧ _) ∧ _ => q9); clear q9)); (repeat ((with_reducible rename @Ne Nat _ _ ∧ _ => q9); clear q9)); omega)); k_whole); intro _))
  k_with "subscriptTail Name Name ref int" => (((with_reducible show wpAny _ _ (subscriptTail _ _ (Value.ref _) (Value.int _ _)) _ _ _); k_dflt (refine' item_list_ints ?k1_q7 ?k2_q7 ?k3_q7 ?k4_q7 ?k5_q7 ?_; (case k1_q7 => first | exact News.isList (by assumption) (by k_mem) | is_list); (case k2_q7 => assumption); (case k3_q7 => ((repeat ((with_reducible rename (@Ne Nat _ _ ∧ _) ∧ _ => q9); clear q9)); (repeat ((with_reducible rename @Ne Nat _ _ ∧ _ => q9); clear q9)); omega)); (case k4_q7 => ((repeat ((with_reducible rename (@Ne Nat _ _ ∧ _) ∧ _ => q9); clear q9)); (repeat ((with_reducible rename @Ne Nat _ _ ∧ _ => q9); clear q9)); omega)); (case k5_q7 => ((repeat ((with_reducible rename (@Ne Nat _ _ ∧ _) ∧ _ => q9); clear q9)); (repeat ((with_reducible rename @Ne Nat _ _ ∧ _ => q9); clear q9)); omega)); k_whole); intro _))
  k_with "l_ints" => (k_dflt (first | assumption | exact IntsAre.nil | exact IntsAre.cons _ _ IntsAre.nil | exact IntsAre.cons _ _ (IntsAre.cons _ _ IntsAre.nil) | exact IntsAre.cons _ _ (IntsAre.cons _ _ (IntsAre.cons _ _ IntsAre.nil)) | exact IntsAre.cons _ _ (IntsAre.cons _ _ (IntsAre.cons _ _ (IntsAre.cons _ _ (IntsAre.cons _ _ (IntsAre.cons _ _ (IntsAre.cons _ _ (IntsAre.cons _ _ IntsAre.nil))))))) | exact IntsAre.append (by l_ints) (IntsAre.cons _ _ IntsAre.nil)))
  unfold Con
  k_fill
  intro dp un gd cn cs aa ccd cl outer A₀ base h₀ L m news s Q E mean mg mb B F X N T hk hd hu hpre hret
  refine wpAny_call ?_
  k_dflt ktd_step
  k_steps
  refine rint_end hret (by assumption) (by assumption) ?_
  exact signP_of a

end
section
-- needs: C6 C5
section
variable {prog : Program} {w : World} {A : Around} {E : Value → Shared → Prop} {s : Shared} {env : Env} {h₀ : Heap} {x : Str} {body : List Stmt} {Q : Flow → Shared → Prop}
/-- a loop over reversed(a list of the ground): an invariant over the turn's number -/
theorem iter_revG {l I : Addr} {vs : List Value} {ns : List Int} {m₀ : Str → Option Value} {news : List (Addr × Obj)} (J : Nat → (Str → Option Value) → Prop)
    (hh : A.handled = none) (hl : h₀.IsList l vs.toArray) (hi : IntsAre vs ns) (F : Fr h₀ env.locals s.heap m₀) (N : News h₀ env.locals s.heap ((I, revObj l ((vs.length : Int) - 1)) :: news)) (hof : ∀ p ∈ news, p.1 ≠ I) (hj : J 0 m₀)
    (turn : ∀ i n t m₁ h tk own, ns.reverse[i]? = some n → J i m₁ → Fr h₀ env.locals h (fun y => if y = x then some (.int n t) else m₁ y) → News h₀ env.locals h (own ++ news) →
      wpAny (model prog w) A (execs body env) (InvPost h₀ env.locals (J (i + 1)) (own ++ news) { s with heap := h, toks := tk } Q) E { s with heap := h, toks := tk })
    (done : ∀ m₁ h tk, J ns.length m₁ → Fr h₀ env.locals h m₁ → News h₀ env.locals h news → Q .next { s with heap := h, toks := tk }) :
    wpAny (model prog w) A (pyIter (.ref I)) (fun it s₂ => LoopAtV prog w A h₀ env x body Q E it s₂) E s := by
  have hIx := N _ List.mem_cons_self
  have hls : s.heap.IsList l vs.toArray := hl.at fun o e => F.keep l o e
  obtain ⟨ol, hol, _⟩ := id hl
  have hlt : l < h₀.objs.size := Heap.lt_size hol
  have hne : l ≠ I := fun e => by rw [e, hIx.2.2] at hol; cases hol
  refine wpAny_pyIter_revIter (i := (vs.length : Int) - 1) ⟨_, hIx.1, rfl, rfl⟩ ?_
  have W := Walks.listRev (prog := prog) (w := w) hh I l hne vs.toArray
  have hlen : vs.toArray.size = ns.length := by simp [hi.length]
  rw [hlen] at W
  let J' : Nat → (Str → Option Value) → List (Addr × Obj) → Prop := fun i m₁ news₁ => news₁ = news ∧ J i m₁
  refine ⟨I, _, _, ns.length, _, _, m₀, news, J', rfl, W, ?_, ?_, ?_, ⟨Nat.zero_le _, ?_, hls⟩, F, (fun p hp => N p (List.mem_cons_of_mem _ hp)), ⟨rfl, hj⟩, ?_, ?_⟩
  · intro hm
    rcases List.mem_cons.mp hm with e | hm
    · exact hIx.2.1 e.symm
    · exact absurd (Nat.lt_of_lt_of_le hlt F.above) ((List.mem_singleton.mp hm) ▸ Nat.lt_irrefl _)
  · intro b hb
    rw [List.mem_singleton.mp hb]
    exact hIx.2.2
  · intro p hp hI
    exact hof p hp (List.mem_singleton.mp hI)
  · have e : (ns.length : Int) - 1 - ((0 : Nat) : Int) = (vs.length : Int) - 1 := by rw [hi.length]; omega
    rw [e]
    exact ⟨_, hIx.1, rfl, rfl⟩
  · rintro i v m₁ news₁ s₁ own ⟨hh', tk', rfl⟩ hin hP ⟨rfl, hJ⟩ hoff _ _ _ _ F₁ N₁
    have hlt' : i < ns.length := hin
    have hP2 : vs[ns.length - 1 - i]? = some v := by simpa using hP
    obtain ⟨t, hx⟩ := hi.get (ns.length - 1 - i) (ns[ns.length - 1 - i]'(by omega)) (by simp)
    have hv : v = .int (ns[ns.length - 1 - i]'(by omega)) t := by
      rw [hx] at hP2; exact (Option.some.inj hP2).symm
    subst hv
    have hrev : ns.reverse[i]? = some (ns[ns.length - 1 - i]'(by omega)) := by
      rw [List.getElem?_reverse hlt']
      exact List.getElem?_eq_getElem (by omega)
    refine wpAny_mono (turn i _ t m₁ hh' tk' own hrev hJ F₁ N₁) (fun f s₂ p => ?_) fun _ _ e => e
    have fin : InvEnd h₀ env.locals (J (i + 1)) (own ++ news₁) { s with heap := hh', toks := tk' } s₂ → LoopStepU h₀ env.locals [I] own (J' (i + 1)) { s with heap := hh', toks := tk' } .next s₂ := by
      rintro ⟨h', tk, m', news', e, F', N', hn, hm⟩
      exact ⟨rfl, h', tk, m', news₁, e, F', fun p hp => N' p (hn p hp), hoff, rfl, hm⟩
    cases f with
    | ret v => exact .ret p
    | brk => exact .brk p
    | next => exact .next (fin p)
    | cont => exact .cont (fin p)
  · rintro h' tk m' news' F' N' _ ⟨rfl, hJ⟩
    exact done m' h' tk hJ F' N'
/-- the same, two names that hold ints -/
theorem iter_rev2 {l I : Addr} {vs : List Value} {ns : List Int} {m₀ : Str → Option Value} {news : List (Addr × Obj)} {y z : Str} {a₀ b₀ : Int} {t₀ u₀ : Tok} (g : Int × Int → Int → Int × Int)
    (hh : A.handled = none) (hl : h₀.IsList l vs.toArray) (hi : IntsAre vs ns) (F : Fr h₀ env.locals s.heap m₀) (N : News h₀ env.locals s.heap ((I, revObj l ((vs.length : Int) - 1)) :: news)) (hof : ∀ p ∈ news, p.1 ≠ I)
    (hy : m₀ y = some (.int a₀ t₀)) (hz : m₀ z = some (.int b₀ u₀)) (hyx : y ≠ x) (hzx : z ≠ x) (hyz : y ≠ z)
    (turn : ∀ n t a ta b tb h tk own, n ∈ ns → Fr h₀ env.locals h (fun q => if q = x then some (.int n t) else if q = y then some (.int a ta) else if q = z then some (.int b tb) else m₀ q) → News h₀ env.locals h (own ++ news) →
      wpAny (model prog w) A (execs body env) (InvPost h₀ env.locals (fun m' => (∃ t', m' y = some (.int (g (a, b) n).1 t')) ∧ (∃ t', m' z = some (.int (g (a, b) n).2 t')) ∧ ∀ q, q ≠ x → q ≠ y → q ≠ z → m' q = m₀ q) (own ++ news) { s with heap := h, toks := tk } Q) E { s with heap := h, toks := tk })
    (done : ∀ (u : Str → Option Value) t t' h tk, Fr h₀ env.locals h (fun q => if q = y then some (.int (ns.reverse.foldl g (a₀, b₀)).1 t) else if q = z then some (.int (ns.reverse.foldl g (a₀, b₀)).2 t') else if q = x then u q else m₀ q) → News h₀ env.locals h news → Q .next { s with heap := h, toks := tk }) :
    wpAny (model prog w) A (pyIter (.ref I)) (fun it s₂ => LoopAtV prog w A h₀ env x body Q E it s₂) E s := by
  refine iter_revG (fun i m => (∃ t, m y = some (.int ((ns.reverse.take i).foldl g (a₀, b₀)).1 t)) ∧ (∃ t, m z = some (.int ((ns.reverse.take i).foldl g (a₀, b₀)).2 t)) ∧ ∀ q, q ≠ x → q ≠ y → q ≠ z → m q = m₀ q) hh hl hi F N hof ⟨⟨t₀, by simpa using hy⟩, ⟨u₀, by simpa using hz⟩, fun _ _ _ _ => rfl⟩ ?_ ?_
  · rintro i n t m₁ h tk own hn ⟨⟨ta, ha⟩, ⟨tb, hb⟩, hm⟩ F₁ N₁
    have e : (fun q => if q = x then some (Value.int n t) else m₁ q) = fun q => if q = x then some (Value.int n t) else if q = y then some (Value.int ((ns.reverse.take i).foldl g (a₀, b₀)).1 ta) else if q = z then some (Value.int ((ns.reverse.take i).foldl g (a₀, b₀)).2 tb) else m₀ q := by
      funext q
      by_cases h1 : q = x
      · simp [h1]
      · simp only [if_neg h1]
        by_cases h2 : q = y
        · subst h2; simp [ha]
        · simp only [if_neg h2]
          by_cases h3 : q = z
          · subst h3; simp [hb]
          · simp only [if_neg h3]; exact hm q h1 h2 h3
    rw [e] at F₁
    have hs : (ns.reverse.take (i + 1)).foldl g (a₀, b₀) = g ((ns.reverse.take i).foldl g (a₀, b₀)) n := by
      rw [List.take_add_one, hn]; simp
    rw [hs]
    exact turn n t _ ta _ tb h tk own (List.mem_reverse.mp (List.mem_of_getElem? hn)) F₁ N₁
  · rintro m₁ h tk ⟨⟨ta, ha⟩, ⟨tb, hb⟩, hm⟩ F₁ N₁
    have hlen : ns.reverse.take ns.length = ns.reverse := List.take_of_length_le (by rw [List.length_reverse]; exact Nat.le_refl _)
    rw [hlen] at ha hb
    refine done m₁ ta tb h tk ?_ N₁
    have e : (fun q => if q = y then some (Value.int (ns.reverse.foldl g (a₀, b₀)).1 ta) else if q = z then some (Value.int (ns.reverse.foldl g (a₀, b₀)).2 tb) else if q = x then m₁ q else m₀ q) = m₁ := by
      funext q
      by_cases h2 : q = y
      · subst h2; simp [ha]
      · simp only [if_neg h2]
        by_cases h3 : q = z
        · subst h3; simp [hb]
        · simp only [if_neg h3]
          by_cases h1 : q = x
          · simp [h1]
          · simp only [if_neg h1]; exact (hm q h1 h2 h3).symm
    rw [e]
    exact F₁
end
def HasT (x : Addr) (a b : Int) (h : Heap) : Prop := ∃ t u : Tok, IsTup h x #[.int a t, .int b u]
def vsP (ns : List Int) (a b : Int) : Int := signP ((ns.reverse.foldl (fun (s : Int × Int) c => (s.1 * a + c * s.2, s.2 * b)) (0, 1)).1)
theorem value_sign_c (w : World) (l x : Addr) (ns : List Int) (a b : Int) (hz : ns.length < 2 ^ 20) (hs : Small ns) (ha : -2 ^ 60 < a ∧ a < 2 ^ 60) (hb : -2 ^ 60 < b ∧ b < 2 ^ 60) : Con w 6 211 [.ref l, .ref x] (fun h => HasL l ns h ∧ HasT x a b h) (RInt (vsP ns a b)) := by
  w_top off
  k_with_none
  k_with "ktd_step" => (first | (refine' code_defG ?k1_q7 ?k2_q7 ?k3_q7 ?k4_q7 ?k5_q7 ?kA_q7 ?kF_q7 ?kK_q7 ?k6_q7 ?k7_q7 ?k8_q7 ?k9_q7 ?kB_q7 ?_ ?c2_q7 ?c3_q7 ?c4_q7 ?c5_q7; (case kA_q7 => exact rfl); (case kF_q7 => exact rfl); (case kK_q7 => assumption); (case k1_q7 => k_asm); (case k2_q7 => k_asm); (case k3_q7 => k_asm); (case k4_q7 => k_asm); (case k5_q7 => k_asm); (case k6_q7 => k_is); (case k7_q7 => k_is); (case k8_q7 => ktr_room); (case k9_q7 => exact BindsTo.of_eq rfl); (case c5_q7 => decide); (case kB_q7 => exact locs rfl); (case c2_q7 => exact rfl); (case c3_q7 => exact rfl); (case c4_q7 => exact rfl); k_whole; intro L' h' F' N' B' X' T'; (try dsimp only); (try k_fold)) | (refine' code_defGC ?k1_q7 ?k2_q7 ?k3_q7 ?k4_q7 ?k5_q7 ?kA_q7 ?kF_q7 ?kK_q7 ?k6_q7 ?k7_q7 ?k8_q7 ?k9_q7 ?kB_q7 ?kD_q7 ?_ ?c2_q7 ?c3_q7 ?c4_q7; (case kA_q7 => exact rfl); (case kF_q7 => exact rfl); (case kK_q7 => assumption); (case k1_q7 => k_asm); (case k2_q7 => k_asm); (case k3_q7 => k_asm); (case k4_q7 => k_asm); (case k5_q7 => k_asm); (case k6_q7 => k_is); (case k7_q7 => k_is); (case k8_q7 => ktr_room); (case k9_q7 => exact BindsTo.of_eq rfl); (case kB_q7 => exact rfl); (case kD_q7 => decide +kernel); (case c2_q7 => exact rfl); (case c3_q7 => exact rfl); (case c4_q7 => exact rfl); k_whole; intro L' h' tk' cells' F' N' Y' B' X' T'; k_cells Y'; (try dsimp only); (try k_fold)) | fail "step: no entry")
  k_with "ktr_step" => ((refine rlist_end (by assumption) (by assumption) (by assumption) (by assumption) (by assumption) (by assumption) List.mem_cons_self (by assumption) ?_))
  k_with "ktn_step" => ((refine rlist_end (vs := []) (by assumption) (by assumption) (by assumption) (by assumption) (by assumption) (by assumption) List.mem_cons_self IntsAre.nil ?_))
  k_with "ktf_step" => (first | assumption | exact lt_wid (by with_reducible assumption) (by k_dflt (exact rfl)) | k_dflt (exact Nat.le_of_ble_eq_true rfl) | l_fit)
  k_with "exec While Compare cons nil" => ((k_extra "while"))
  k_with "k_ne" => ((refine neN ?_; (try dsimp only); first | exact Apt.use (by assumption) (by k_mem) | exact Ne.symm (Apt.use (by assumption) (by k_mem)) | ((with_reducible rename (@Ne Nat _ _ ∧ _) ∧ _ => q9); first | with_reducible exact q9.1.1 | with_reducible exact Ne.symm q9.1.1 | with_reducible exact q9.1.2.1 | with_reducible exact Ne.symm q9.1.2.1 | with_reducible exact q9.1.2.2 | with_reducible exact Ne.symm q9.1.2.2 | with_reducible exact q9.1 | with_reducible exact Ne.symm q9.1 | with_reducible exact q9.2.1 | with_reducible exact Ne.symm q9.2.1 | with_reducible exact q9.2.2 | with_reducible exact Ne.symm q9.2.2 | with_reducible exact q9.2.1.1 | with_reducible exact Ne.symm q9.2.1.1 | with_reducible exact q9.2.1.2.1 | with_reducible exact Ne.symm q9.2.1.2.1 | with_reducible exact q9.2.1.2.2 | with_reducible exact Ne.symm q9.2.1.2.2 | with_reducible exact q9.2.2.1 | with_reducible exact Ne.symm q9.2.2.1 | with_reducible exact q9.2.2.2 | with_reducible exact Ne.symm q9.2.2.2 | with_reducible exact q9.2.2.1.1 | with_reducible exact Ne.symm q9.2.2.1.1 | with_reducible exact q9.2.2.1.2.1 | with_reducible exact Ne.symm q9.2.2.1.2.1 | with_reducible exact q9.2.2.1.2.2 | with_reducible exact Ne.symm q9.2.2.1.2.2 | with_reducible exact q9.2.2.2.1 | with_reducible exact Ne.symm q9.2.2.2.1 | with_reducible exact q9.2.2.2.2 | with_reducible exact Ne.symm q9.2.2.2.2 | with_reducible exact q9.2.2.2.1.1 | with_reducible exact Ne.symm q9.2.2.2.1.1 | with_reducible exact q9.2.2.2.1.2.1 | with_reducible exact Ne.symm q9.2.2.2.1.2.1 | with_reducible exact q9.2.2.2.1.2.2 | with_reducible exact Ne.symm q9.2.2.2.1.2.2 | with_reducible exact q9.2.2.2.2.1 | with_reducible exact Ne.symm q9.2.2.2.2.1 | with_reducible exact q9.2.2.2.2.2 | with_reducible exact Ne.symm q9.2.2.2.2.2 | with_reducible exact q9.2.2.2.2.1.1 | with_reducible exact Ne.symm q9.2.2.2.2.1.1 | with_reducible exact q9.2.2.2.2.1.2.1 | with_reducible exact Ne.symm q9.2.2.2.2.1.2.1 | with_reducible exact q9.2.2.2.2.1.2.2 | with_reducible exact Ne.symm q9.2.2.2.2.1.2.2 | with_reducible exact q9.2.2.2.2.2.1 | with_reducible exact Ne.symm q9.2.2.2.2.2.1 | with_reducible exact q9.2.2.2.2.2.2 | with_reducible exact Ne.symm q9.2.2.2.2.2.2) | ((with_reducible rename @Ne Nat _ _ ∧ _ => q9); first | with_reducible exact q9.1 | with_reducible exact Ne.symm q9.1 | with_reducible exact q9.2.1 | with_reducible exact Ne.symm q9.2.1 | with_reducible exact q9.2.2 | with_reducible exact Ne.symm q9.2.2)))
  k_with "execs cons" => ((dsimp only))
  k_with "eval BinOp" => ((dsimp only))
  k_with "storeName" => ((dsimp only))
  k_with "ktr_room" => ((first | exact room_of (by with_reducible assumption) (by k_dflt (exact rfl)) | exact room_in (by with_reducible assumption)))
  k_with "ktr_units" => ((exact room_of (by with_reducible assumption) (by k_dflt (exact rfl))))
  k_with "omega" => ((first | (with_reducible assumption) | exact lt_wid (by with_reducible assumption) (by k_dflt (exact rfl)) | exact le_wid (by with_reducible assumption) (by k_dflt (exact rfl)) | (k_dflt (exact Nat.le_of_ble_eq_true rfl)) | exact ilt_wid (And.right (by with_reducible assumption)) (by k_dflt (exact rfl)) | exact igt_wid (And.left (by with_reducible assumption)) (by k_dflt (exact rfl)) | (k_dflt decide) | exact Apt.use (by with_reducible assumption) (by k_mem) | exact Ne.symm (Apt.use (by with_reducible assumption) (by k_mem)) | ((repeat ((with_reducible rename (@Ne Nat _ _ ∧ _) ∧ _ => q9); clear q9)); (repeat ((with_reducible rename @Ne Nat _ _ ∧ _ => q9); clear q9)); (try clear hu); (try clear hd); omega +splitNatSub)))
  k_with "ktf_step" => (first | assumption | exact lt_wid (by with_reducible assumption) (by k_dflt (exact rfl)) | k_dflt (exact Nat.le_of_ble_eq_true rfl) | l_fit | ((simp only [List.length_cons, List.length_nil]); omega) | (simp only [List.length_cons, List.length_nil, List.length_append]; first | done | omega) | exact Nat.le_refl _)
  k_with "ktr_rel" => (first | assumption | exact IsTup.keeps (by assumption) (Fr.keep (by assumption)) | exact News.isTup (by assumption) (by k_mem) | fail "no tuple")
  k_with "subscriptTail Name BinOp ref int" => (((with_reducible show wpAny _ _ (subscriptTail _ _ (Value.ref _) (Value.int _ _)) _ _ _); k_dflt (refine' item_list_ints ?k1_q7 ?k2_q7 ?k3_q7 ?k4_q7 ?k5_q7 ?_; (case k1_q7 => first | exact News.isList (by assumption) (by k_mem) | is_list); (case k2_q7 => assumption); (case k3_q7 => ((repeat ((with_reducible rename (@Ne Nat _ _ ∧ _) ∧ _ => q9); clear q9)); (repeat ((with_reducible rename @Ne Nat _ _ ∧ _ => q9); clear q9)); omega)); (case k4_q7 => ((repeat ((with_reducible rename (@Ne Nat _ _ ∧ _) ∧ _ => q9); clear q9)); (repeat ((with_reducible rename @Ne Nat _ _ ∧ _ => q9); clear q9)); omega)); (case k5_q7 => ((repeat ((with_reducible rename (@Ne Nat _ _ ∧ _) ∧ _ => q9); clear q9)); (repeat ((with_reducible rename @Ne Nat _ _ ∧ _ => q9); clear q9)); omega)); k_whole); intro _))
  k_with "subscriptTail Name Name ref int" => (((with_reducible show wpAny _ _ (subscriptTail _ _ (Value.ref _) (Value.int _ _)) _ _ _); k_dflt (refine' item_list_ints ?k1_q7 ?k2_q7 ?k3_q7 ?k4_q7 ?k5_q7 ?_; (case k1_q7 => first | exact News.isList (by assumption) (by k_mem) | is_list); (case k2_q7 => assumption); (case k3_q7 => ((repeat ((with_reducible rename (@Ne Nat _ _ ∧ _) ∧ _ => q9); clear q9)); (repeat ((with_reducible rename @Ne Nat _ _ ∧ _ => q9); clear q9)); omega)); (case k4_q7 => ((repeat ((with_reducible rename (@Ne Nat _ _ ∧ _) ∧ _ => q9); clear q9)); (repeat ((with_reducible rename @Ne Nat _ _ ∧ _ => q9); clear q9)); omega)); (case k5_q7 => ((repeat ((with_reducible rename (@Ne Nat _ _ ∧ _) ∧ _ => q9); clear q9)); (repeat ((with_reducible rename @Ne Nat _ _ ∧ _ => q9); clear q9)); omega)); k_whole); intro _))
  k_with "l_ints" => (k_dflt (first | assumption | exact IntsAre.nil | exact IntsAre.cons _ _ IntsAre.nil | exact IntsAre.cons _ _ (IntsAre.cons _ _ IntsAre.nil) | exact IntsAre.cons _ _ (IntsAre.cons _ _ (IntsAre.cons _ _ IntsAre.nil)) | exact IntsAre.cons _ _ (IntsAre.cons _ _ (IntsAre.cons _ _ (IntsAre.cons _ _ (IntsAre.cons _ _ (IntsAre.cons _ _ (IntsAre.cons _ _ (IntsAre.cons _ _ IntsAre.nil))))))) | exact IntsAre.append (by l_ints) (IntsAre.cons _ _ IntsAre.nil)))
  k_with "call ref" => ((k_here; k_dflt ((refine' con_use (sign_c _ _ _) ?k1_q7 ?k2_q7 ?k3_q7 ?k4_q7 ?k5_q7 ?kK_q7 ?kd_q7 ?ku_q7 ?kp_q7 ?_; (case kp_q7 => exact trivial); (case k1_q7 => k_asm); (case k2_q7 => k_asm); (case k3_q7 => k_asm); (case k4_q7 => k_asm); (case k5_q7 => k_asm); (case kK_q7 => first | exact rfl | assumption); (case kd_q7 => ktr_room); (case ku_q7 => ktr_units); k_whole); intro t' h' tk' F' N'; (try k_sweep))))
  k_with "mul_fits" => (first | exact PySem.IntMulOk.of_right (PySem.intBits_le_64 (by omega) (by omega)) | exact PySem.IntMulOk.of_left (PySem.intBits_le_64 (by omega) (by omega)))
  unfold Con
  k_fill
  intro dp un gd cn cs aa ccd cl outer A₀ base h₀ L m news s Q E mean mg mb B F X N T hk hd hu hpre hret
  obtain ⟨⟨vs, hl, hi⟩, ⟨t9, u9, hx⟩⟩ := hpre
  refine wpAny_call ?_
  k_dflt ktd_step
  k_steps
  rename Fr _ _ _ _ => F8
  rename News _ _ _ _ => N8
  refine iter_rev2 (y := Str.ofString "found") (z := Str.ofString "scale") (fun (s : Int × Int) c => (s.1 * a + c * s.2, s.2 * b)) (by rfl) hl hi F8 N8 ?_ (by rfl) (by rfl) (by decide) (by decide) (by decide) ?_ ?_
  · intro p hp
    obtain rfl := List.mem_singleton.mp hp
    refine neN ?_; dsimp only; omega
  · intro n t a1 ta b1 tb h' tk own hn F' N'
    have hn9 := hs n hn
    clear F8 N8
    k_steps
    refine InvEnd.intro (by assumption) (by assumption) (fun _ h => h) ⟨⟨_, by rfl⟩, ⟨_, by rfl⟩, ?_⟩
    intro q h1 h2 h3
    simp [h1, h2, h3]
  · intro u t t' h' tk' F' N'
    clear F8 N8
    (try dsimp only)
    k_steps
    refine rint_end hret (by assumption) (by assumption) ?_
    rfl

theorem kitAt_G {g h : Heap} {L x : Addr} {m : Str → Option Value} {items : Array Value} (F : Fr g L h m) (t : IsTup g x items) : KitAt x "tuple" h := by
  obtain ⟨o, ho, hc, _⟩ := t
  exact ⟨o, F.keep _ _ ho, hc⟩
theorem sign_at_c (w : World) (l x : Addr) (ns : List Int) (a b : Int) (hz : ns.length < 2 ^ 20) (hs : Small ns) (ha : -2 ^ 60 < a ∧ a < 2 ^ 60) (hb : -2 ^ 60 < b ∧ b < 2 ^ 60) : Con w 9 225 [.ref l, .ref x] (fun h => HasL l ns h ∧ HasT x a b h) (RInt (vsP ns a b)) := by
  w_top off
  k_with_none
  k_with "ktd_step" => (first | (refine' code_defG ?k1_q7 ?k2_q7 ?k3_q7 ?k4_q7 ?k5_q7 ?kA_q7 ?kF_q7 ?kK_q7 ?k6_q7 ?k7_q7 ?k8_q7 ?k9_q7 ?kB_q7 ?_ ?c2_q7 ?c3_q7 ?c4_q7 ?c5_q7; (case kA_q7 => exact rfl); (case kF_q7 => exact rfl); (case kK_q7 => assumption); (case k1_q7 => k_asm); (case k2_q7 => k_asm); (case k3_q7 => k_asm); (case k4_q7 => k_asm); (case k5_q7 => k_asm); (case k6_q7 => k_is); (case k7_q7 => k_is); (case k8_q7 => ktr_room); (case k9_q7 => exact BindsTo.of_eq rfl); (case c5_q7 => decide); (case kB_q7 => exact locs rfl); (case c2_q7 => exact rfl); (case c3_q7 => exact rfl); (case c4_q7 => exact rfl); k_whole; intro L' h' F' N' B' X' T'; (try dsimp only); (try k_fold)) | (refine' code_defGC ?k1_q7 ?k2_q7 ?k3_q7 ?k4_q7 ?k5_q7 ?kA_q7 ?kF_q7 ?kK_q7 ?k6_q7 ?k7_q7 ?k8_q7 ?k9_q7 ?kB_q7 ?kD_q7 ?_ ?c2_q7 ?c3_q7 ?c4_q7; (case kA_q7 => exact rfl); (case kF_q7 => exact rfl); (case kK_q7 => assumption); (case k1_q7 => k_asm); (case k2_q7 => k_asm); (case k3_q7 => k_asm); (case k4_q7 => k_asm); (case k5_q7 => k_asm); (case k6_q7 => k_is); (case k7_q7 => k_is); (case k8_q7 => ktr_room); (case k9_q7 => exact BindsTo.of_eq rfl); (case kB_q7 => exact rfl); (case kD_q7 => decide +kernel); (case c2_q7 => exact rfl); (case c3_q7 => exact rfl); (case c4_q7 => exact rfl); k_whole; intro L' h' tk' cells' F' N' Y' B' X' T'; k_cells Y'; (try dsimp only); (try k_fold)) | fail "step: no entry")
  k_with "ktr_step" => ((refine rlist_end (by assumption) (by assumption) (by assumption) (by assumption) (by assumption) (by assumption) List.mem_cons_self (by assumption) ?_))
  k_with "ktn_step" => ((refine rlist_end (vs := []) (by assumption) (by assumption) (by assumption) (by assumption) (by assumption) (by assumption) List.mem_cons_self IntsAre.nil ?_))
  k_with "ktf_step" => (first | assumption | exact lt_wid (by with_reducible assumption) (by k_dflt (exact rfl)) | k_dflt (exact Nat.le_of_ble_eq_true rfl) | l_fit)
  k_with "exec While Compare cons nil" => ((k_extra "while"))
  k_with "k_ne" => ((refine neN ?_; (try dsimp only); first | exact Apt.use (by assumption) (by k_mem) | exact Ne.symm (Apt.use (by assumption) (by k_mem)) | ((with_reducible rename (@Ne Nat _ _ ∧ _) ∧ _ => q9); first | with_reducible exact q9.1.1 | with_reducible exact Ne.symm q9.1.1 | with_reducible exact q9.1.2.1 | with_reducible exact Ne.symm q9.1.2.1 | with_reducible exact q9.1.2.2 | with_reducible exact Ne.symm q9.1.2.2 | with_reducible exact q9.1 | with_reducible exact Ne.symm q9.1 | with_reducible exact q9.2.1 | with_reducible exact Ne.symm q9.2.1 | with_reducible exact q9.2.2 | with_reducible exact Ne.symm q9.2.2 | with_reducible exact q9.2.1.1 | with_reducible exact Ne.symm q9.2.1.1 | with_reducible exact q9.2.1.2.1 | with_reducible exact Ne.symm q9.2.1.2.1 | with_reducible exact q9.2.1.2.2 | with_reducible exact Ne.symm q9.2.1.2.2 | with_reducible exact q9.2.2.1 | with_reducible exact Ne.symm q9.2.2.1 | with_reducible exact q9.2.2.2 | with_reducible exact Ne.symm q9.2.2.2 | with_reducible exact q9.2.2.1.1 | with_reducible exact Ne.symm q9.2.2.1.1 | with_reducible exact q9.2.2.1.2.1 | with_reducible exact Ne.symm q9.2.2.1.2.1 | with_reducible exact q9.2.2.1.2.2 | with_reducible exact Ne.symm q9.2.2.1.2.2 | with_reducible exact q9.2.2.2.1 | with_reducible exact Ne.symm q9.2.2.2.1 | with_reducible exact q9.2.2.2.2 | with_reducible exact Ne.symm q9.2.2.2.2 | with_reducible exact q9.2.2.2.1.1 | with_reducible exact Ne.symm q9.2.2.2.1.1 | with_reducible exact q9.2.2.2.1.2.1 | with_reducible exact Ne.symm q9.2.2.2.1.2.1 | with_reducible exact q9.2.2.2.1.2.2 | with_reducible exact Ne.symm q9.2.2.2.1.2.2 | with_reducible exact q9.2.2.2.2.1 | with_reducible exact Ne.symm q9.2.2.2.2.1 | with_reducible exact q9.2.2.2.2.2 | with_reducible exact Ne.symm q9.2.2.2.2.2 | with_reducible exact q9.2.2.2.2.1.1 | with_reducible exact Ne.symm q9.2.2.2.2.1.1 | with_reducible exact q9.2.2.2.2.1.2.1 | with_reducible exact Ne.symm q9.2.2.2.2.1.2.1 | with_reducible exact q9.2.2.2.2.1.2.2 | with_reducible exact Ne.symm q9.2.2.2.2.1.2.2 | with_reducible exact q9.2.2.2.2.2.1 | with_reducible exact Ne.symm q9.2.2.2.2.2.1 | with_reducible exact q9.2.2.2.2.2.2 | with_reducible exact Ne.symm q9.2.2.2.2.2.2) | ((with_reducible rename @Ne Nat _ _ ∧ _ => q9); first | with_reducible exact q9.1 | with_reducible exact Ne.symm q9.1 | with_reducible exact q9.2.1 | with_reducible exact Ne.symm q9.2.1 | with_reducible exact q9.2.2 | with_reducible exact Ne.symm q9.2.2)))
  k_with "execs cons" => ((dsimp only))
  k_with "eval BinOp" => ((dsimp only))
  k_with "storeName" => ((dsimp only))
  k_with "ktr_room" => ((first | exact room_of (by with_reducible assumption) (by k_dflt (exact rfl)) | exact room_in (by with_reducible assumption)))
  k_with "ktr_units" => ((exact room_of (by with_reducible assumption) (by k_dflt (exact rfl))))
  k_with "omega" => ((first | (with_reducible assumption) | exact lt_wid (by with_reducible assumption) (by k_dflt (exact rfl)) | exact le_wid (by with_reducible assumption) (by k_dflt (exact rfl)) | (k_dflt (exact Nat.le_of_ble_eq_true rfl)) | exact ilt_wid (And.right (by with_reducible assumption)) (by k_dflt (exact rfl)) | exact igt_wid (And.left (by with_reducible assumption)) (by k_dflt (exact rfl)) | (k_dflt decide) | exact Apt.use (by with_reducible assumption) (by k_mem) | exact Ne.symm (Apt.use (by with_reducible assumption) (by k_mem)) | ((repeat ((with_reducible rename (@Ne Nat _ _ ∧ _) ∧ _ => q9); clear q9)); (repeat ((with_reducible rename @Ne Nat _ _ ∧ _ => q9); clear q9)); (try clear hu); (try clear hd); omega +splitNatSub)))
  k_with "ktf_step" => (first | assumption | exact lt_wid (by with_reducible assumption) (by k_dflt (exact rfl)) | k_dflt (exact Nat.le_of_ble_eq_true rfl) | l_fit | ((simp only [List.length_cons, List.length_nil]); omega) | (simp only [List.length_cons, List.length_nil, List.length_append]; first | done | omega) | exact Nat.le_refl _)
  k_with "ktr_rel" => (first | assumption | exact IsTup.keeps (by assumption) (Fr.keep (by assumption)) | exact News.isTup (by assumption) (by k_mem) | fail "no tuple")
  k_with "subscriptTail Name BinOp ref int" => (((with_reducible show wpAny _ _ (subscriptTail _ _ (Value.ref _) (Value.int _ _)) _ _ _); k_dflt (refine' item_list_ints ?k1_q7 ?k2_q7 ?k3_q7 ?k4_q7 ?k5_q7 ?_; (case k1_q7 => first | exact News.isList (by assumption) (by k_mem) | is_list); (case k2_q7 => assumption); (case k3_q7 => ((repeat ((with_reducible rename (@Ne Nat _ _ ∧ _) ∧ _ => q9); clear q9)); (repeat ((with_reducible rename @Ne Nat _ _ ∧ _ => q9); clear q9)); omega)); (case k4_q7 => ((repeat ((with_reducible rename (@Ne Nat _ _ ∧ _) ∧ _ => q9); clear q9)); (repeat ((with_reducible rename @Ne Nat _ _ ∧ _ => q9); clear q9)); omega)); (case k5_q7 => ((repeat ((with_reducible rename (@Ne Nat _ _ ∧ _) ∧ _ => q9); clear q9)); (repeat ((with_reducible rename @Ne Nat _ _ ∧ _ => q9); clear q9)); omega)); k_whole); intro _))
  k_with "subscriptTail Name Name ref int" => (((with_reducible show wpAny _ _ (subscriptTail _ _ (Value.ref _) (Value.int _ _)) _ _ _); k_dflt (refine' item_list_ints ?k1_q7 ?k2_q7 ?k3_q7 ?k4_q7 ?k5_q7 ?_; (case k1_q7 => first | exact News.isList (by assumption) (by k_mem) | is_list); (case k2_q7 => assumption); (case k3_q7 => ((repeat ((with_reducible rename (@Ne Nat _ _ ∧ _) ∧ _ => q9); clear q9)); (repeat ((with_reducible rename @Ne Nat _ _ ∧ _ => q9); clear q9)); omega)); (case k4_q7 => ((repeat ((with_reducible rename (@Ne Nat _ _ ∧ _) ∧ _ => q9); clear q9)); (repeat ((with_reducible rename @Ne Nat _ _ ∧ _ => q9); clear q9)); omega)); (case k5_q7 => ((repeat ((with_reducible rename (@Ne Nat _ _ ∧ _) ∧ _ => q9); clear q9)); (repeat ((with_reducible rename @Ne Nat _ _ ∧ _ => q9); clear q9)); omega)); k_whole); intro _))
  k_with "l_ints" => (k_dflt (first | assumption | exact IntsAre.nil | exact IntsAre.cons _ _ IntsAre.nil | exact IntsAre.cons _ _ (IntsAre.cons _ _ IntsAre.nil) | exact IntsAre.cons _ _ (IntsAre.cons _ _ (IntsAre.cons _ _ IntsAre.nil)) | exact IntsAre.cons _ _ (IntsAre.cons _ _ (IntsAre.cons _ _ (IntsAre.cons _ _ (IntsAre.cons _ _ (IntsAre.cons _ _ (IntsAre.cons _ _ (IntsAre.cons _ _ IntsAre.nil))))))) | exact IntsAre.append (by l_ints) (IntsAre.cons _ _ IntsAre.nil)))
  k_with "call ref" => ((k_here; k_dflt ((refine' con_use (sign_c _ _ _) ?k1_q7 ?k2_q7 ?k3_q7 ?k4_q7 ?k5_q7 ?kK_q7 ?kd_q7 ?ku_q7 ?kp_q7 ?_; (case kp_q7 => exact trivial); (case k1_q7 => k_asm); (case k2_q7 => k_asm); (case k3_q7 => k_asm); (case k4_q7 => k_asm); (case k5_q7 => k_asm); (case kK_q7 => first | exact rfl | assumption); (case kd_q7 => ktr_room); (case ku_q7 => ktr_units); k_whole); intro t' h' tk' F' N'; (try k_sweep))))
  k_with "mul_fits" => (first | exact PySem.IntMulOk.of_right (PySem.intBits_le_64 (by omega) (by omega)) | exact PySem.IntMulOk.of_left (PySem.intBits_le_64 (by omega) (by omega)))
  k_with "kit_at" => (exact kitAt_G (by assumption) (by assumption))
  k_with "call ref" => ((k_here; k_dflt ((refine' con_use (value_sign_c _ _ _ _ _ _ ?hz_q7 ?hs_q7 ?ha_q7 ?hb_q7) ?k1_q7 ?k2_q7 ?k3_q7 ?k4_q7 ?k5_q7 ?kK_q7 ?kd_q7 ?ku_q7 ?kp_q7 ?_; (case kp_q7 => exact ⟨hasL_of (by is_list) (by l_ints), ⟨_, _, by ktr_rel⟩⟩); (case hz_q7 => ktf_step); (case hs_q7 => first | assumption | exact (polyOk_of (polyF (by assumption) (by assumption))).2.2.1); (case ha_q7 => first | assumption | exact (bnd_of (by assumption) (by assumption) (by decide)).2); (case hb_q7 => first | assumption | exact bndb_of (by assumption) (by assumption) (by decide)); (case k1_q7 => k_asm); (case k2_q7 => k_asm); (case k3_q7 => k_asm); (case k4_q7 => k_asm); (case k5_q7 => k_asm); (case kK_q7 => first | exact rfl | assumption); (case kd_q7 => ktr_room); (case ku_q7 => ktr_units); k_whole); intro t' h' tk' F' N'; (try k_sweep))))
  unfold Con
  k_fill
  intro dp un gd cn cs aa ccd cl outer A₀ base h₀ L m news s Q E mean mg mb B F X N T hk hd hu hpre hret
  obtain ⟨⟨vs, hl, hi⟩, ⟨t9, u9, hx⟩⟩ := hpre
  refine wpAny_call ?_
  k_dflt ktd_step
  k_steps
  refine rint_end hret (by assumption) (by assumption) ?_
  rfl

end
section
-- needs: C5
def shiftP (c0 c1 c2 n : Int) : List Int := [c0 + n * (c1 + n * c2), c1 + n * c2 + n * c2, c2]
theorem zshift_c (w : World) (l : Addr) (c0 c1 c2 n : Int) (t : Tok) (hn : -2 ^ 60 < n ∧ n < 2 ^ 60) : Con w 6 148 [.ref l, .int n t] (HasL l [c0, c1, c2]) (RList (shiftP c0 c1 c2 n)) := by
  w_top off
  k_with_none
  k_with "ktd_step" => (first | (refine' code_defG ?k1_q7 ?k2_q7 ?k3_q7 ?k4_q7 ?k5_q7 ?kA_q7 ?kF_q7 ?kK_q7 ?k6_q7 ?k7_q7 ?k8_q7 ?k9_q7 ?kB_q7 ?_ ?c2_q7 ?c3_q7 ?c4_q7 ?c5_q7; (case kA_q7 => exact rfl); (case kF_q7 => exact rfl); (case kK_q7 => assumption); (case k1_q7 => k_asm); (case k2_q7 => k_asm); (case k3_q7 => k_asm); (case k4_q7 => k_asm); (case k5_q7 => k_asm); (case k6_q7 => k_is); (case k7_q7 => k_is); (case k8_q7 => ktr_room); (case k9_q7 => exact BindsTo.of_eq rfl); (case c5_q7 => decide); (case kB_q7 => exact locs rfl); (case c2_q7 => exact rfl); (case c3_q7 => exact rfl); (case c4_q7 => exact rfl); k_whole; intro L' h' F' N' B' X' T'; (try dsimp only); (try k_fold)) | (refine' code_defGC ?k1_q7 ?k2_q7 ?k3_q7 ?k4_q7 ?k5_q7 ?kA_q7 ?kF_q7 ?kK_q7 ?k6_q7 ?k7_q7 ?k8_q7 ?k9_q7 ?kB_q7 ?kD_q7 ?_ ?c2_q7 ?c3_q7 ?c4_q7; (case kA_q7 => exact rfl); (case kF_q7 => exact rfl); (case kK_q7 => assumption); (case k1_q7 => k_asm); (case k2_q7 => k_asm); (case k3_q7 => k_asm); (case k4_q7 => k_asm); (case k5_q7 => k_asm); (case k6_q7 => k_is); (case k7_q7 => k_is); (case k8_q7 => ktr_room); (case k9_q7 => exact BindsTo.of_eq rfl); (case kB_q7 => exact rfl); (case kD_q7 => decide +kernel); (case c2_q7 => exact rfl); (case c3_q7 => exact rfl); (case c4_q7 => exact rfl); k_whole; intro L' h' tk' cells' F' N' Y' B' X' T'; k_cells Y'; (try dsimp only); (try k_fold)) | fail "step: no entry")
  k_with "ktr_step" => ((refine rlist_end (by assumption) (by assumption) (by assumption) (by assumption) (by assumption) (by assumption) List.mem_cons_self (by assumption) ?_))
  k_with "ktn_step" => ((refine rlist_end (vs := []) (by assumption) (by assumption) (by assumption) (by assumption) (by assumption) (by assumption) List.mem_cons_self IntsAre.nil ?_))
  k_with "ktf_step" => (first | assumption | exact lt_wid (by with_reducible assumption) (by k_dflt (exact rfl)) | k_dflt (exact Nat.le_of_ble_eq_true rfl) | l_fit)
  k_with "exec While Compare cons nil" => ((k_extra "while"))
  k_with "k_ne" => ((refine neN ?_; (try dsimp only); first | exact Apt.use (by assumption) (by k_mem) | exact Ne.symm (Apt.use (by assumption) (by k_mem)) | ((with_reducible rename (@Ne Nat _ _ ∧ _) ∧ _ => q9); first | with_reducible exact q9.1.1 | with_reducible exact Ne.symm q9.1.1 | with_reducible exact q9.1.2.1 | with_reducible exact Ne.symm q9.1.2.1 | with_reducible exact q9.1.2.2 | with_reducible exact Ne.symm q9.1.2.2 | with_reducible exact q9.1 | with_reducible exact Ne.symm q9.1 | with_reducible exact q9.2.1 | with_reducible exact Ne.symm q9.2.1 | with_reducible exact q9.2.2 | with_reducible exact Ne.symm q9.2.2 | with_reducible exact q9.2.1.1 | with_reducible exact Ne.symm q9.2.1.1 | with_reducible exact q9.2.1.2.1 | with_reducible exact Ne.symm q9.2.1.2.1 | with_reducible exact q9.2.1.2.2 | with_reducible exact Ne.symm q9.2.1.2.2 | with_reducible exact q9.2.2.1 | with_reducible exact Ne.symm q9.2.2.1 | with_reducible exact q9.2.2.2 | with_reducible exact Ne.symm q9.2.2.2 | with_reducible exact q9.2.2.1.1 | with_reducible exact Ne.symm q9.2.2.1.1 | with_reducible exact q9.2.2.1.2.1 | with_reducible exact Ne.symm q9.2.2.1.2.1 | with_reducible exact q9.2.2.1.2.2 | with_reducible exact Ne.symm q9.2.2.1.2.2 | with_reducible exact q9.2.2.2.1 | with_reducible exact Ne.symm q9.2.2.2.1 | with_reducible exact q9.2.2.2.2 | with_reducible exact Ne.symm q9.2.2.2.2 | with_reducible exact q9.2.2.2.1.1 | with_reducible exact Ne.symm q9.2.2.2.1.1 | with_reducible exact q9.2.2.2.1.2.1 | with_reducible exact Ne.symm q9.2.2.2.1.2.1 | with_reducible exact q9.2.2.2.1.2.2 | with_reducible exact Ne.symm q9.2.2.2.1.2.2 | with_reducible exact q9.2.2.2.2.1 | with_reducible exact Ne.symm q9.2.2.2.2.1 | with_reducible exact q9.2.2.2.2.2 | with_reducible exact Ne.symm q9.2.2.2.2.2 | with_reducible exact q9.2.2.2.2.1.1 | with_reducible exact Ne.symm q9.2.2.2.2.1.1 | with_reducible exact q9.2.2.2.2.1.2.1 | with_reducible exact Ne.symm q9.2.2.2.2.1.2.1 | with_reducible exact q9.2.2.2.2.1.2.2 | with_reducible exact Ne.symm q9.2.2.2.2.1.2.2 | with_reducible exact q9.2.2.2.2.2.1 | with_reducible exact Ne.symm q9.2.2.2.2.2.1 | with_reducible exact q9.2.2.2.2.2.2 | with_reducible exact Ne.symm q9.2.2.2.2.2.2) | ((with_reducible rename @Ne Nat _ _ ∧ _ => q9); first | with_reducible exact q9.1 | with_reducible exact Ne.symm q9.1 | with_reducible exact q9.2.1 | with_reducible exact Ne.symm q9.2.1 | with_reducible exact q9.2.2 | with_reducible exact Ne.symm q9.2.2)))
  k_with "execs cons" => ((dsimp only))
  k_with "eval BinOp" => ((dsimp only))
  k_with "storeName" => ((dsimp only))
  k_with "ktr_room" => ((first | exact room_of (by with_reducible assumption) (by k_dflt (exact rfl)) | exact room_in (by with_reducible assumption)))
  k_with "ktr_units" => ((exact room_of (by with_reducible assumption) (by k_dflt (exact rfl))))
  k_with "omega" => ((first | (with_reducible assumption) | exact lt_wid (by with_reducible assumption) (by k_dflt (exact rfl)) | exact le_wid (by with_reducible assumption) (by k_dflt (exact rfl)) | (k_dflt (exact Nat.le_of_ble_eq_true rfl)) | exact ilt_wid (And.right (by with_reducible assumption)) (by k_dflt (exact rfl)) | exact igt_wid (And.left (by with_reducible assumption)) (by k_dflt (exact rfl)) | (k_dflt decide) | exact Apt.use (by with_reducible assumption) (by k_mem) | exact Ne.symm (Apt.use (by with_reducible assumption) (by k_mem)) | ((repeat ((with_reducible rename (@Ne Nat _ _ ∧ _) ∧ _ => q9); clear q9)); (repeat ((with_reducible rename @Ne Nat _ _ ∧ _ => q9); clear q9)); (try clear hu); (try clear hd); omega +splitNatSub)))
  k_with "ktf_step" => (first | assumption | exact lt_wid (by with_reducible assumption) (by k_dflt (exact rfl)) | k_dflt (exact Nat.le_of_ble_eq_true rfl) | l_fit | ((simp only [List.length_cons, List.length_nil]); omega) | (simp only [List.length_cons, List.length_nil, List.length_append]; first | done | omega) | exact Nat.le_refl _)
  k_with "ktr_rel" => (first | assumption | exact IsTup.keeps (by assumption) (Fr.keep (by assumption)) | exact News.isTup (by assumption) (by k_mem) | fail "no tuple")
  k_with "subscriptTail Name BinOp ref int" => (((with_reducible show wpAny _ _ (subscriptTail _ _ (Value.ref _) (Value.int _ _)) _ _ _); k_dflt (refine' item_list_ints ?k1_q7 ?k2_q7 ?k3_q7 ?k4_q7 ?k5_q7 ?_; (case k1_q7 => first | exact News.isList (by assumption) (by k_mem) | is_list); (case k2_q7 => assumption); (case k3_q7 => ((repeat ((with_reducible rename (@Ne Nat _ _ ∧ _) ∧ _ => q9); clear q9)); (repeat ((with_reducible rename @Ne Nat _ _ ∧ _ => q9); clear q9)); omega)); (case k4_q7 => ((repeat ((with_reducible rename (@Ne Nat _ _ ∧ _) ∧ _ => q9); clear q9)); (repeat ((with_reducible rename @Ne Nat _ _ ∧ _ => q9); clear q9)); omega)); (case k5_q7 => ((repeat ((with_reducible rename (@Ne Nat _ _ ∧ _) ∧ _ => q9); clear q9)); (repeat ((with_reducible rename @Ne Nat _ _ ∧ _ => q9); clear q9)); omega)); k_whole); intro _))
  k_with "subscriptTail Name Name ref int" => (((with_reducible show wpAny _ _ (subscriptTail _ _ (Value.ref _) (Value.int _ _)) _ _ _); k_dflt (refine' item_list_ints ?k1_q7 ?k2_q7 ?k3_q7 ?k4_q7 ?k5_q7 ?_; (case k1_q7 => first | exact News.isList (by assumption) (by k_mem) | is_list); (case k2_q7 => assumption); (case k3_q7 => ((repeat ((with_reducible rename (@Ne Nat _ _ ∧ _) ∧ _ => q9); clear q9)); (repeat ((with_reducible rename @Ne Nat _ _ ∧ _ => q9); clear q9)); omega)); (case k4_q7 => ((repeat ((with_reducible rename (@Ne Nat _ _ ∧ _) ∧ _ => q9); clear q9)); (repeat ((with_reducible rename @Ne Nat _ _ ∧ _ => q9); clear q9)); omega)); (case k5_q7 => ((repeat ((with_reducible rename (@Ne Nat _ _ ∧ _) ∧ _ => q9); clear q9)); (repeat ((with_reducible rename @Ne Nat _ _ ∧ _ => q9); clear q9)); omega)); k_whole); intro _))
  k_with "l_ints" => (k_dflt (first | assumption | exact IntsAre.nil | exact IntsAre.cons _ _ IntsAre.nil | exact IntsAre.cons _ _ (IntsAre.cons _ _ IntsAre.nil) | exact IntsAre.cons _ _ (IntsAre.cons _ _ (IntsAre.cons _ _ IntsAre.nil)) | exact IntsAre.cons _ _ (IntsAre.cons _ _ (IntsAre.cons _ _ (IntsAre.cons _ _ (IntsAre.cons _ _ (IntsAre.cons _ _ (IntsAre.cons _ _ (IntsAre.cons _ _ IntsAre.nil))))))) | exact IntsAre.append (by l_ints) (IntsAre.cons _ _ IntsAre.nil)))
  unfold Con
  k_fill
  intro dp un gd cn cs aa ccd cl outer A₀ base h₀ L m news s Q E mean mg mb B F X N T hk hd hu hpre hret
  obtain ⟨vs, hl, hi⟩ := hpre
  refine wpAny_call ?_
  k_dflt ktd_step
  k_steps
  ktr_step
  rfl

end
section
-- needs: C7
theorem finE_hide {h₀ : Heap} {L : Addr} {m : Str → Option Value} {s : Shared} {Q : Value → Shared → Prop} {ys : List Value} {ns : List Int} {news : List (Addr × Obj)} (hi : IntsAre ys ns) (h : ∀ ys', IntsAre ys' ns → ys'.length = ns.length → LCg.FinE h₀ L m s Q ys' news) : LCg.FinE h₀ L m s Q ys news := h ys hi hi.length
theorem apt_of_off1 {D : Addr} : ∀ {l : List (Addr × Obj)}, LCg.Off1 D l → Apt l D
  | [], _ => fun _ h => nomatch h
  | p :: r, h => fun q hq => by
    rcases List.mem_cons.mp hq with rfl | hq
    · exact h.1
    · exact apt_of_off1 h.2 q hq
theorem filter_hide {vs : List Value} {p : Int → Bool} {xs : List Int} (h : IntsAre vs (List.map (fun a => a) (List.filter p xs))) : ∃ sg : List Int, IntsAre vs sg ∧ sg = List.filter p xs ∧ sg.length ≤ xs.length := ⟨List.filter p xs, by simpa using h, rfl, List.length_filter_le _ _⟩
def chgP (xs : List Int) : Int := ((rangeKs 1 (((xs.filter fun a => a != 0).length : Int) - 1).toNat).foldl (fun (l : List Int) k => if ¬ (xs.filter fun a => a != 0).getD k.toNat 0 = (xs.filter fun a => a != 0).getD (k - 1).toNat 0 then l ++ [1] else l) []).length
abbrev Row3 (r : Addr) (l0 l1 l2 : Addr) (h : Heap) : Prop := h.IsList r #[.ref l0, .ref l1, .ref l2]
theorem changes_c (w : World) (r l0 l1 l2 x : Addr) (p0 p1 p2 : List Int) (a b : Int) (hz0 : p0.length < 2 ^ 20) (hz1 : p1.length < 2 ^ 20) (hz2 : p2.length < 2 ^ 20) (hs0 : Small p0) (hs1 : Small p1) (hs2 : Small p2) (ha : -2 ^ 60 < a ∧ a < 2 ^ 60) (hb : -2 ^ 60 < b ∧ b < 2 ^ 60) :
    Con w 12 256 [.ref r, .ref x] (fun h => Row3 r l0 l1 l2 h ∧ HasL l0 p0 h ∧ HasL l1 p1 h ∧ HasL l2 p2 h ∧ HasT x a b h) (RInt (chgP [vsP p0 a b, vsP p1 a b, vsP p2 a b])) := by
  w_top off
  k_with_none
  k_with "ktd_step" => (first | (refine' code_defG ?k1_q7 ?k2_q7 ?k3_q7 ?k4_q7 ?k5_q7 ?kA_q7 ?kF_q7 ?kK_q7 ?k6_q7 ?k7_q7 ?k8_q7 ?k9_q7 ?kB_q7 ?_ ?c2_q7 ?c3_q7 ?c4_q7 ?c5_q7; (case kA_q7 => exact rfl); (case kF_q7 => exact rfl); (case kK_q7 => assumption); (case k1_q7 => k_asm); (case k2_q7 => k_asm); (case k3_q7 => k_asm); (case k4_q7 => k_asm); (case k5_q7 => k_asm); (case k6_q7 => k_is); (case k7_q7 => k_is); (case k8_q7 => ktr_room); (case k9_q7 => exact BindsTo.of_eq rfl); (case c5_q7 => decide); (case kB_q7 => exact locs rfl); (case c2_q7 => exact rfl); (case c3_q7 => exact rfl); (case c4_q7 => exact rfl); k_whole; intro L' h' F' N' B' X' T'; (try dsimp only); (try k_fold)) | (refine' code_defGC ?k1_q7 ?k2_q7 ?k3_q7 ?k4_q7 ?k5_q7 ?kA_q7 ?kF_q7 ?kK_q7 ?k6_q7 ?k7_q7 ?k8_q7 ?k9_q7 ?kB_q7 ?kD_q7 ?_ ?c2_q7 ?c3_q7 ?c4_q7; (case kA_q7 => exact rfl); (case kF_q7 => exact rfl); (case kK_q7 => assumption); (case k1_q7 => k_asm); (case k2_q7 => k_asm); (case k3_q7 => k_asm); (case k4_q7 => k_asm); (case k5_q7 => k_asm); (case k6_q7 => k_is); (case k7_q7 => k_is); (case k8_q7 => ktr_room); (case k9_q7 => exact BindsTo.of_eq rfl); (case kB_q7 => exact rfl); (case kD_q7 => decide +kernel); (case c2_q7 => exact rfl); (case c3_q7 => exact rfl); (case c4_q7 => exact rfl); k_whole; intro L' h' tk' cells' F' N' Y' B' X' T'; k_cells Y'; (try dsimp only); (try k_fold)) | fail "step: no entry")
  k_with "ktr_step" => ((refine rlist_end (by assumption) (by assumption) (by assumption) (by assumption) (by assumption) (by assumption) List.mem_cons_self (by assumption) ?_))
  k_with "ktn_step" => ((refine rlist_end (vs := []) (by assumption) (by assumption) (by assumption) (by assumption) (by assumption) (by assumption) List.mem_cons_self IntsAre.nil ?_))
  k_with "ktf_step" => (first | assumption | exact lt_wid (by with_reducible assumption) (by k_dflt (exact rfl)) | k_dflt (exact Nat.le_of_ble_eq_true rfl) | l_fit)
  k_with "exec While Compare cons nil" => ((k_extra "while"))
  k_with "k_ne" => ((refine neN ?_; (try dsimp only); first | exact Apt.use (by assumption) (by k_mem) | exact Ne.symm (Apt.use (by assumption) (by k_mem)) | ((with_reducible rename (@Ne Nat _ _ ∧ _) ∧ _ => q9); first | with_reducible exact q9.1.1 | with_reducible exact Ne.symm q9.1.1 | with_reducible exact q9.1.2.1 | with_reducible exact Ne.symm q9.1.2.1 | with_reducible exact q9.1.2.2 | with_reducible exact Ne.symm q9.1.2.2 | with_reducible exact q9.1 | with_reducible exact Ne.symm q9.1 | with_reducible exact q9.2.1 | with_reducible exact Ne.symm q9.2.1 | with_reducible exact q9.2.2 | with_reducible exact Ne.symm q9.2.2 | with_reducible exact q9.2.1.1 | with_reducible exact Ne.symm q9.2.1.1 | with_reducible exact q9.2.1.2.1 | with_reducible exact Ne.symm q9.2.1.2.1 | with_reducible exact q9.2.1.2.2 | with_reducible exact Ne.symm q9.2.1.2.2 | with_reducible exact q9.2.2.1 | with_reducible exact Ne.symm q9.2.2.1 | with_reducible exact q9.2.2.2 | with_reducible exact Ne.symm q9.2.2.2 | with_reducible exact q9.2.2.1.1 | with_reducible exact Ne.symm q9.2.2.1.1 | with_reducible exact q9.2.2.1.2.1 | with_reducible exact Ne.symm q9.2.2.1.2.1 | with_reducible exact q9.2.2.1.2.2 | with_reducible exact Ne.symm q9.2.2.1.2.2 | with_reducible exact q9.2.2.2.1 | with_reducible exact Ne.symm q9.2.2.2.1 | with_reducible exact q9.2.2.2.2 | with_reducible exact Ne.symm q9.2.2.2.2 | with_reducible exact q9.2.2.2.1.1 | with_reducible exact Ne.symm q9.2.2.2.1.1 | with_reducible exact q9.2.2.2.1.2.1 | with_reducible exact Ne.symm q9.2.2.2.1.2.1 | with_reducible exact q9.2.2.2.1.2.2 | with_reducible exact Ne.symm q9.2.2.2.1.2.2 | with_reducible exact q9.2.2.2.2.1 | with_reducible exact Ne.symm q9.2.2.2.2.1 | with_reducible exact q9.2.2.2.2.2 | with_reducible exact Ne.symm q9.2.2.2.2.2 | with_reducible exact q9.2.2.2.2.1.1 | with_reducible exact Ne.symm q9.2.2.2.2.1.1 | with_reducible exact q9.2.2.2.2.1.2.1 | with_reducible exact Ne.symm q9.2.2.2.2.1.2.1 | with_reducible exact q9.2.2.2.2.1.2.2 | with_reducible exact Ne.symm q9.2.2.2.2.1.2.2 | with_reducible exact q9.2.2.2.2.2.1 | with_reducible exact Ne.symm q9.2.2.2.2.2.1 | with_reducible exact q9.2.2.2.2.2.2 | with_reducible exact Ne.symm q9.2.2.2.2.2.2) | ((with_reducible rename @Ne Nat _ _ ∧ _ => q9); first | with_reducible exact q9.1 | with_reducible exact Ne.symm q9.1 | with_reducible exact q9.2.1 | with_reducible exact Ne.symm q9.2.1 | with_reducible exact q9.2.2 | with_reducible exact Ne.symm q9.2.2)))
  k_with "execs cons" => ((dsimp only))
  k_with "eval BinOp" => ((dsimp only))
  k_with "storeName" => ((dsimp only))
  k_with "ktr_room" => ((first | exact room_of (by with_reducible assumption) (by k_dflt (exact rfl)) | exact room_in (by with_reducible assumption)))
  k_with "ktr_units" => ((exact room_of (by with_reducible assumption) (by k_dflt (exact rfl))))
  k_with "omega" => ((first | (with_reducible assumption) | exact lt_wid (by with_reducible assumption) (by k_dflt (exact rfl)) | exact le_wid (by with_reducible assumption) (by k_dflt (exact rfl)) | (k_dflt (exact Nat.le_of_ble_eq_true rfl)) | exact ilt_wid (And.right (by with_reducible assumption)) (by k_dflt (exact rfl)) | exact igt_wid (And.left (by with_reducible assumption)) (by k_dflt (exact rfl)) | (k_dflt decide) | exact Apt.use (by with_reducible assumption) (by k_mem) | exact Ne.symm (Apt.use (by with_reducible assumption) (by k_mem)) | ((repeat ((with_reducible rename (@Ne Nat _ _ ∧ _) ∧ _ => q9); clear q9)); (repeat ((with_reducible rename @Ne Nat _ _ ∧ _ => q9); clear q9)); (try clear hu); (try clear hd); omega +splitNatSub)))
  k_with "ktf_step" => (first | assumption | exact lt_wid (by with_reducible assumption) (by k_dflt (exact rfl)) | k_dflt (exact Nat.le_of_ble_eq_true rfl) | l_fit | ((simp only [List.length_cons, List.length_nil]); omega) | (simp only [List.length_cons, List.length_nil, List.length_append]; first | done | omega) | exact Nat.le_refl _)
  k_with "ktr_rel" => (first | assumption | exact IsTup.keeps (by assumption) (Fr.keep (by assumption)) | exact News.isTup (by assumption) (by k_mem) | fail "no tuple")
  k_with "subscriptTail Name BinOp ref int" => (((with_reducible show wpAny _ _ (subscriptTail _ _ (Value.ref _) (Value.int _ _)) _ _ _); k_dflt (refine' item_list_ints ?k1_q7 ?k2_q7 ?k3_q7 ?k4_q7 ?k5_q7 ?_; (case k1_q7 => first | exact News.isList (by assumption) (by k_mem) | is_list); (case k2_q7 => assumption); (case k3_q7 => ((repeat ((with_reducible rename (@Ne Nat _ _ ∧ _) ∧ _ => q9); clear q9)); (repeat ((with_reducible rename @Ne Nat _ _ ∧ _ => q9); clear q9)); omega)); (case k4_q7 => ((repeat ((with_reducible rename (@Ne Nat _ _ ∧ _) ∧ _ => q9); clear q9)); (repeat ((with_reducible rename @Ne Nat _ _ ∧ _ => q9); clear q9)); omega)); (case k5_q7 => ((repeat ((with_reducible rename (@Ne Nat _ _ ∧ _) ∧ _ => q9); clear q9)); (repeat ((with_reducible rename @Ne Nat _ _ ∧ _ => q9); clear q9)); omega)); k_whole); intro _))
  k_with "subscriptTail Name Name ref int" => (((with_reducible show wpAny _ _ (subscriptTail _ _ (Value.ref _) (Value.int _ _)) _ _ _); k_dflt (refine' item_list_ints ?k1_q7 ?k2_q7 ?k3_q7 ?k4_q7 ?k5_q7 ?_; (case k1_q7 => first | exact News.isList (by assumption) (by k_mem) | is_list); (case k2_q7 => assumption); (case k3_q7 => ((repeat ((with_reducible rename (@Ne Nat _ _ ∧ _) ∧ _ => q9); clear q9)); (repeat ((with_reducible rename @Ne Nat _ _ ∧ _ => q9); clear q9)); omega)); (case k4_q7 => ((repeat ((with_reducible rename (@Ne Nat _ _ ∧ _) ∧ _ => q9); clear q9)); (repeat ((with_reducible rename @Ne Nat _ _ ∧ _ => q9); clear q9)); omega)); (case k5_q7 => ((repeat ((with_reducible rename (@Ne Nat _ _ ∧ _) ∧ _ => q9); clear q9)); (repeat ((with_reducible rename @Ne Nat _ _ ∧ _ => q9); clear q9)); omega)); k_whole); intro _))
  k_with "l_ints" => (k_dflt (first | assumption | exact IntsAre.nil | exact IntsAre.cons _ _ IntsAre.nil | exact IntsAre.cons _ _ (IntsAre.cons _ _ IntsAre.nil) | exact IntsAre.cons _ _ (IntsAre.cons _ _ (IntsAre.cons _ _ IntsAre.nil)) | exact IntsAre.cons _ _ (IntsAre.cons _ _ (IntsAre.cons _ _ (IntsAre.cons _ _ (IntsAre.cons _ _ (IntsAre.cons _ _ (IntsAre.cons _ _ (IntsAre.cons _ _ IntsAre.nil))))))) | exact IntsAre.append (by l_ints) (IntsAre.cons _ _ IntsAre.nil)))
  k_with "call ref" => ((k_here; k_dflt ((refine' con_use (sign_at_c _ _ _ _ _ _ ?hz_q7 ?hs_q7 ?ha_q7 ?hb_q7) ?k1_q7 ?k2_q7 ?k3_q7 ?k4_q7 ?k5_q7 ?kK_q7 ?kd_q7 ?ku_q7 ?kp_q7 ?_; (case kp_q7 => exact ⟨hasL_of (by is_list) (by l_ints), ⟨_, _, by ktr_rel⟩⟩); (case hz_q7 => ktf_step); (case hs_q7 => assumption); (case ha_q7 => assumption); (case hb_q7 => assumption); (case k1_q7 => k_asm); (case k2_q7 => k_asm); (case k3_q7 => k_asm); (case k4_q7 => k_asm); (case k5_q7 => k_asm); (case kK_q7 => first | exact rfl | assumption); (case kd_q7 => ktr_room); (case ku_q7 => ktr_units); k_whole); intro t' h' tk' F' N'; (try k_sweep))))
  k_with "FinE" => ((refine finE_hide (by l_ints) ?_; intro ys9 hI9 hL9; (try simp only [List.nil_append, List.cons_append] at hI9 hL9); (unfold LCg.FinE); intro D' h' tk' F' N' o1'; (replace o1' := apt_of_off1 o1'); (try simp only [List.nil_append, List.cons_append] at N'); (try dsimp only)))
  k_with "CompRest" => ((with_unfolding_all first | (refine LCg.CompRest.succ ?_; intro v' I' oI' C' oC' D' m' h' tk' E' hv' hC' hx' F' N' off' ne'; clear ne'; (first | lcg_open hv' | (obtain ⟨t9', hv9'⟩ := hv'; subst hv9'))) | refine LCg.CompRest.zero ?_))
  k_with "lcg_off" => (assumption)
  k_with "storeName" => ((k_dflt k_made; (rename IntsAre _ (List.map _ (List.filter _ _)) => iF9); (obtain ⟨sg9, iS9, eS9, lS9⟩ := filter_hide iF9); clear iF9; (simp only [List.length_cons, List.length_nil] at lS9); walk_at "storeName"; (rename News _ _ _ _ => nS9); (try simp only [List.cons_append, List.nil_append] at nS9)))
  unfold Con
  k_fill
  intro dp un gd cn cs aa ccd cl outer A₀ base h₀ L m news s Q E mean mg mb B F X N T hk hd hu hpre hret
  obtain ⟨hr, ⟨vs0, hl0, hi0⟩, ⟨vs1, hl1, hi1⟩, ⟨vs2, hl2, hi2⟩, ⟨t9, u9, hx⟩⟩ := hpre
  refine wpAny_call ?_
  k_dflt ktd_step
  k_steps
  refine rint_end hret (by assumption) (by assumption) ?_
  rename _ = List.filter _ _ => e9
  subst e9
  rfl

end
section
-- needs: C2
section
open LCg
variable {prog : Program} {w : World} {A : Around} {E : Value → Shared → Prop} {s : Shared} {h₀ : Heap} {L : Addr} {m : Str → Option Value} {env : Env}
/-- an int comes back, nothing is made -/
def EndI (a : Int) (s : Shared) (y : Value) (s' : Shared) : Prop := ∃ (t : Tok) (tk : Nat), y = .int a t ∧ s' = { s with toks := tk }
theorem EndI.of {a b : Int} {s : Shared} {t : Tok} {tk : Nat} (e : b = a) : EndI a s (.int b t) { s with toks := tk } := ⟨t, tk, by rw [e], rfl⟩
/-- what a comprehension over enumerate(an int list of the ground) asks, its elements ints that make nothing -/
def SrcE (prog : Program) (w : World) (A : Around) (h₀ : Heap) (L : Addr) (m : Str → Option Value) (env : Env) (elt : Expr) (x x₂ : Str) (scope : Scope) (cl : List (Str × Addr)) (Q : Value → Shared → Prop) (xv : Value) (s₁ : Shared) : Prop :=
  ∃ (e it l : Addr) (vs : List Value) (ns : List Int) (news : List (Addr × Obj)) (g : Nat → Int), xv = .ref e ∧ A.handled = none ∧ e ≠ it ∧ l ≠ e ∧ l ≠ it ∧ IsEnum s₁.heap e it 0 .none ∧ s₁.heap.IsListIter it l 0 ∧ s₁.heap.IsList l vs.toArray ∧ IntsAre vs ns ∧ ns.length ≤ sizeLine ∧
    Fr h₀ L s₁.heap m ∧ News h₀ L s₁.heap news ∧ h₀.get? e = none ∧ h₀.get? it = none ∧ L ≠ e ∧ L ≠ it ∧ (∀ p ∈ news, p.1 ≠ e ∧ p.1 ≠ it) ∧
    (∀ i n C oC m₂ h tk t u (E' : Value → Shared → Prop), ns[i]? = some n → NsObj oC m₂ → m₂ x = some (.int ((i : Nat) : Int) t) → m₂ x₂ = some (.int n u) → Fr h₀ L h m → News h₀ L h ((C, oC) :: news) →
      wpAny (model prog w) A (eval elt (compEnvC scope cl C env)) (EndI (g i) { s₁ with heap := h }) E' { s₁ with heap := h, toks := tk }) ∧
    (∀ D ys h tk, Fr h₀ L h m → News h₀ L h ((D, lst ys) :: news) → Off1 D news → IntsAre ys ((List.range ns.length).map g) → Q (.ref D) { s₁ with heap := h, toks := tk })

theorem off1_of {D : Addr} : ∀ {l : List (Addr × Obj)}, (∀ p ∈ l, p.1 ≠ D) → Off1 D l
  | [], _ => trivial
  | p :: _, h => ⟨h p (.head _), off1_of fun q hq => h q (.tail _ hq)⟩
theorem srcE_of {elt : Expr} {x x₂ : Str} {scope : Scope} {cl : List (Str × Addr)} {Q : Value → Shared → Prop} {l : Addr} {vs : List Value} {ns : List Int} {news : List (Addr × Obj)} (g : Nat → Int) (hh : A.handled = none) (F : Fr h₀ L s.heap m) (N : News h₀ L s.heap news)
    (hl : s.heap.IsList l vs.toArray) (hi : IntsAre vs ns) (hz : ns.length ≤ sizeLine)
    (turn : ∀ i n C oC m₂ h tk t u (E' : Value → Shared → Prop), ns[i]? = some n → NsObj oC m₂ → m₂ x = some (.int ((i : Nat) : Int) t) → m₂ x₂ = some (.int n u) → Fr h₀ L h m → News h₀ L h ((C, oC) :: news) →
      wpAny (model prog w) A (eval elt (compEnvC scope cl C env)) (EndI (g i) { s with heap := h }) E' { s with heap := h, toks := tk })
    (done : ∀ D ys h tk, Fr h₀ L h m → News h₀ L h ((D, lst ys) :: news) → Off1 D news → IntsAre ys ((List.range ns.length).map g) → Q (.ref D) { s with heap := h, toks := tk }) :
    wpAny (model prog w) A (call (.type "enumerate") [.ref l]) (SrcE prog w A h₀ L m env elt x x₂ scope cl Q) E s := by
  have hlt : l < s.heap.objs.size := by obtain ⟨_, e, _⟩ := hl; exact Heap.lt_size e
  have new : ∀ b, s.heap.objs.size ≤ b → h₀.get? b = none := fun b hb => by
    cases e : h₀.get? b with
    | none => rfl
    | some o => exact absurd (Heap.lt_size (F.keep _ _ e)) (Nat.not_lt.mpr hb)
  have hLs := F.ns.lt
  refine call_enumerate_list hl fun h' hE hI hsz hk => ?_
  exact ⟨s.heap.objs.size + 1, s.heap.objs.size, l, vs, ns, news, g, rfl, hh, Nat.succ_ne_self _, Nat.ne_of_lt (Nat.lt_succ_of_lt hlt), Nat.ne_of_lt hlt, hE, hI, hl.at fun o e => hk l o e, hi, hz, F.keeps hk, N.grown hk, new _ (Nat.le_succ _), new _ (Nat.le_refl _),
    Nat.ne_of_lt (Nat.lt_succ_of_lt hLs), Nat.ne_of_lt hLs, fun p hp => ⟨Nat.ne_of_lt (Nat.lt_succ_of_lt (Heap.lt_size (N p hp).1)), Nat.ne_of_lt (Heap.lt_size (N p hp).1)⟩, turn, done⟩

theorem ListComp_En {elt iter : Expr} {x x₂ : Str} {px px₂ tp : Pos} {kk} {scope : Scope} {cl : List (Str × Addr)} {pos : Pos} {Q : Value → Shared → Prop} (_F₀ : Fr h₀ L s.heap m)
    (hclos : closureFor scope env = pure cl) (hcell : ∀ y ∈ scope.names, y.2 ≠ .cell) (hkind : scope.kind = .function)
    (hnames : ∀ y ∈ scope.names, y.2 = .local → scope.names.lookup y.1 = some .local) (hx : scope.names.lookup x = some .local) (hx₂ : scope.names.lookup x₂ = some .local) (hxx : x ≠ x₂)
    (h : wpAny (model prog w) A (eval iter env) (SrcE prog w A h₀ L m env elt x x₂ scope cl Q) E s)
    (hs : ∀ x, foldedSetIterable iter env x = pure x := by intro _; rfl) :
    wpAny (model prog w) A (eval (.ListComp elt [⟨.Tuple [.Name x px, .Name x₂ px₂] kk tp, iter, [], 0⟩] scope pos) env) Q E s := by
  rw [eval_ListComp]
  refine wpAny_comprehension_free (use := none) rfl hs hclos hkind hnames (wpAny_mono h (fun xv s₁ h₁ => ?_) fun _ _ e => e)
  obtain ⟨e, it, l, vs, ns, news, g, rfl, hh, hei, hle, hli, hE, hI, hl, hi, hz, F, N, he₀, hi₀, hLe, hLi, hoff, turn, done⟩ := h₁
  refine wpAny_pyIter_enum hE ?_
  have W := WalksT.enumerate (prog := prog) (w := w) hh e it l hei hle hli vs.toArray
  have hn : vs.toArray.size = ns.length := by simp [hi.length]
  rw [hn] at W
  refine wpAny_newObj_type (wpAny_newFunctionEnv hcell (by intro y hy; simp at hy) (fun h₁ hns₁ hsb₁ => ?_) hkind)
  dsimp only at hns₁ hsb₁ ⊢
  generalize hH2 : s₁.heap.push { cls := .type "list", dict := none, data := .seq ([] : List Value).toArray } = H2 at hns₁ hsb₁ ⊢
  have hC : H2.objs.size = s₁.heap.objs.size + 1 := by rw [← hH2, Heap.size_push]
  have hDC : s₁.heap.objs.size ≠ H2.objs.size := by rw [hC]; exact Nat.ne_of_lt (Nat.lt_succ_self _)
  have below : ∀ b, b < s₁.heap.objs.size → b ≠ H2.objs.size ∧ b ≠ s₁.heap.objs.size := fun b hb => ⟨by rw [hC]; exact Nat.ne_of_lt (Nat.lt_succ_of_lt hb), Nat.ne_of_lt hb⟩
  have old : ∀ b o, s₁.heap.get? b = some o → h₁.get? b = some o := fun b o q => hsb₁.extBut b o (below b (Heap.lt_size q)).1 (Heap.get?_push_of_some _ (hH2 ▸ Heap.get?_push_of_some _ q))
  have hacc : h₁.get? s₁.heap.objs.size = some (lst []) := hsb₁.extBut _ _ hDC (Heap.get?_push_of_some _ (hH2 ▸ Heap.get?_push_size _ rfl))
  have elt' : e < s₁.heap.objs.size := Heap.lt_size hE
  have ilt' : it < s₁.heap.objs.size := by obtain ⟨_, q, _⟩ := hI; exact Heap.lt_size q
  have llt' : l < s₁.heap.objs.size := by obtain ⟨_, q, _⟩ := hl; exact Heap.lt_size q
  have new : ∀ b, s₁.heap.objs.size ≤ b → h₀.get? b = none := fun b hb => by
    cases q : h₀.get? b with
    | none => rfl
    | some o => exact absurd (Heap.lt_size (F.keep _ _ q)) (Nat.not_lt.mpr hb)
  have hD₀ : h₀.get? s₁.heap.objs.size = none := new _ (Nat.le_refl _)
  have hC₀ : h₀.get? H2.objs.size = none := new _ (by rw [hC]; exact Nat.le_succ _)
  have hLlt : L < s₁.heap.objs.size := F.ns.lt
  have hDL : s₁.heap.objs.size ≠ L := Ne.symm (below L hLlt).2
  have hCL : H2.objs.size ≠ L := Ne.symm (below L hLlt).1
  have hne : ∀ b o, h₀.get? b = some o → b ≠ e ∧ b ≠ it ∧ b ≠ H2.objs.size ∧ b ≠ s₁.heap.objs.size := fun b o q =>
    ⟨fun z => (by rw [z, he₀] at q; cases q), fun z => (by rw [z, hi₀] at q; cases q), fun z => (by rw [z, hC₀] at q; cases q), fun z => (by rw [z, hD₀] at q; cases q)⟩
  -- a heap that keeps all but the two iterators, the block's variables and the list
  have frk : ∀ {h h' : Heap}, Fr h₀ L h m → (∀ b o, b ≠ e → b ≠ it → b ≠ H2.objs.size → b ≠ s₁.heap.objs.size → h.get? b = some o → h'.get? b = some o) → Fr h₀ L h' m := fun F' k =>
    ⟨F'.ns.at' fun o q => k L o hLe hLi (Ne.symm hCL) (Ne.symm hDL) q, fun b o q => k b o (hne b o q).1 (hne b o q).2.1 (hne b o q).2.2.1 (hne b o q).2.2.2 (F'.keep b o q), F'.above⟩
  have newk : ∀ {h h' : Heap}, News h₀ L h news → (∀ b o, b ≠ e → b ≠ it → b ≠ H2.objs.size → b ≠ s₁.heap.objs.size → h.get? b = some o → h'.get? b = some o) → News h₀ L h' news := fun N' k p hp =>
    ⟨k _ _ (hoff p hp).1 (hoff p hp).2 (below _ (Heap.lt_size (N p hp).1)).1 (below _ (Heap.lt_size (N p hp).1)).2 (N' p hp).1, (N' p hp).2⟩
  have loop : ∀ s₃ : Shared, s₃ = { s₁ with heap := h₁, toks := s₁.toks + ([] : List (Str × Value)).length } →
      codeAny (model prog w) A (.compLoop (.ListComp elt [⟨.Tuple [.Name x px, .Name x₂ px₂] kk tp, iter, [], 0⟩] scope pos) 0 (.ref e) (.ref s₁.heap.objs.size) (compEnvC scope cl H2.objs.size env))
        (compPost (model prog w) A E none Q (.ref s₁.heap.objs.size) H2.objs.size) s₃ := by
    rintro s₃ rfl
    refine LCp.codeAny_compLoop_pair
      (fun k s' => ∃ h' tk i ys m', s' = { s₁ with heap := h', toks := tk } ∧ i ≤ ns.length ∧ k = ns.length + 1 - i ∧ ys.length = i ∧ ((∃ old, IsEnum h' e it i old) ∧ h'.IsListIter it l i ∧ h'.IsList l vs.toArray) ∧ Fr h₀ L h' m ∧ h'.Ns H2.objs.size m' ∧ News h₀ L h' news ∧ h'.get? s₁.heap.objs.size = some (lst ys) ∧
        IntsAre ys ((List.range i).map g)) ?_ (ns.length + 1)
      ⟨h₁, _, 0, [], _, rfl, Nat.zero_le _, rfl, rfl, ⟨⟨_, old _ _ hE⟩, hI.at fun o q => old _ _ q, hl.at fun o q => old _ _ q⟩, F.keeps old, hns₁, N.grown old, hacc, .nil⟩
    rintro k s' ⟨h', tk, i, ys, m', rfl, hin, rfl, hyl, hst', F', hn', N', hD', hys⟩
    by_cases hlt : i < ns.length
    · refine W.item i _ _ _ hlt hst' fun T vals h₂ tk₂ hP hTge hT hMid hk₂ => ?_
      obtain ⟨t, xv, hxv, rfl⟩ := hP
      obtain ⟨u, hxu⟩ := hi.get i ns[i] (by simp [hlt])
      have hxe : xv = .int ns[i] u := by
        have : vs[i]? = some xv := by simpa using hxv
        rw [hxu] at this; exact (Option.some.inj this).symm
      subst hxe
      have hTw := W.apart _ _ _ hMid
      refine W.go _ _ _ i T _ _ _ hMid fun h₃ hst₃ hk₃ => ?_
      have hT₃ : h₃.IsTuple T #[.int i t, .int ns[i] u] := hT.at fun o q => hk₃ _ _ hTw q
      refine wpAny_assign_Tuple hh hT₃ rfl rfl fun h₅ he₅ => ?_
      have k5 : ∀ b o, h₃.get? b = some o → h₅.get? b = some o := fun b o q => he₅ b o (Nat.ne_of_lt (Heap.lt_size q)) q
      have ew : ∀ b, b ≠ e → b ≠ it → b ∉ [e, it] := fun b h1 h2 h3 => by simp [h1, h2] at h3
      have kA : ∀ b o, b ≠ e → b ≠ it → h'.get? b = some o → h₅.get? b = some o := fun b o h1 h2 q => k5 b o (hk₃ b o (ew b h1 h2) (hk₂ b o (ew b h1 h2) q))
      have hCe : H2.objs.size ≠ e := Ne.symm (below e elt').1
      have hCi : H2.objs.size ≠ it := Ne.symm (below it ilt').1
      refine assignInOrder_cons (wpAny_assign_Name (wpAny_storeName_local (lookup_relabel_local hx) (hn'.at' fun o q => kA _ o hCe hCi q) (fun h₆ hn₆ hs₆ => ?_) (by simp [compEnvC, relabel, hkind])))
      refine assignInOrder_cons (wpAny_assign_Name (wpAny_storeName_local (lookup_relabel_local hx₂) hn₆ (fun h₇ hn₇ hs₇ => ?_) (by simp [compEnvC, relabel, hkind])))
      refine assignInOrder_nil ?_
      have k67 : ∀ b o, b ≠ H2.objs.size → h₅.get? b = some o → h₇.get? b = some o := fun b o h1 q => hs₇.extBut b o h1 (hs₆.extBut b o h1 q)
      have kB : ∀ b o, b ≠ e → b ≠ it → b ≠ H2.objs.size → h'.get? b = some o → h₇.get? b = some o := fun b o h1 h2 h3 q => k67 b o h3 (kA b o h1 h2 q)
      have F₇ : Fr h₀ L h₇ m := frk F' fun b o h1 h2 h3 _ q => kB b o h1 h2 h3 q
      have N₇ : News h₀ L h₇ news := newk N' fun b o h1 h2 h3 _ q => kB b o h1 h2 h3 q
      obtain ⟨oC, heC, hoC⟩ := ns_obj hn₇
      have hst₇ : (∃ old, IsEnum h₇ e it (i + 1 : Nat) old) ∧ h₇.IsListIter it l (i + 1) ∧ h₇.IsList l vs.toArray := by
        refine W.frame (i + 1) _ _ hst₃ fun b hb o q => k67 b o (fun z => ?_) (k5 b o q)
        have : b = e ∨ b = it ∨ b = l := by simpa using hb
        rcases this with z2 | z2 | z2
        · exact hCe (z ▸ z2)
        · exact hCi (z ▸ z2)
        · exact (below l llt').1 (z2 ▸ z)
      refine wpAny_mono (turn i ns[i] H2.objs.size oC _ h₇ _ t u _ (by simp [hlt]) hoC (by simp [hxx]) (by simp) F₇ (fun p hp => ?_)) (fun y s₄ h₄ => ?_) fun _ _ q => q
      · rcases List.mem_cons.mp hp with rfl | hp
        · exact ⟨heC, hCL, hC₀⟩
        · exact N₇ p hp
      obtain ⟨t', tk', rfl, rfl⟩ := h₄
      have zD : h₇.get? s₁.heap.objs.size = some (lst ys) := kB _ _ (Ne.symm (below e elt').2) (Ne.symm (below it ilt').2) hDC hD'
      refine append_at (hsz := by show ys.toArray.size ≤ sizeLine; rw [List.size_toArray, hyl]; exact Nat.le_trans hin hz) zD fun h₈ hs₈ hD₈ => ?_
      have k8 : ∀ b o, b ≠ s₁.heap.objs.size → h₇.get? b = some o → h₈.get? b = some o := fun b o h1 q => hs₈.extBut b o h1 q
      refine ⟨ns.length + 1 - (i + 1), by omega, h₈, tk', i + 1, ys ++ [.int (g i) t'], _, rfl, hlt, rfl, by rw [List.length_append, List.length_singleton, hyl], W.frame _ _ _ hst₇ fun b hb o q => k8 b o (fun z => ?_) q, frk F₇ fun b o _ _ _ h4 q => k8 b o h4 q, (hoC.ns heC).at' fun o q => k8 _ o (Ne.symm hDC) q, newk N₇ fun b o _ _ _ h4 q => k8 b o h4 q,
        hD₈.trans (congrArg some (lst_snoc ys _)), ?_⟩
      · have : b = e ∨ b = it ∨ b = l := by simpa using hb
        rcases this with z2 | z2 | z2
        · exact (below e elt').2 (z2 ▸ z)
        · exact (below it ilt').2 (z2 ▸ z)
        · exact (below l llt').2 (z2 ▸ z)
      · rw [List.range_succ, List.map_append]
        exact IntsAre.append hys (.cons _ _ .nil)
    · obtain rfl : i = ns.length := Nat.le_antisymm hin (Nat.not_lt.mp hlt)
      refine W.done _ _ _ hst' fun h₂ tk₂ hk₂ => ?_
      have kA : ∀ b o, b ≠ e → b ≠ it → h'.get? b = some o → h₂.get? b = some o := fun b o h1 h2 q => hk₂ b o (fun h3 => by simp [h1, h2] at h3) q
      refine ⟨m', hn'.at' fun o q => kA _ o (Ne.symm (below e elt').1) (Ne.symm (below it ilt').1) q, fun h'' hs'' => ?_⟩
      have kC : ∀ b o, b ≠ e → b ≠ it → b ≠ H2.objs.size → h'.get? b = some o → h''.get? b = some o := fun b o h1 h2 h3 q => hs''.extBut b o h3 (kA b o h1 h2 q)
      refine done s₁.heap.objs.size ys h'' tk₂ (frk F' fun b o h1 h2 h3 _ q => kC b o h1 h2 h3 q) (fun p hp => ?_) ?_ hys
      · rcases List.mem_cons.mp hp with rfl | hp
        · exact ⟨kC _ _ (Ne.symm (below e elt').2) (Ne.symm (below it ilt').2) hDC hD', hDL, hD₀⟩
        · exact newk N' (fun b o h1 h2 h3 _ q => kC b o h1 h2 h3 q) p hp
      · exact off1_of fun p hp => (below _ (Heap.lt_size (N p hp).1)).2
  exact codeAny_compStart_list (loop _ rfl) (W.self 0 _ _ _ ⟨⟨_, old _ _ hE⟩, hI.at fun o q => old _ _ q, hl.at fun o q => old _ _ q⟩ (loop _ rfl))
end

end
section
-- needs: C11
section
def deriveP (ns : List Int) : List Int := ((List.range ns.length).map fun i => ns.getD i 0 * (i : Int)).drop 1
theorem le_derive {d ns : List Int} (e : d = deriveP ns) : d.length = ns.length - 1 := by rw [e, deriveP, List.length_drop, List.length_map, List.length_range]
theorem zderive_c (w : World) (l : Addr) (ns : List Int) (hz : ns.length < 2 ^ 20) : Con w 3 141 [.ref l] (HasL l ns) (RList (deriveP ns)) := by
  w_top off
  k_with_none
  k_with "ktd_step" => (first | (refine' code_defG ?k1_q7 ?k2_q7 ?k3_q7 ?k4_q7 ?k5_q7 ?kA_q7 ?kF_q7 ?kK_q7 ?k6_q7 ?k7_q7 ?k8_q7 ?k9_q7 ?kB_q7 ?_ ?c2_q7 ?c3_q7 ?c4_q7 ?c5_q7; (case kA_q7 => exact rfl); (case kF_q7 => exact rfl); (case kK_q7 => assumption); (case k1_q7 => k_asm); (case k2_q7 => k_asm); (case k3_q7 => k_asm); (case k4_q7 => k_asm); (case k5_q7 => k_asm); (case k6_q7 => k_is); (case k7_q7 => k_is); (case k8_q7 => ktr_room); (case k9_q7 => exact BindsTo.of_eq rfl); (case c5_q7 => decide); (case kB_q7 => exact locs rfl); (case c2_q7 => exact rfl); (case c3_q7 => exact rfl); (case c4_q7 => exact rfl); k_whole; intro L' h' F' N' B' X' T'; (try dsimp only); (try k_fold)) | (refine' code_defGC ?k1_q7 ?k2_q7 ?k3_q7 ?k4_q7 ?k5_q7 ?kA_q7 ?kF_q7 ?kK_q7 ?k6_q7 ?k7_q7 ?k8_q7 ?k9_q7 ?kB_q7 ?kD_q7 ?_ ?c2_q7 ?c3_q7 ?c4_q7; (case kA_q7 => exact rfl); (case kF_q7 => exact rfl); (case kK_q7 => assumption); (case k1_q7 => k_asm); (case k2_q7 => k_asm); (case k3_q7 => k_asm); (case k4_q7 => k_asm); (case k5_q7 => k_asm); (case k6_q7 => k_is); (case k7_q7 => k_is); (case k8_q7 => ktr_room); (case k9_q7 => exact BindsTo.of_eq rfl); (case kB_q7 => exact rfl); (case kD_q7 => decide +kernel); (case c2_q7 => exact rfl); (case c3_q7 => exact rfl); (case c4_q7 => exact rfl); k_whole; intro L' h' tk' cells' F' N' Y' B' X' T'; k_cells Y'; (try dsimp only); (try k_fold)) | fail "step: no entry")
  k_with "ktr_step" => ((refine rlist_end (by assumption) (by assumption) (by assumption) (by assumption) (by assumption) (by assumption) List.mem_cons_self (by assumption) ?_))
  k_with "ktn_step" => ((refine rlist_end (vs := []) (by assumption) (by assumption) (by assumption) (by assumption) (by assumption) (by assumption) List.mem_cons_self IntsAre.nil ?_))
  k_with "ktf_step" => (first | assumption | exact lt_wid (by with_reducible assumption) (by k_dflt (exact rfl)) | k_dflt (exact Nat.le_of_ble_eq_true rfl) | l_fit)
  k_with "exec While Compare cons nil" => ((k_extra "while"))
  k_with "k_ne" => ((refine neN ?_; (try dsimp only); first | exact Apt.use (by assumption) (by k_mem) | exact Ne.symm (Apt.use (by assumption) (by k_mem)) | ((with_reducible rename (@Ne Nat _ _ ∧ _) ∧ _ => q9); first | with_reducible exact q9.1.1 | with_reducible exact Ne.symm q9.1.1 | with_reducible exact q9.1.2.1 | with_reducible exact Ne.symm q9.1.2.1 | with_reducible exact q9.1.2.2 | with_reducible exact Ne.symm q9.1.2.2 | with_reducible exact q9.1 | with_reducible exact Ne.symm q9.1 | with_reducible exact q9.2.1 | with_reducible exact Ne.symm q9.2.1 | with_reducible exact q9.2.2 | with_reducible exact Ne.symm q9.2.2 | with_reducible exact q9.2.1.1 | with_reducible exact Ne.symm q9.2.1.1 | with_reducible exact q9.2.1.2.1 | with_reducible exact Ne.symm q9.2.1.2.1 | with_reducible exact q9.2.1.2.2 | with_reducible exact Ne.symm q9.2.1.2.2 | with_reducible exact q9.2.2.1 | with_reducible exact Ne.symm q9.2.2.1 | with_reducible exact q9.2.2.2 | with_reducible exact Ne.symm q9.2.2.2 | with_reducible exact q9.2.2.1.1 | with_reducible exact Ne.symm q9.2.2.1.1 | with_reducible exact q9.2.2.1.2.1 | with_reducible exact Ne.symm q9.2.2.1.2.1 | with_reducible exact q9.2.2.1.2.2 | with_reducible exact Ne.symm q9.2.2.1.2.2 | with_reducible exact q9.2.2.2.1 | with_reducible exact Ne.symm q9.2.2.2.1 | with_reducible exact q9.2.2.2.2 | with_reducible exact Ne.symm q9.2.2.2.2 | with_reducible exact q9.2.2.2.1.1 | with_reducible exact Ne.symm q9.2.2.2.1.1 | with_reducible exact q9.2.2.2.1.2.1 | with_reducible exact Ne.symm q9.2.2.2.1.2.1 | with_reducible exact q9.2.2.2.1.2.2 | with_reducible exact Ne.symm q9.2.2.2.1.2.2 | with_reducible exact q9.2.2.2.2.1 | with_reducible exact Ne.symm q9.2.2.2.2.1 | with_reducible exact q9.2.2.2.2.2 | with_reducible exact Ne.symm q9.2.2.2.2.2 | with_reducible exact q9.2.2.2.2.1.1 | with_reducible exact Ne.symm q9.2.2.2.2.1.1 | with_reducible exact q9.2.2.2.2.1.2.1 | with_reducible exact Ne.symm q9.2.2.2.2.1.2.1 | with_reducible exact q9.2.2.2.2.1.2.2 | with_reducible exact Ne.symm q9.2.2.2.2.1.2.2 | with_reducible exact q9.2.2.2.2.2.1 | with_reducible exact Ne.symm q9.2.2.2.2.2.1 | with_reducible exact q9.2.2.2.2.2.2 | with_reducible exact Ne.symm q9.2.2.2.2.2.2) | ((with_reducible rename @Ne Nat _ _ ∧ _ => q9); first | with_reducible exact q9.1 | with_reducible exact Ne.symm q9.1 | with_reducible exact q9.2.1 | with_reducible exact Ne.symm q9.2.1 | with_reducible exact q9.2.2 | with_reducible exact Ne.symm q9.2.2)))
  k_with "execs cons" => ((dsimp only))
  k_with "eval BinOp" => ((dsimp only))
  k_with "storeName" => ((dsimp only))
  k_with "ktr_room" => ((first | exact room_of (by with_reducible assumption) (by k_dflt (exact rfl)) | exact room_in (by with_reducible assumption)))
  k_with "ktr_units" => ((exact room_of (by with_reducible assumption) (by k_dflt (exact rfl))))
  k_with "omega" => ((first | (with_reducible assumption) | exact lt_wid (by with_reducible assumption) (by k_dflt (exact rfl)) | exact le_wid (by with_reducible assumption) (by k_dflt (exact rfl)) | (k_dflt (exact Nat.le_of_ble_eq_true rfl)) | exact ilt_wid (And.right (by with_reducible assumption)) (by k_dflt (exact rfl)) | exact igt_wid (And.left (by with_reducible assumption)) (by k_dflt (exact rfl)) | (k_dflt decide) | exact Apt.use (by with_reducible assumption) (by k_mem) | exact Ne.symm (Apt.use (by with_reducible assumption) (by k_mem)) | ((repeat ((with_reducible rename (@Ne Nat _ _ ∧ _) ∧ _ => q9); clear q9)); (repeat ((with_reducible rename @Ne Nat _ _ ∧ _ => q9); clear q9)); (try clear hu); (try clear hd); omega +splitNatSub)))
  k_with "ktf_step" => (first | assumption | exact lt_wid (by with_reducible assumption) (by k_dflt (exact rfl)) | k_dflt (exact Nat.le_of_ble_eq_true rfl) | l_fit | ((simp only [List.length_cons, List.length_nil]); omega) | (simp only [List.length_cons, List.length_nil, List.length_append]; first | done | omega) | exact Nat.le_refl _)
  k_with "ktr_rel" => (first | assumption | exact IsTup.keeps (by assumption) (Fr.keep (by assumption)) | exact News.isTup (by assumption) (by k_mem) | fail "no tuple")
  k_with "subscriptTail Name BinOp ref int" => (((with_reducible show wpAny _ _ (subscriptTail _ _ (Value.ref _) (Value.int _ _)) _ _ _); k_dflt (refine' item_list_ints ?k1_q7 ?k2_q7 ?k3_q7 ?k4_q7 ?k5_q7 ?_; (case k1_q7 => first | exact News.isList (by assumption) (by k_mem) | is_list); (case k2_q7 => assumption); (case k3_q7 => ((repeat ((with_reducible rename (@Ne Nat _ _ ∧ _) ∧ _ => q9); clear q9)); (repeat ((with_reducible rename @Ne Nat _ _ ∧ _ => q9); clear q9)); omega)); (case k4_q7 => ((repeat ((with_reducible rename (@Ne Nat _ _ ∧ _) ∧ _ => q9); clear q9)); (repeat ((with_reducible rename @Ne Nat _ _ ∧ _ => q9); clear q9)); omega)); (case k5_q7 => ((repeat ((with_reducible rename (@Ne Nat _ _ ∧ _) ∧ _ => q9); clear q9)); (repeat ((with_reducible rename @Ne Nat _ _ ∧ _ => q9); clear q9)); omega)); k_whole); intro _))
  k_with "subscriptTail Name Name ref int" => (((with_reducible show wpAny _ _ (subscriptTail _ _ (Value.ref _) (Value.int _ _)) _ _ _); k_dflt (refine' item_list_ints ?k1_q7 ?k2_q7 ?k3_q7 ?k4_q7 ?k5_q7 ?_; (case k1_q7 => first | exact News.isList (by assumption) (by k_mem) | is_list); (case k2_q7 => assumption); (case k3_q7 => ((repeat ((with_reducible rename (@Ne Nat _ _ ∧ _) ∧ _ => q9); clear q9)); (repeat ((with_reducible rename @Ne Nat _ _ ∧ _ => q9); clear q9)); omega)); (case k4_q7 => ((repeat ((with_reducible rename (@Ne Nat _ _ ∧ _) ∧ _ => q9); clear q9)); (repeat ((with_reducible rename @Ne Nat _ _ ∧ _ => q9); clear q9)); omega)); (case k5_q7 => ((repeat ((with_reducible rename (@Ne Nat _ _ ∧ _) ∧ _ => q9); clear q9)); (repeat ((with_reducible rename @Ne Nat _ _ ∧ _ => q9); clear q9)); omega)); k_whole); intro _))
  k_with "l_ints" => (k_dflt (first | assumption | exact IntsAre.nil | exact IntsAre.cons _ _ IntsAre.nil | exact IntsAre.cons _ _ (IntsAre.cons _ _ IntsAre.nil) | exact IntsAre.cons _ _ (IntsAre.cons _ _ (IntsAre.cons _ _ IntsAre.nil)) | exact IntsAre.cons _ _ (IntsAre.cons _ _ (IntsAre.cons _ _ (IntsAre.cons _ _ (IntsAre.cons _ _ (IntsAre.cons _ _ (IntsAre.cons _ _ (IntsAre.cons _ _ IntsAre.nil))))))) | exact IntsAre.append (by l_ints) (IntsAre.cons _ _ IntsAre.nil)))
  k_with "eval ListComp" => ((k_here; lcp_look; k_dflt (refine ListComp_En (by k_asm) (by with_unfolding_all rfl) (by decide) (by rfl) (by decide) (by rfl) (by rfl) (by decide) ?_)))
  k_with "call type:enumerate" => ((k_dflt (k_extra "enum")))
  k_with "mul_fits" => (first | exact PySem.IntMulOk.of_right (PySem.intBits_le_64 (by omega) (by omega)) | exact PySem.IntMulOk.of_left (PySem.intBits_le_64 (by omega) (by omega)))
  k_with "enum" =>
    k_dflt (refine srcE_of (fun i => ns.getD i 0 * (i : Int)) (by rfl) (by k_asm) (by k_asm) (by is_list) (by assumption) (by rw [PySem.sizeLine_eq]; omega) ?_ ?_)
    intro i n C oC m₂ h9 tk t u E' hget hC hx hy F' N'
    have hi9 : i < ns.length := (List.getElem?_eq_some_iff.mp hget).1
    have he9 : n = ns.getD i 0 := by simp [List.getD, hget]
    clear hget
    rotate_left
    intro D ys h9 tk F' N' o1 hI
    obtain ⟨d9, hI9, e9⟩ := ints_hide hI
    have l9 := congrArg List.length e9
    clear hI
    simp only [List.length_map, List.length_range] at l9
    rotate_left
  unfold Con
  k_fill
  intro dp un gd cn cs aa ccd cl outer A₀ base h₀ L m news s Q E mean mg mb B F X N T hk hd hu hpre hret
  obtain ⟨vs, hl, hi⟩ := hpre
  refine wpAny_call ?_
  k_dflt ktd_step
  k_steps
  · exact EndI.of (by rw [he9])
  · ktr_step
    rename _ = List.map _ _ => e9
    rw [e9]
    rfl
end

end
section
-- needs: C4 C6
def contentP (ns : List Int) : Int := ns.foldl (fun g x => (Int.gcd g x : Nat)) 0
theorem gcdall_c (w : World) (l : Addr) (ns : List Int) (hz : ns.length < 2 ^ 20) : Con w 6 67 [.ref l] (HasL l ns) (RInt (contentP ns)) := by
  w_top off
  k_with_none
  k_with "ktd_step" => (first | (refine' code_defG ?k1_q7 ?k2_q7 ?k3_q7 ?k4_q7 ?k5_q7 ?kA_q7 ?kF_q7 ?kK_q7 ?k6_q7 ?k7_q7 ?k8_q7 ?k9_q7 ?kB_q7 ?_ ?c2_q7 ?c3_q7 ?c4_q7 ?c5_q7; (case kA_q7 => exact rfl); (case kF_q7 => exact rfl); (case kK_q7 => assumption); (case k1_q7 => k_asm); (case k2_q7 => k_asm); (case k3_q7 => k_asm); (case k4_q7 => k_asm); (case k5_q7 => k_asm); (case k6_q7 => k_is); (case k7_q7 => k_is); (case k8_q7 => ktr_room); (case k9_q7 => exact BindsTo.of_eq rfl); (case c5_q7 => decide); (case kB_q7 => exact locs rfl); (case c2_q7 => exact rfl); (case c3_q7 => exact rfl); (case c4_q7 => exact rfl); k_whole; intro L' h' F' N' B' X' T'; (try dsimp only); (try k_fold)) | (refine' code_defGC ?k1_q7 ?k2_q7 ?k3_q7 ?k4_q7 ?k5_q7 ?kA_q7 ?kF_q7 ?kK_q7 ?k6_q7 ?k7_q7 ?k8_q7 ?k9_q7 ?kB_q7 ?kD_q7 ?_ ?c2_q7 ?c3_q7 ?c4_q7; (case kA_q7 => exact rfl); (case kF_q7 => exact rfl); (case kK_q7 => assumption); (case k1_q7 => k_asm); (case k2_q7 => k_asm); (case k3_q7 => k_asm); (case k4_q7 => k_asm); (case k5_q7 => k_asm); (case k6_q7 => k_is); (case k7_q7 => k_is); (case k8_q7 => ktr_room); (case k9_q7 => exact BindsTo.of_eq rfl); (case kB_q7 => exact rfl); (case kD_q7 => decide +kernel); (case c2_q7 => exact rfl); (case c3_q7 => exact rfl); (case c4_q7 => exact rfl); k_whole; intro L' h' tk' cells' F' N' Y' B' X' T'; k_cells Y'; (try dsimp only); (try k_fold)) | fail "step: no entry")
  k_with "ktr_step" => ((refine rlist_end (by assumption) (by assumption) (by assumption) (by assumption) (by assumption) (by assumption) List.mem_cons_self (by assumption) ?_))
  k_with "ktn_step" => ((refine rlist_end (vs := []) (by assumption) (by assumption) (by assumption) (by assumption) (by assumption) (by assumption) List.mem_cons_self IntsAre.nil ?_))
  k_with "ktf_step" => (first | assumption | exact lt_wid (by with_reducible assumption) (by k_dflt (exact rfl)) | k_dflt (exact Nat.le_of_ble_eq_true rfl) | l_fit)
  k_with "exec While Compare cons nil" => ((k_extra "while"))
  k_with "k_ne" => ((refine neN ?_; (try dsimp only); first | exact Apt.use (by assumption) (by k_mem) | exact Ne.symm (Apt.use (by assumption) (by k_mem)) | ((with_reducible rename (@Ne Nat _ _ ∧ _) ∧ _ => q9); first | with_reducible exact q9.1.1 | with_reducible exact Ne.symm q9.1.1 | with_reducible exact q9.1.2.1 | with_reducible exact Ne.symm q9.1.2.1 | with_reducible exact q9.1.2.2 | with_reducible exact Ne.symm q9.1.2.2 | with_reducible exact q9.1 | with_reducible exact Ne.symm q9.1 | with_reducible exact q9.2.1 | with_reducible exact Ne.symm q9.2.1 | with_reducible exact q9.2.2 | with_reducible exact Ne.symm q9.2.2 | with_reducible exact q9.2.1.1 | with_reducible exact Ne.symm q9.2.1.1 | with_reducible exact q9.2.1.2.1 | with_reducible exact Ne.symm q9.2.1.2.1 | with_reducible exact q9.2.1.2.2 | with_reducible exact Ne.symm q9.2.1.2.2 | with_reducible exact q9.2.2.1 | with_reducible exact Ne.symm q9.2.2.1 | with_reducible exact q9.2.2.2 | with_reducible exact Ne.symm q9.2.2.2 | with_reducible exact q9.2.2.1.1 | with_reducible exact Ne.symm q9.2.2.1.1 | with_reducible exact q9.2.2.1.2.1 | with_reducible exact Ne.symm q9.2.2.1.2.1 | with_reducible exact q9.2.2.1.2.2 | with_reducible exact Ne.symm q9.2.2.1.2.2 | with_reducible exact q9.2.2.2.1 | with_reducible exact Ne.symm q9.2.2.2.1 | with_reducible exact q9.2.2.2.2 | with_reducible exact Ne.symm q9.2.2.2.2 | with_reducible exact q9.2.2.2.1.1 | with_reducible exact Ne.symm q9.2.2.2.1.1 | with_reducible exact q9.2.2.2.1.2.1 | with_reducible exact Ne.symm q9.2.2.2.1.2.1 | with_reducible exact q9.2.2.2.1.2.2 | with_reducible exact Ne.symm q9.2.2.2.1.2.2 | with_reducible exact q9.2.2.2.2.1 | with_reducible exact Ne.symm q9.2.2.2.2.1 | with_reducible exact q9.2.2.2.2.2 | with_reducible exact Ne.symm q9.2.2.2.2.2 | with_reducible exact q9.2.2.2.2.1.1 | with_reducible exact Ne.symm q9.2.2.2.2.1.1 | with_reducible exact q9.2.2.2.2.1.2.1 | with_reducible exact Ne.symm q9.2.2.2.2.1.2.1 | with_reducible exact q9.2.2.2.2.1.2.2 | with_reducible exact Ne.symm q9.2.2.2.2.1.2.2 | with_reducible exact q9.2.2.2.2.2.1 | with_reducible exact Ne.symm q9.2.2.2.2.2.1 | with_reducible exact q9.2.2.2.2.2.2 | with_reducible exact Ne.symm q9.2.2.2.2.2.2) | ((with_reducible rename @Ne Nat _ _ ∧ _ => q9); first | with_reducible exact q9.1 | with_reducible exact Ne.symm q9.1 | with_reducible exact q9.2.1 | with_reducible exact Ne.symm q9.2.1 | with_reducible exact q9.2.2 | with_reducible exact Ne.symm q9.2.2)))
  k_with "execs cons" => ((dsimp only))
  k_with "eval BinOp" => ((dsimp only))
  k_with "storeName" => ((dsimp only))
  k_with "ktr_room" => ((first | exact room_of (by with_reducible assumption) (by k_dflt (exact rfl)) | exact room_in (by with_reducible assumption)))
  k_with "ktr_units" => ((exact room_of (by with_reducible assumption) (by k_dflt (exact rfl))))
  k_with "omega" => ((first | (with_reducible assumption) | exact lt_wid (by with_reducible assumption) (by k_dflt (exact rfl)) | exact le_wid (by with_reducible assumption) (by k_dflt (exact rfl)) | (k_dflt (exact Nat.le_of_ble_eq_true rfl)) | exact ilt_wid (And.right (by with_reducible assumption)) (by k_dflt (exact rfl)) | exact igt_wid (And.left (by with_reducible assumption)) (by k_dflt (exact rfl)) | (k_dflt decide) | exact Apt.use (by with_reducible assumption) (by k_mem) | exact Ne.symm (Apt.use (by with_reducible assumption) (by k_mem)) | ((repeat ((with_reducible rename (@Ne Nat _ _ ∧ _) ∧ _ => q9); clear q9)); (repeat ((with_reducible rename @Ne Nat _ _ ∧ _ => q9); clear q9)); (try clear hu); (try clear hd); omega +splitNatSub)))
  k_with "ktf_step" => (first | assumption | exact lt_wid (by with_reducible assumption) (by k_dflt (exact rfl)) | k_dflt (exact Nat.le_of_ble_eq_true rfl) | l_fit | ((simp only [List.length_cons, List.length_nil]); omega) | (simp only [List.length_cons, List.length_nil, List.length_append]; first | done | omega) | exact Nat.le_refl _)
  k_with "ktr_rel" => (first | assumption | exact IsTup.keeps (by assumption) (Fr.keep (by assumption)) | exact News.isTup (by assumption) (by k_mem) | fail "no tuple")
  k_with "subscriptTail Name BinOp ref int" => (((with_reducible show wpAny _ _ (subscriptTail _ _ (Value.ref _) (Value.int _ _)) _ _ _); k_dflt (refine' item_list_ints ?k1_q7 ?k2_q7 ?k3_q7 ?k4_q7 ?k5_q7 ?_; (case k1_q7 => first | exact News.isList (by assumption) (by k_mem) | is_list); (case k2_q7 => assumption); (case k3_q7 => ((repeat ((with_reducible rename (@Ne Nat _ _ ∧ _) ∧ _ => q9); clear q9)); (repeat ((with_reducible rename @Ne Nat _ _ ∧ _ => q9); clear q9)); omega)); (case k4_q7 => ((repeat ((with_reducible rename (@Ne Nat _ _ ∧ _) ∧ _ => q9); clear q9)); (repeat ((with_reducible rename @Ne Nat _ _ ∧ _ => q9); clear q9)); omega)); (case k5_q7 => ((repeat ((with_reducible rename (@Ne Nat _ _ ∧ _) ∧ _ => q9); clear q9)); (repeat ((with_reducible rename @Ne Nat _ _ ∧ _ => q9); clear q9)); omega)); k_whole); intro _))
  k_with "subscriptTail Name Name ref int" => (((with_reducible show wpAny _ _ (subscriptTail _ _ (Value.ref _) (Value.int _ _)) _ _ _); k_dflt (refine' item_list_ints ?k1_q7 ?k2_q7 ?k3_q7 ?k4_q7 ?k5_q7 ?_; (case k1_q7 => first | exact News.isList (by assumption) (by k_mem) | is_list); (case k2_q7 => assumption); (case k3_q7 => ((repeat ((with_reducible rename (@Ne Nat _ _ ∧ _) ∧ _ => q9); clear q9)); (repeat ((with_reducible rename @Ne Nat _ _ ∧ _ => q9); clear q9)); omega)); (case k4_q7 => ((repeat ((with_reducible rename (@Ne Nat _ _ ∧ _) ∧ _ => q9); clear q9)); (repeat ((with_reducible rename @Ne Nat _ _ ∧ _ => q9); clear q9)); omega)); (case k5_q7 => ((repeat ((with_reducible rename (@Ne Nat _ _ ∧ _) ∧ _ => q9); clear q9)); (repeat ((with_reducible rename @Ne Nat _ _ ∧ _ => q9); clear q9)); omega)); k_whole); intro _))
  k_with "l_ints" => (k_dflt (first | assumption | exact IntsAre.nil | exact IntsAre.cons _ _ IntsAre.nil | exact IntsAre.cons _ _ (IntsAre.cons _ _ IntsAre.nil) | exact IntsAre.cons _ _ (IntsAre.cons _ _ (IntsAre.cons _ _ IntsAre.nil)) | exact IntsAre.cons _ _ (IntsAre.cons _ _ (IntsAre.cons _ _ (IntsAre.cons _ _ (IntsAre.cons _ _ (IntsAre.cons _ _ (IntsAre.cons _ _ (IntsAre.cons _ _ IntsAre.nil))))))) | exact IntsAre.append (by l_ints) (IntsAre.cons _ _ IntsAre.nil)))
  k_with "call ref" => ((k_here; k_dflt ((refine' con_use (gcd_c _ _ _ _ _) ?k1_q7 ?k2_q7 ?k3_q7 ?k4_q7 ?k5_q7 ?kK_q7 ?kd_q7 ?ku_q7 ?kp_q7 ?_; (case kp_q7 => exact trivial); (case k1_q7 => k_asm); (case k2_q7 => k_asm); (case k3_q7 => k_asm); (case k4_q7 => k_asm); (case k5_q7 => k_asm); (case kK_q7 => first | exact rfl | assumption); (case kd_q7 => ktr_room); (case ku_q7 => ktr_units); k_whole); intro t' h' tk' F' N'; (try k_sweep))))
  unfold Con
  k_fill
  intro dp un gd cn cs aa ccd cl outer A₀ base h₀ L m news s Q E mean mg mb B F X N T hk hd hu hpre hret
  obtain ⟨vs, hl, hi⟩ := hpre
  refine wpAny_call ?_
  k_dflt ktd_step
  k_steps
  exact rint_end hret (by assumption) (by assumption) rfl
theorem zcontent_c (w : World) (l : Addr) (ns : List Int) (hz : ns.length < 2 ^ 20) : Con w 9 124 [.ref l] (HasL l ns) (RInt (contentP ns)) := by
  w_top off
  k_with_none
  k_with "ktd_step" => (first | (refine' code_defG ?k1_q7 ?k2_q7 ?k3_q7 ?k4_q7 ?k5_q7 ?kA_q7 ?kF_q7 ?kK_q7 ?k6_q7 ?k7_q7 ?k8_q7 ?k9_q7 ?kB_q7 ?_ ?c2_q7 ?c3_q7 ?c4_q7 ?c5_q7; (case kA_q7 => exact rfl); (case kF_q7 => exact rfl); (case kK_q7 => assumption); (case k1_q7 => k_asm); (case k2_q7 => k_asm); (case k3_q7 => k_asm); (case k4_q7 => k_asm); (case k5_q7 => k_asm); (case k6_q7 => k_is); (case k7_q7 => k_is); (case k8_q7 => ktr_room); (case k9_q7 => exact BindsTo.of_eq rfl); (case c5_q7 => decide); (case kB_q7 => exact locs rfl); (case c2_q7 => exact rfl); (case c3_q7 => exact rfl); (case c4_q7 => exact rfl); k_whole; intro L' h' F' N' B' X' T'; (try dsimp only); (try k_fold)) | (refine' code_defGC ?k1_q7 ?k2_q7 ?k3_q7 ?k4_q7 ?k5_q7 ?kA_q7 ?kF_q7 ?kK_q7 ?k6_q7 ?k7_q7 ?k8_q7 ?k9_q7 ?kB_q7 ?kD_q7 ?_ ?c2_q7 ?c3_q7 ?c4_q7; (case kA_q7 => exact rfl); (case kF_q7 => exact rfl); (case kK_q7 => assumption); (case k1_q7 => k_asm); (case k2_q7 => k_asm); (case k3_q7 => k_asm); (case k4_q7 => k_asm); (case k5_q7 => k_asm); (case k6_q7 => k_is); (case k7_q7 => k_is); (case k8_q7 => ktr_room); (case k9_q7 => exact BindsTo.of_eq rfl); (case kB_q7 => exact rfl); (case kD_q7 => decide +kernel); (case c2_q7 => exact rfl); (case c3_q7 => exact rfl); (case c4_q7 => exact rfl); k_whole; intro L' h' tk' cells' F' N' Y' B' X' T'; k_cells Y'; (try dsimp only); (try k_fold)) | fail "step: no entry")
  k_with "ktr_step" => ((refine rlist_end (by assumption) (by assumption) (by assumption) (by assumption) (by assumption) (by assumption) List.mem_cons_self (by assumption) ?_))
  k_with "ktn_step" => ((refine rlist_end (vs := []) (by assumption) (by assumption) (by assumption) (by assumption) (by assumption) (by assumption) List.mem_cons_self IntsAre.nil ?_))
  k_with "ktf_step" => (first | assumption | exact lt_wid (by with_reducible assumption) (by k_dflt (exact rfl)) | k_dflt (exact Nat.le_of_ble_eq_true rfl) | l_fit)
  k_with "exec While Compare cons nil" => ((k_extra "while"))
  k_with "k_ne" => ((refine neN ?_; (try dsimp only); first | exact Apt.use (by assumption) (by k_mem) | exact Ne.symm (Apt.use (by assumption) (by k_mem)) | ((with_reducible rename (@Ne Nat _ _ ∧ _) ∧ _ => q9); first | with_reducible exact q9.1.1 | with_reducible exact Ne.symm q9.1.1 | with_reducible exact q9.1.2.1 | with_reducible exact Ne.symm q9.1.2.1 | with_reducible exact q9.1.2.2 | with_reducible exact Ne.symm q9.1.2.2 | with_reducible exact q9.1 | with_reducible exact Ne.symm q9.1 | with_reducible exact q9.2.1 | with_reducible exact Ne.symm q9.2.1 | with_reducible exact q9.2.2 | with_reducible exact Ne.symm q9.2.2 | with_reducible exact q9.2.1.1 | with_reducible exact Ne.symm q9.2.1.1 | with_reducible exact q9.2.1.2.1 | with_reducible exact Ne.symm q9.2.1.2.1 | with_reducible exact q9.2.1.2.2 | with_reducible exact Ne.symm q9.2.1.2.2 | with_reducible exact q9.2.2.1 | with_reducible exact Ne.symm q9.2.2.1 | with_reducible exact q9.2.2.2 | with_reducible exact Ne.symm q9.2.2.2 | with_reducible exact q9.2.2.1.1 | with_reducible exact Ne.symm q9.2.2.1.1 | with_reducible exact q9.2.2.1.2.1 | with_reducible exact Ne.symm q9.2.2.1.2.1 | with_reducible exact q9.2.2.1.2.2 | with_reducible exact Ne.symm q9.2.2.1.2.2 | with_reducible exact q9.2.2.2.1 | with_reducible exact Ne.symm q9.2.2.2.1 | with_reducible exact q9.2.2.2.2 | with_reducible exact Ne.symm q9.2.2.2.2 | with_reducible exact q9.2.2.2.1.1 | with_reducible exact Ne.symm q9.2.2.2.1.1 | with_reducible exact q9.2.2.2.1.2.1 | with_reducible exact Ne.symm q9.2.2.2.1.2.1 | with_reducible exact q9.2.2.2.1.2.2 | with_reducible exact Ne.symm q9.2.2.2.1.2.2 | with_reducible exact q9.2.2.2.2.1 | with_reducible exact Ne.symm q9.2.2.2.2.1 | with_reducible exact q9.2.2.2.2.2 | with_reducible exact Ne.symm q9.2.2.2.2.2 | with_reducible exact q9.2.2.2.2.1.1 | with_reducible exact Ne.symm q9.2.2.2.2.1.1 | with_reducible exact q9.2.2.2.2.1.2.1 | with_reducible exact Ne.symm q9.2.2.2.2.1.2.1 | with_reducible exact q9.2.2.2.2.1.2.2 | with_reducible exact Ne.symm q9.2.2.2.2.1.2.2 | with_reducible exact q9.2.2.2.2.2.1 | with_reducible exact Ne.symm q9.2.2.2.2.2.1 | with_reducible exact q9.2.2.2.2.2.2 | with_reducible exact Ne.symm q9.2.2.2.2.2.2) | ((with_reducible rename @Ne Nat _ _ ∧ _ => q9); first | with_reducible exact q9.1 | with_reducible exact Ne.symm q9.1 | with_reducible exact q9.2.1 | with_reducible exact Ne.symm q9.2.1 | with_reducible exact q9.2.2 | with_reducible exact Ne.symm q9.2.2)))
  k_with "execs cons" => ((dsimp only))
  k_with "eval BinOp" => ((dsimp only))
  k_with "storeName" => ((dsimp only))
  k_with "ktr_room" => ((first | exact room_of (by with_reducible assumption) (by k_dflt (exact rfl)) | exact room_in (by with_reducible assumption)))
  k_with "ktr_units" => ((exact room_of (by with_reducible assumption) (by k_dflt (exact rfl))))
  k_with "omega" => ((first | (with_reducible assumption) | exact lt_wid (by with_reducible assumption) (by k_dflt (exact rfl)) | exact le_wid (by with_reducible assumption) (by k_dflt (exact rfl)) | (k_dflt (exact Nat.le_of_ble_eq_true rfl)) | exact ilt_wid (And.right (by with_reducible assumption)) (by k_dflt (exact rfl)) | exact igt_wid (And.left (by with_reducible assumption)) (by k_dflt (exact rfl)) | (k_dflt decide) | exact Apt.use (by with_reducible assumption) (by k_mem) | exact Ne.symm (Apt.use (by with_reducible assumption) (by k_mem)) | ((repeat ((with_reducible rename (@Ne Nat _ _ ∧ _) ∧ _ => q9); clear q9)); (repeat ((with_reducible rename @Ne Nat _ _ ∧ _ => q9); clear q9)); (try clear hu); (try clear hd); omega +splitNatSub)))
  k_with "ktf_step" => (first | assumption | exact lt_wid (by with_reducible assumption) (by k_dflt (exact rfl)) | k_dflt (exact Nat.le_of_ble_eq_true rfl) | l_fit | ((simp only [List.length_cons, List.length_nil]); omega) | (simp only [List.length_cons, List.length_nil, List.length_append]; first | done | omega) | exact Nat.le_refl _)
  k_with "ktr_rel" => (first | assumption | exact IsTup.keeps (by assumption) (Fr.keep (by assumption)) | exact News.isTup (by assumption) (by k_mem) | fail "no tuple")
  k_with "subscriptTail Name BinOp ref int" => (((with_reducible show wpAny _ _ (subscriptTail _ _ (Value.ref _) (Value.int _ _)) _ _ _); k_dflt (refine' item_list_ints ?k1_q7 ?k2_q7 ?k3_q7 ?k4_q7 ?k5_q7 ?_; (case k1_q7 => first | exact News.isList (by assumption) (by k_mem) | is_list); (case k2_q7 => assumption); (case k3_q7 => ((repeat ((with_reducible rename (@Ne Nat _ _ ∧ _) ∧ _ => q9); clear q9)); (repeat ((with_reducible rename @Ne Nat _ _ ∧ _ => q9); clear q9)); omega)); (case k4_q7 => ((repeat ((with_reducible rename (@Ne Nat _ _ ∧ _) ∧ _ => q9); clear q9)); (repeat ((with_reducible rename @Ne Nat _ _ ∧ _ => q9); clear q9)); omega)); (case k5_q7 => ((repeat ((with_reducible rename (@Ne Nat _ _ ∧ _) ∧ _ => q9); clear q9)); (repeat ((with_reducible rename @Ne Nat _ _ ∧ _ => q9); clear q9)); omega)); k_whole); intro _))
  k_with "subscriptTail Name Name ref int" => (((with_reducible show wpAny _ _ (subscriptTail _ _ (Value.ref _) (Value.int _ _)) _ _ _); k_dflt (refine' item_list_ints ?k1_q7 ?k2_q7 ?k3_q7 ?k4_q7 ?k5_q7 ?_; (case k1_q7 => first | exact News.isList (by assumption) (by k_mem) | is_list); (case k2_q7 => assumption); (case k3_q7 => ((repeat ((with_reducible rename (@Ne Nat _ _ ∧ _) ∧ _ => q9); clear q9)); (repeat ((with_reducible rename @Ne Nat _ _ ∧ _ => q9); clear q9)); omega)); (case k4_q7 => ((repeat ((with_reducible rename (@Ne Nat _ _ ∧ _) ∧ _ => q9); clear q9)); (repeat ((with_reducible rename @Ne Nat _ _ ∧ _ => q9); clear q9)); omega)); (case k5_q7 => ((repeat ((with_reducible rename (@Ne Nat _ _ ∧ _) ∧ _ => q9); clear q9)); (repeat ((with_reducible rename @Ne Nat _ _ ∧ _ => q9); clear q9)); omega)); k_whole); intro _))
  k_with "l_ints" => (k_dflt (first | assumption | exact IntsAre.nil | exact IntsAre.cons _ _ IntsAre.nil | exact IntsAre.cons _ _ (IntsAre.cons _ _ IntsAre.nil) | exact IntsAre.cons _ _ (IntsAre.cons _ _ (IntsAre.cons _ _ IntsAre.nil)) | exact IntsAre.cons _ _ (IntsAre.cons _ _ (IntsAre.cons _ _ (IntsAre.cons _ _ (IntsAre.cons _ _ (IntsAre.cons _ _ (IntsAre.cons _ _ (IntsAre.cons _ _ IntsAre.nil))))))) | exact IntsAre.append (by l_ints) (IntsAre.cons _ _ IntsAre.nil)))
  k_with "call ref" => ((k_here; k_dflt ((refine' con_use (gcd_c _ _ _ _ _) ?k1_q7 ?k2_q7 ?k3_q7 ?k4_q7 ?k5_q7 ?kK_q7 ?kd_q7 ?ku_q7 ?kp_q7 ?_; (case kp_q7 => exact trivial); (case k1_q7 => k_asm); (case k2_q7 => k_asm); (case k3_q7 => k_asm); (case k4_q7 => k_asm); (case k5_q7 => k_asm); (case kK_q7 => first | exact rfl | assumption); (case kd_q7 => ktr_room); (case ku_q7 => ktr_units); k_whole); intro t' h' tk' F' N'; (try k_sweep))))
  k_with "call ref" => ((k_here; k_dflt ((refine' con_use (gcdall_c _ _ _ ?hz_q7) ?k1_q7 ?k2_q7 ?k3_q7 ?k4_q7 ?k5_q7 ?kK_q7 ?kd_q7 ?ku_q7 ?kp_q7 ?_; (case kp_q7 => exact hasL_of (by is_list) (by l_ints)); (case hz_q7 => ktf_step); (case k1_q7 => k_asm); (case k2_q7 => k_asm); (case k3_q7 => k_asm); (case k4_q7 => k_asm); (case k5_q7 => k_asm); (case kK_q7 => first | exact rfl | assumption); (case kd_q7 => ktr_room); (case ku_q7 => ktr_units); k_whole); intro t' h' tk' F' N'; (try k_sweep))))
  unfold Con
  k_fill
  intro dp un gd cn cs aa ccd cl outer A₀ base h₀ L m news s Q E mean mg mb B F X N T hk hd hu hpre hret
  obtain ⟨vs, hl, hi⟩ := hpre
  refine wpAny_call ?_
  k_dflt ktd_step
  k_steps
  exact rint_end hret (by assumption) (by assumption) rfl

end
section
-- needs: C3 C6
abbrev lastP (ns : List Int) : Int := ns.getD ((-1 : Int) + (ns.length : Nat)).toNat 0
abbrev psStep (b : List Int) (first : Int) (rest : List Int) : List Int := subP (scaleP rest first) (raiseP (scaleP b (lastP rest)) ((rest.length : Int) - (b.length : Int)))
def psGo (b : List Int) (first : Int) : Nat → List Int → Int → Option (List Int × Int)
  | 0, rest, left => if rest.length < b.length then some (rest, left) else none
  | n + 1, rest, left => if rest.length < b.length then some (rest, left) else
      if (-2 ^ 60 < lastP rest ∧ lastP rest < 2 ^ 60) ∧ rest.length < 2 ^ 12 then psGo b first n (psStep b first rest) (left - 1) else none
theorem psIf {b : List Int} {first : Int} {n : Nat} {rest rest' r : List Int} {left q : Int} {T F : Prop} (h : psGo b first (n + 1) rest' left = some (r, q)) (e : rest = rest')
    (hT : b.length ≤ rest.length → (-2 ^ 60 < lastP rest ∧ lastP rest < 2 ^ 60) → rest.length < 2 ^ 12 → psGo b first n (psStep b first rest) (left - 1) = some (r, q) → T)
    (hF : ¬ b.length ≤ rest.length → r = rest → q = left → F) : WhlIf (decide ((b.length : Int) ≤ (rest.length : Int))) T F := by
  subst e
  by_cases hc : b.length ≤ rest.length
  · refine WhlIf.yes (decide_eq_true (by omega)) ?_
    rw [psGo, if_neg (by omega)] at h
    split at h
    · next h2 => exact hT hc h2.1 h2.2 h
    · cases h
  · refine WhlIf.no (decide_eq_false (by omega)) ?_
    rw [psGo, if_pos (by omega)] at h
    cases h
    exact hF hc rfl rfl
theorem psIf0 {b : List Int} {first : Int} {rest rest' r : List Int} {left q : Int} {T F : Prop} (h : psGo b first 0 rest' left = some (r, q)) (e : rest = rest') (hF : ¬ b.length ≤ rest.length → r = rest → q = left → F) : WhlIf (decide ((b.length : Int) ≤ (rest.length : Int))) T F := by
  subst e
  by_cases hc : b.length ≤ rest.length
  · rw [psGo, if_neg (by omega)] at h; cases h
  · refine WhlIf.no (decide_eq_false (by omega)) ?_
    rw [psGo, if_pos (by omega)] at h
    cases h
    exact hF hc rfl rfl
def RPs (r : List Int) (h₀ : Heap) (L : Addr) (m : Str → Option Value) (news : List (Addr × Obj)) (s : Shared) (Q : Value → Shared → Prop) : Prop :=
  ∀ (T l1 l2 : Addr) (vs1 vs2 : List Value) (q : List Int) (n1 n2 : Nat) (t : Tok) (h' : Heap) (tk' : Nat), Fr h₀ L h' m → News h₀ L h' ((T, { cls := .type "tuple", data := .seq #[.ref l1, .ref l2, .int 2 t] }) :: (l1, listOf vs1.toArray n1) :: (l2, listOf vs2.toArray n2) :: news) →
    (∀ p ∈ news, p.1 ≠ T) → (∀ p ∈ news, p.1 ≠ l1) → (∀ p ∈ news, p.1 ≠ l2) → IntsAre vs1 q → IntsAre vs2 r → vs2.length = r.length → Q (.ref T) { s with heap := h', toks := tk' }
theorem fresh_ne {h₀ g h' : Heap} {L L' l : Addr} {o : Obj} {news nx : List (Addr × Obj)} (N0 : News h₀ L g news) (Ng : News g L' h' nx) (hm : (l, o) ∈ nx) : ∀ p ∈ news, p.1 ≠ l := by
  intro p hp q
  have h1 := (N0 p hp).1
  have h2 := (Ng _ hm).2.2
  rw [q] at h1
  rw [h2] at h1
  cases h1
theorem rps_end {h₀ h' : Heap} {L L' : Addr} {m : Str → Option Value} {news nx : List (Addr × Obj)} {s : Shared} {Q : Value → Shared → Prop} {T l1 l2 : Addr} {vs1 vs2 : List Value} {n1 n2 tk : Nat} {q r r' : List Int} {many : Int} {t : Tok}
    (hret : RPs r h₀ L m news s Q) (N0 : News h₀ L s.heap news) (F : Fr h₀ L h' m) (N1 : News h₀ L h' news) (Nk : News h₀ L h' nx) (Ng : News s.heap L' h' nx)
    (hT : (T, ({ cls := .type "tuple", data := .seq #[.ref l1, .ref l2, .int many t] } : Obj)) ∈ nx) (h1 : (l1, listOf vs1.toArray n1) ∈ nx) (h2 : (l2, listOf vs2.toArray n2) ∈ nx) (hm : many = 2) (hI1 : IntsAre vs1 q) (hI2 : IntsAre vs2 r') (e : r' = r) :
    Q (.ref T) { s with heap := h', toks := tk } := by
  subst e
  subst hm
  refine hret T l1 l2 vs1 vs2 q n1 n2 t h' tk F (fun p hp => ?_) (fresh_ne N0 Ng hT) (fresh_ne N0 Ng h1) (fresh_ne N0 Ng h2) hI1 hI2 hI2.length
  rcases List.mem_cons.mp hp with rfl | hp
  · exact Nk _ hT
  rcases List.mem_cons.mp hp with rfl | hp
  · exact Nk _ h1
  rcases List.mem_cons.mp hp with rfl | hp
  · exact Nk _ h2
  · exact N1 p hp
abbrev RNone (h₀ : Heap) (L : Addr) (m : Str → Option Value) (news : List (Addr × Obj)) (s : Shared) (Q : Value → Shared → Prop) : Prop :=
  ∀ (h' : Heap) (tk' : Nat), Fr h₀ L h' m → News h₀ L h' news → Q .none { s with heap := h', toks := tk' }
theorem check_c (w : World) (l : Addr) (ns : List Int) (hz : ns.length < 2 ^ 20) (h0 : 0 < ns.length) : Con w 3 155 [.ref l] (HasL l ns) RNone := by
  w_top off
  k_with_none
  k_with "ktd_step" => (first | (refine' code_defG ?k1_q7 ?k2_q7 ?k3_q7 ?k4_q7 ?k5_q7 ?kA_q7 ?kF_q7 ?kK_q7 ?k6_q7 ?k7_q7 ?k8_q7 ?k9_q7 ?kB_q7 ?_ ?c2_q7 ?c3_q7 ?c4_q7 ?c5_q7; (case kA_q7 => exact rfl); (case kF_q7 => exact rfl); (case kK_q7 => assumption); (case k1_q7 => k_asm); (case k2_q7 => k_asm); (case k3_q7 => k_asm); (case k4_q7 => k_asm); (case k5_q7 => k_asm); (case k6_q7 => k_is); (case k7_q7 => k_is); (case k8_q7 => ktr_room); (case k9_q7 => exact BindsTo.of_eq rfl); (case c5_q7 => decide); (case kB_q7 => exact locs rfl); (case c2_q7 => exact rfl); (case c3_q7 => exact rfl); (case c4_q7 => exact rfl); k_whole; intro L' h' F' N' B' X' T'; (try dsimp only); (try k_fold)) | (refine' code_defGC ?k1_q7 ?k2_q7 ?k3_q7 ?k4_q7 ?k5_q7 ?kA_q7 ?kF_q7 ?kK_q7 ?k6_q7 ?k7_q7 ?k8_q7 ?k9_q7 ?kB_q7 ?kD_q7 ?_ ?c2_q7 ?c3_q7 ?c4_q7; (case kA_q7 => exact rfl); (case kF_q7 => exact rfl); (case kK_q7 => assumption); (case k1_q7 => k_asm); (case k2_q7 => k_asm); (case k3_q7 => k_asm); (case k4_q7 => k_asm); (case k5_q7 => k_asm); (case k6_q7 => k_is); (case k7_q7 => k_is); (case k8_q7 => ktr_room); (case k9_q7 => exact BindsTo.of_eq rfl); (case kB_q7 => exact rfl); (case kD_q7 => decide +kernel); (case c2_q7 => exact rfl); (case c3_q7 => exact rfl); (case c4_q7 => exact rfl); k_whole; intro L' h' tk' cells' F' N' Y' B' X' T'; k_cells Y'; (try dsimp only); (try k_fold)) | fail "step: no entry")
  k_with "ktr_step" => ((refine rlist_end (by assumption) (by assumption) (by assumption) (by assumption) (by assumption) (by assumption) List.mem_cons_self (by assumption) ?_))
  k_with "ktn_step" => ((refine rlist_end (vs := []) (by assumption) (by assumption) (by assumption) (by assumption) (by assumption) (by assumption) List.mem_cons_self IntsAre.nil ?_))
  k_with "ktf_step" => (first | assumption | exact lt_wid (by with_reducible assumption) (by k_dflt (exact rfl)) | k_dflt (exact Nat.le_of_ble_eq_true rfl) | l_fit)
  k_with "exec While Compare cons nil" => ((k_extra "while"))
  k_with "k_ne" => ((refine neN ?_; (try dsimp only); first | exact Apt.use (by assumption) (by k_mem) | exact Ne.symm (Apt.use (by assumption) (by k_mem)) | ((with_reducible rename (@Ne Nat _ _ ∧ _) ∧ _ => q9); first | with_reducible exact q9.1.1 | with_reducible exact Ne.symm q9.1.1 | with_reducible exact q9.1.2.1 | with_reducible exact Ne.symm q9.1.2.1 | with_reducible exact q9.1.2.2 | with_reducible exact Ne.symm q9.1.2.2 | with_reducible exact q9.1 | with_reducible exact Ne.symm q9.1 | with_reducible exact q9.2.1 | with_reducible exact Ne.symm q9.2.1 | with_reducible exact q9.2.2 | with_reducible exact Ne.symm q9.2.2 | with_reducible exact q9.2.1.1 | with_reducible exact Ne.symm q9.2.1.1 | with_reducible exact q9.2.1.2.1 | with_reducible exact Ne.symm q9.2.1.2.1 | with_reducible exact q9.2.1.2.2 | with_reducible exact Ne.symm q9.2.1.2.2 | with_reducible exact q9.2.2.1 | with_reducible exact Ne.symm q9.2.2.1 | with_reducible exact q9.2.2.2 | with_reducible exact Ne.symm q9.2.2.2 | with_reducible exact q9.2.2.1.1 | with_reducible exact Ne.symm q9.2.2.1.1 | with_reducible exact q9.2.2.1.2.1 | with_reducible exact Ne.symm q9.2.2.1.2.1 | with_reducible exact q9.2.2.1.2.2 | with_reducible exact Ne.symm q9.2.2.1.2.2 | with_reducible exact q9.2.2.2.1 | with_reducible exact Ne.symm q9.2.2.2.1 | with_reducible exact q9.2.2.2.2 | with_reducible exact Ne.symm q9.2.2.2.2 | with_reducible exact q9.2.2.2.1.1 | with_reducible exact Ne.symm q9.2.2.2.1.1 | with_reducible exact q9.2.2.2.1.2.1 | with_reducible exact Ne.symm q9.2.2.2.1.2.1 | with_reducible exact q9.2.2.2.1.2.2 | with_reducible exact Ne.symm q9.2.2.2.1.2.2 | with_reducible exact q9.2.2.2.2.1 | with_reducible exact Ne.symm q9.2.2.2.2.1 | with_reducible exact q9.2.2.2.2.2 | with_reducible exact Ne.symm q9.2.2.2.2.2 | with_reducible exact q9.2.2.2.2.1.1 | with_reducible exact Ne.symm q9.2.2.2.2.1.1 | with_reducible exact q9.2.2.2.2.1.2.1 | with_reducible exact Ne.symm q9.2.2.2.2.1.2.1 | with_reducible exact q9.2.2.2.2.1.2.2 | with_reducible exact Ne.symm q9.2.2.2.2.1.2.2 | with_reducible exact q9.2.2.2.2.2.1 | with_reducible exact Ne.symm q9.2.2.2.2.2.1 | with_reducible exact q9.2.2.2.2.2.2 | with_reducible exact Ne.symm q9.2.2.2.2.2.2) | ((with_reducible rename @Ne Nat _ _ ∧ _ => q9); first | with_reducible exact q9.1 | with_reducible exact Ne.symm q9.1 | with_reducible exact q9.2.1 | with_reducible exact Ne.symm q9.2.1 | with_reducible exact q9.2.2 | with_reducible exact Ne.symm q9.2.2)))
  k_with "execs cons" => ((dsimp only))
  k_with "eval BinOp" => ((dsimp only))
  k_with "storeName" => ((dsimp only))
  k_with "ktr_room" => ((first | exact room_of (by with_reducible assumption) (by k_dflt (exact rfl)) | exact room_in (by with_reducible assumption)))
  k_with "ktr_units" => ((exact room_of (by with_reducible assumption) (by k_dflt (exact rfl))))
  k_with "omega" => ((first | (with_reducible assumption) | exact lt_wid (by with_reducible assumption) (by k_dflt (exact rfl)) | exact le_wid (by with_reducible assumption) (by k_dflt (exact rfl)) | (k_dflt (exact Nat.le_of_ble_eq_true rfl)) | exact ilt_wid (And.right (by with_reducible assumption)) (by k_dflt (exact rfl)) | exact igt_wid (And.left (by with_reducible assumption)) (by k_dflt (exact rfl)) | (k_dflt decide) | exact Apt.use (by with_reducible assumption) (by k_mem) | exact Ne.symm (Apt.use (by with_reducible assumption) (by k_mem)) | ((repeat ((with_reducible rename (@Ne Nat _ _ ∧ _) ∧ _ => q9); clear q9)); (repeat ((with_reducible rename @Ne Nat _ _ ∧ _ => q9); clear q9)); (try clear hu); (try clear hd); omega +splitNatSub)))
  k_with "ktf_step" => (first | assumption | exact lt_wid (by with_reducible assumption) (by k_dflt (exact rfl)) | k_dflt (exact Nat.le_of_ble_eq_true rfl) | l_fit | ((simp only [List.length_cons, List.length_nil]); omega) | (simp only [List.length_cons, List.length_nil, List.length_append]; first | done | omega) | exact Nat.le_refl _)
  k_with "ktr_rel" => (first | assumption | exact IsTup.keeps (by assumption) (Fr.keep (by assumption)) | exact News.isTup (by assumption) (by k_mem) | fail "no tuple")
  k_with "subscriptTail Name BinOp ref int" => (((with_reducible show wpAny _ _ (subscriptTail _ _ (Value.ref _) (Value.int _ _)) _ _ _); k_dflt (refine' item_list_ints ?k1_q7 ?k2_q7 ?k3_q7 ?k4_q7 ?k5_q7 ?_; (case k1_q7 => first | exact News.isList (by assumption) (by k_mem) | is_list); (case k2_q7 => assumption); (case k3_q7 => ((repeat ((with_reducible rename (@Ne Nat _ _ ∧ _) ∧ _ => q9); clear q9)); (repeat ((with_reducible rename @Ne Nat _ _ ∧ _ => q9); clear q9)); omega)); (case k4_q7 => ((repeat ((with_reducible rename (@Ne Nat _ _ ∧ _) ∧ _ => q9); clear q9)); (repeat ((with_reducible rename @Ne Nat _ _ ∧ _ => q9); clear q9)); omega)); (case k5_q7 => ((repeat ((with_reducible rename (@Ne Nat _ _ ∧ _) ∧ _ => q9); clear q9)); (repeat ((with_reducible rename @Ne Nat _ _ ∧ _ => q9); clear q9)); omega)); k_whole); intro _))
  k_with "subscriptTail Name Name ref int" => (((with_reducible show wpAny _ _ (subscriptTail _ _ (Value.ref _) (Value.int _ _)) _ _ _); k_dflt (refine' item_list_ints ?k1_q7 ?k2_q7 ?k3_q7 ?k4_q7 ?k5_q7 ?_; (case k1_q7 => first | exact News.isList (by assumption) (by k_mem) | is_list); (case k2_q7 => assumption); (case k3_q7 => ((repeat ((with_reducible rename (@Ne Nat _ _ ∧ _) ∧ _ => q9); clear q9)); (repeat ((with_reducible rename @Ne Nat _ _ ∧ _ => q9); clear q9)); omega)); (case k4_q7 => ((repeat ((with_reducible rename (@Ne Nat _ _ ∧ _) ∧ _ => q9); clear q9)); (repeat ((with_reducible rename @Ne Nat _ _ ∧ _ => q9); clear q9)); omega)); (case k5_q7 => ((repeat ((with_reducible rename (@Ne Nat _ _ ∧ _) ∧ _ => q9); clear q9)); (repeat ((with_reducible rename @Ne Nat _ _ ∧ _ => q9); clear q9)); omega)); k_whole); intro _))
  k_with "l_ints" => (k_dflt (first | assumption | exact IntsAre.nil | exact IntsAre.cons _ _ IntsAre.nil | exact IntsAre.cons _ _ (IntsAre.cons _ _ IntsAre.nil) | exact IntsAre.cons _ _ (IntsAre.cons _ _ (IntsAre.cons _ _ IntsAre.nil)) | exact IntsAre.cons _ _ (IntsAre.cons _ _ (IntsAre.cons _ _ (IntsAre.cons _ _ (IntsAre.cons _ _ (IntsAre.cons _ _ (IntsAre.cons _ _ (IntsAre.cons _ _ IntsAre.nil))))))) | exact IntsAre.append (by l_ints) (IntsAre.cons _ _ IntsAre.nil)))
  unfold Con
  k_fill
  intro dp un gd cn cs aa ccd cl outer A₀ base h₀ L m news s Q E mean mg mb B F X N T hk hd hu hpre hret
  obtain ⟨vs, hl, hi⟩ := hpre
  refine wpAny_call ?_
  k_dflt ktd_step
  k_steps
  all_goals first | exact hret _ _ (by assumption) (by assumption) | (exfalso; omega) | trace_state
theorem many_two {a b : List Int} (h : a.length = b.length + 1) : (if (a.length : Int) - (b.length : Int) + 1 > 0 then (a.length : Int) - (b.length : Int) + 1 else 0) = 2 := by
  rw [if_pos (by omega)]; omega
theorem pow_zero' {prog : Program} {w : World} {A : Around} {E : Value → Shared → Prop} {s : Shared} {a n : Int} {t u : Tok} {Q : Value → Shared → Prop} (hn : n = 0) (ha : a.natAbs < 2 ^ 64) (h : Q (.int 1 s.toks) { s with toks := s.toks + 1 }) :
    wpAny (model prog w) A (binaryOp .Pow (.int a t) (.int n u)) Q E s := by
  subst hn
  refine pow_int_small (by decide) (by decide) ha ?_
  rw [show (0 : Int).toNat = 0 from rfl, Int.pow_zero]
  exact h
theorem pow_one' {prog : Program} {w : World} {A : Around} {E : Value → Shared → Prop} {s : Shared} {a n : Int} {t u : Tok} {Q : Value → Shared → Prop} (hn : n = 1) (ha : a.natAbs < 2 ^ 64) (h : Q (.int a s.toks) { s with toks := s.toks + 1 }) :
    wpAny (model prog w) A (binaryOp .Pow (.int a t) (.int n u)) Q E s := by
  subst hn
  refine pow_int_small (by decide) (by decide) ha ?_
  rw [show (1 : Int).toNat = 1 from rfl, Int.pow_one]
  exact h
section
theorem pseudo_c (w : World) (la lb : Addr) (a b r : List Int) (q : Int) (hb0 : 0 < b.length) (hb1 : b.length < 2 ^ 10) (hab : a.length = b.length + 1) (hf : -2 ^ 60 < leadP b ∧ leadP b < 2 ^ 60) (hgo : psGo b (leadP b) 2 a 2 = some (r, q)) :
    Con w 15 169 [.ref la, .ref lb] (fun h => HasL la a h ∧ HasL lb b h) (RPs (scaleP r (if q = 0 then 1 else leadP b))) := by
  w_top off
  k_with_none
  k_with "ktd_step" => (first | (refine' code_defG ?k1_q7 ?k2_q7 ?k3_q7 ?k4_q7 ?k5_q7 ?kA_q7 ?kF_q7 ?kK_q7 ?k6_q7 ?k7_q7 ?k8_q7 ?k9_q7 ?kB_q7 ?_ ?c2_q7 ?c3_q7 ?c4_q7 ?c5_q7; (case kA_q7 => exact rfl); (case kF_q7 => exact rfl); (case kK_q7 => assumption); (case k1_q7 => k_asm); (case k2_q7 => k_asm); (case k3_q7 => k_asm); (case k4_q7 => k_asm); (case k5_q7 => k_asm); (case k6_q7 => k_is); (case k7_q7 => k_is); (case k8_q7 => ktr_room); (case k9_q7 => exact BindsTo.of_eq rfl); (case c5_q7 => decide); (case kB_q7 => exact locs rfl); (case c2_q7 => exact rfl); (case c3_q7 => exact rfl); (case c4_q7 => exact rfl); k_whole; intro L' h' F' N' B' X' T'; (try dsimp only); (try k_fold)) | (refine' code_defGC ?k1_q7 ?k2_q7 ?k3_q7 ?k4_q7 ?k5_q7 ?kA_q7 ?kF_q7 ?kK_q7 ?k6_q7 ?k7_q7 ?k8_q7 ?k9_q7 ?kB_q7 ?kD_q7 ?_ ?c2_q7 ?c3_q7 ?c4_q7; (case kA_q7 => exact rfl); (case kF_q7 => exact rfl); (case kK_q7 => assumption); (case k1_q7 => k_asm); (case k2_q7 => k_asm); (case k3_q7 => k_asm); (case k4_q7 => k_asm); (case k5_q7 => k_asm); (case k6_q7 => k_is); (case k7_q7 => k_is); (case k8_q7 => ktr_room); (case k9_q7 => exact BindsTo.of_eq rfl); (case kB_q7 => exact rfl); (case kD_q7 => decide +kernel); (case c2_q7 => exact rfl); (case c3_q7 => exact rfl); (case c4_q7 => exact rfl); k_whole; intro L' h' tk' cells' F' N' Y' B' X' T'; k_cells Y'; (try dsimp only); (try k_fold)) | fail "step: no entry")
  k_with "ktr_step" => ((refine rlist_end (by assumption) (by assumption) (by assumption) (by assumption) (by assumption) (by assumption) List.mem_cons_self (by assumption) ?_))
  k_with "ktn_step" => ((refine rlist_end (vs := []) (by assumption) (by assumption) (by assumption) (by assumption) (by assumption) (by assumption) List.mem_cons_self IntsAre.nil ?_))
  k_with "ktf_step" => (first | assumption | exact lt_wid (by with_reducible assumption) (by k_dflt (exact rfl)) | k_dflt (exact Nat.le_of_ble_eq_true rfl) | l_fit)
  k_with "exec While Compare cons nil" => ((k_extra "while"))
  k_with "k_ne" => ((refine neN ?_; (try dsimp only); first | exact Apt.use (by assumption) (by k_mem) | exact Ne.symm (Apt.use (by assumption) (by k_mem)) | ((with_reducible rename (@Ne Nat _ _ ∧ _) ∧ _ => q9); first | with_reducible exact q9.1.1 | with_reducible exact Ne.symm q9.1.1 | with_reducible exact q9.1.2.1 | with_reducible exact Ne.symm q9.1.2.1 | with_reducible exact q9.1.2.2 | with_reducible exact Ne.symm q9.1.2.2 | with_reducible exact q9.1 | with_reducible exact Ne.symm q9.1 | with_reducible exact q9.2.1 | with_reducible exact Ne.symm q9.2.1 | with_reducible exact q9.2.2 | with_reducible exact Ne.symm q9.2.2 | with_reducible exact q9.2.1.1 | with_reducible exact Ne.symm q9.2.1.1 | with_reducible exact q9.2.1.2.1 | with_reducible exact Ne.symm q9.2.1.2.1 | with_reducible exact q9.2.1.2.2 | with_reducible exact Ne.symm q9.2.1.2.2 | with_reducible exact q9.2.2.1 | with_reducible exact Ne.symm q9.2.2.1 | with_reducible exact q9.2.2.2 | with_reducible exact Ne.symm q9.2.2.2 | with_reducible exact q9.2.2.1.1 | with_reducible exact Ne.symm q9.2.2.1.1 | with_reducible exact q9.2.2.1.2.1 | with_reducible exact Ne.symm q9.2.2.1.2.1 | with_reducible exact q9.2.2.1.2.2 | with_reducible exact Ne.symm q9.2.2.1.2.2 | with_reducible exact q9.2.2.2.1 | with_reducible exact Ne.symm q9.2.2.2.1 | with_reducible exact q9.2.2.2.2 | with_reducible exact Ne.symm q9.2.2.2.2 | with_reducible exact q9.2.2.2.1.1 | with_reducible exact Ne.symm q9.2.2.2.1.1 | with_reducible exact q9.2.2.2.1.2.1 | with_reducible exact Ne.symm q9.2.2.2.1.2.1 | with_reducible exact q9.2.2.2.1.2.2 | with_reducible exact Ne.symm q9.2.2.2.1.2.2 | with_reducible exact q9.2.2.2.2.1 | with_reducible exact Ne.symm q9.2.2.2.2.1 | with_reducible exact q9.2.2.2.2.2 | with_reducible exact Ne.symm q9.2.2.2.2.2 | with_reducible exact q9.2.2.2.2.1.1 | with_reducible exact Ne.symm q9.2.2.2.2.1.1 | with_reducible exact q9.2.2.2.2.1.2.1 | with_reducible exact Ne.symm q9.2.2.2.2.1.2.1 | with_reducible exact q9.2.2.2.2.1.2.2 | with_reducible exact Ne.symm q9.2.2.2.2.1.2.2 | with_reducible exact q9.2.2.2.2.2.1 | with_reducible exact Ne.symm q9.2.2.2.2.2.1 | with_reducible exact q9.2.2.2.2.2.2 | with_reducible exact Ne.symm q9.2.2.2.2.2.2) | ((with_reducible rename @Ne Nat _ _ ∧ _ => q9); first | with_reducible exact q9.1 | with_reducible exact Ne.symm q9.1 | with_reducible exact q9.2.1 | with_reducible exact Ne.symm q9.2.1 | with_reducible exact q9.2.2 | with_reducible exact Ne.symm q9.2.2)))
  k_with "execs cons" => ((dsimp only))
  k_with "eval BinOp" => ((dsimp only))
  k_with "storeName" => ((dsimp only))
  k_with "ktr_room" => ((first | exact room_of (by with_reducible assumption) (by k_dflt (exact rfl)) | exact room_in (by with_reducible assumption)))
  k_with "ktr_units" => ((exact room_of (by with_reducible assumption) (by k_dflt (exact rfl))))
  k_with "omega" => ((first | (with_reducible assumption) | exact lt_wid (by with_reducible assumption) (by k_dflt (exact rfl)) | exact le_wid (by with_reducible assumption) (by k_dflt (exact rfl)) | (k_dflt (exact Nat.le_of_ble_eq_true rfl)) | exact ilt_wid (And.right (by with_reducible assumption)) (by k_dflt (exact rfl)) | exact igt_wid (And.left (by with_reducible assumption)) (by k_dflt (exact rfl)) | (k_dflt decide) | exact Apt.use (by with_reducible assumption) (by k_mem) | exact Ne.symm (Apt.use (by with_reducible assumption) (by k_mem)) | ((repeat ((with_reducible rename (@Ne Nat _ _ ∧ _) ∧ _ => q9); clear q9)); (repeat ((with_reducible rename @Ne Nat _ _ ∧ _ => q9); clear q9)); (try clear hu); (try clear hd); omega +splitNatSub)))
  k_with "ktf_step" => (first | assumption | exact lt_wid (by with_reducible assumption) (by k_dflt (exact rfl)) | k_dflt (exact Nat.le_of_ble_eq_true rfl) | l_fit | ((simp only [List.length_cons, List.length_nil]); omega) | (simp only [List.length_cons, List.length_nil, List.length_append]; first | done | omega) | exact Nat.le_refl _)
  k_with "ktr_rel" => (first | assumption | exact IsTup.keeps (by assumption) (Fr.keep (by assumption)) | exact News.isTup (by assumption) (by k_mem) | fail "no tuple")
  k_with "subscriptTail Name BinOp ref int" => (((with_reducible show wpAny _ _ (subscriptTail _ _ (Value.ref _) (Value.int _ _)) _ _ _); k_dflt (refine' item_list_ints ?k1_q7 ?k2_q7 ?k3_q7 ?k4_q7 ?k5_q7 ?_; (case k1_q7 => first | exact News.isList (by assumption) (by k_mem) | is_list); (case k2_q7 => assumption); (case k3_q7 => ((repeat ((with_reducible rename (@Ne Nat _ _ ∧ _) ∧ _ => q9); clear q9)); (repeat ((with_reducible rename @Ne Nat _ _ ∧ _ => q9); clear q9)); omega)); (case k4_q7 => ((repeat ((with_reducible rename (@Ne Nat _ _ ∧ _) ∧ _ => q9); clear q9)); (repeat ((with_reducible rename @Ne Nat _ _ ∧ _ => q9); clear q9)); omega)); (case k5_q7 => ((repeat ((with_reducible rename (@Ne Nat _ _ ∧ _) ∧ _ => q9); clear q9)); (repeat ((with_reducible rename @Ne Nat _ _ ∧ _ => q9); clear q9)); omega)); k_whole); intro _))
  k_with "subscriptTail Name Name ref int" => (((with_reducible show wpAny _ _ (subscriptTail _ _ (Value.ref _) (Value.int _ _)) _ _ _); k_dflt (refine' item_list_ints ?k1_q7 ?k2_q7 ?k3_q7 ?k4_q7 ?k5_q7 ?_; (case k1_q7 => first | exact News.isList (by assumption) (by k_mem) | is_list); (case k2_q7 => assumption); (case k3_q7 => ((repeat ((with_reducible rename (@Ne Nat _ _ ∧ _) ∧ _ => q9); clear q9)); (repeat ((with_reducible rename @Ne Nat _ _ ∧ _ => q9); clear q9)); omega)); (case k4_q7 => ((repeat ((with_reducible rename (@Ne Nat _ _ ∧ _) ∧ _ => q9); clear q9)); (repeat ((with_reducible rename @Ne Nat _ _ ∧ _ => q9); clear q9)); omega)); (case k5_q7 => ((repeat ((with_reducible rename (@Ne Nat _ _ ∧ _) ∧ _ => q9); clear q9)); (repeat ((with_reducible rename @Ne Nat _ _ ∧ _ => q9); clear q9)); omega)); k_whole); intro _))
  k_with "l_ints" => (k_dflt (first | assumption | exact IntsAre.nil | exact IntsAre.cons _ _ IntsAre.nil | exact IntsAre.cons _ _ (IntsAre.cons _ _ IntsAre.nil) | exact IntsAre.cons _ _ (IntsAre.cons _ _ (IntsAre.cons _ _ IntsAre.nil)) | exact IntsAre.cons _ _ (IntsAre.cons _ _ (IntsAre.cons _ _ (IntsAre.cons _ _ (IntsAre.cons _ _ (IntsAre.cons _ _ (IntsAre.cons _ _ (IntsAre.cons _ _ IntsAre.nil))))))) | exact IntsAre.append (by l_ints) (IntsAre.cons _ _ IntsAre.nil)))
  k_with "call ref" => ((k_here; k_dflt ((refine' con_use (check_c _ _ _ ?hz_q7 ?hb_q7) ?k1_q7 ?k2_q7 ?k3_q7 ?k4_q7 ?k5_q7 ?kK_q7 ?kd_q7 ?ku_q7 ?kp_q7 ?_; (case kp_q7 => exact hasL_of (by is_list) (by l_ints)); (case hz_q7 => ktf_step); (case hb_q7 => assumption); (case k1_q7 => k_asm); (case k2_q7 => k_asm); (case k3_q7 => k_asm); (case k4_q7 => k_asm); (case k5_q7 => k_asm); (case kK_q7 => first | exact rfl | assumption); (case kd_q7 => ktr_room); (case ku_q7 => ktr_units); k_whole); intro h' tk' F' N'; (try k_sweep))))
  k_with "call ref" => ((k_here; k_dflt ((refine' con_use (zneg_c _ _ _ ?hz_q7) ?k1_q7 ?k2_q7 ?k3_q7 ?k4_q7 ?k5_q7 ?kK_q7 ?kd_q7 ?ku_q7 ?kp_q7 ?_; (case kp_q7 => exact hasL_of (by is_list) (by l_ints)); (case hz_q7 => ktf_step); (case k1_q7 => k_asm); (case k2_q7 => k_asm); (case k3_q7 => k_asm); (case k4_q7 => k_asm); (case k5_q7 => k_asm); (case kK_q7 => first | exact rfl | assumption); (case kd_q7 => ktr_room); (case ku_q7 => ktr_units); k_whole); intro l' vs' n' h' tk' F' N' l1 I' e1; (replace l1 := Apt.of l1); (obtain ⟨d9, I9, e9⟩ := ints_hide I'); clear I' e1; (have b9 := le_neg e9); (try simp only [List.length_cons, List.length_nil] at b9); (try k_sweep))))
  k_with "call ref" => ((k_here; k_dflt ((refine' con_use (zscale_c _ _ _ _ _ ?hz_q7 ?hb_q7) ?k1_q7 ?k2_q7 ?k3_q7 ?k4_q7 ?k5_q7 ?kK_q7 ?kd_q7 ?ku_q7 ?kp_q7 ?_; (case kp_q7 => exact hasL_of (by is_list) (by l_ints)); (case hz_q7 => ktf_step); (case hb_q7 => first | assumption | exact ⟨by omega, by omega⟩ | exact ⟨by l_fact, by l_fact⟩); (case k1_q7 => k_asm); (case k2_q7 => k_asm); (case k3_q7 => k_asm); (case k4_q7 => k_asm); (case k5_q7 => k_asm); (case kK_q7 => first | exact rfl | assumption); (case kd_q7 => ktr_room); (case ku_q7 => ktr_units); k_whole); intro l' vs' n' h' tk' F' N' l1 I' e1; (replace l1 := Apt.of l1); (obtain ⟨d9, I9, e9⟩ := ints_hide I'); clear I' e1; (have b9 := le_scale e9); (try simp only [List.length_cons, List.length_nil] at b9); (try k_sweep))))
  k_with "call ref" => ((k_here; k_dflt ((refine' con_use (zraise_c _ _ _ _ _ ?hz_q7 ?hb_q7) ?k1_q7 ?k2_q7 ?k3_q7 ?k4_q7 ?k5_q7 ?kK_q7 ?kd_q7 ?ku_q7 ?kp_q7 ?_; (case kp_q7 => exact hasL_of (by is_list) (by l_ints)); (case hz_q7 => ktf_step); (case hb_q7 => first | assumption | exact ⟨by omega, by omega⟩ | exact ⟨by l_fact, by l_fact⟩); (case k1_q7 => k_asm); (case k2_q7 => k_asm); (case k3_q7 => k_asm); (case k4_q7 => k_asm); (case k5_q7 => k_asm); (case kK_q7 => first | exact rfl | assumption); (case kd_q7 => ktr_room); (case ku_q7 => ktr_units); k_whole); intro l' vs' n' h' tk' F' N' l1 I' e1; (replace l1 := Apt.of l1); (obtain ⟨d9, I9, e9⟩ := ints_hide I'); clear I' e1; (have b9 := le_raise e9); (try simp only [List.length_cons, List.length_nil] at b9); (try k_sweep))))
  k_with "call ref" => ((k_here; k_dflt ((refine' con_use (zsub_c _ _ _ _ _ ?hz_q7 ?hb_q7) ?k1_q7 ?k2_q7 ?k3_q7 ?k4_q7 ?k5_q7 ?kK_q7 ?kd_q7 ?ku_q7 ?kp_q7 ?_; (case kp_q7 => exact ⟨hasL_of (by is_list) (by l_ints), hasL_of (by is_list) (by l_ints)⟩); (case hz_q7 => ktf_step); (case hb_q7 => ktf_step); (case k1_q7 => k_asm); (case k2_q7 => k_asm); (case k3_q7 => k_asm); (case k4_q7 => k_asm); (case k5_q7 => k_asm); (case kK_q7 => first | exact rfl | assumption); (case kd_q7 => ktr_room); (case ku_q7 => ktr_units); k_whole); intro l' vs' n' h' tk' F' N' l1 I' e1; (replace l1 := Apt.of l1); (obtain ⟨d9, I9, e9⟩ := ints_hide I'); clear I' e1; (have b9 := le_sub e9); (try simp only [List.length_cons, List.length_nil] at b9); (try k_sweep))))
  k_with "call ref" => ((k_here; k_dflt ((refine' con_use (zlead_c _ _ _ ?hz_q7) ?k1_q7 ?k2_q7 ?k3_q7 ?k4_q7 ?k5_q7 ?kK_q7 ?kd_q7 ?ku_q7 ?kp_q7 ?_; (case kp_q7 => exact hasL_of (by is_list) (by l_ints)); (case hz_q7 => ktf_step); (case k1_q7 => k_asm); (case k2_q7 => k_asm); (case k3_q7 => k_asm); (case k4_q7 => k_asm); (case k5_q7 => k_asm); (case kK_q7 => first | exact rfl | assumption); (case kd_q7 => ktr_room); (case ku_q7 => ktr_units); k_whole); intro t' h' tk' F' N'; (try k_sweep))))
  k_with "WhlIf" => ((k_extra "whlif"))
  k_with "binaryOp Pow int int" => ((k_extra "pow"))
  k_with "while" => k_dflt (refine whl_start 3 ?_)
  k_with "whlif" =>
    (rename psGo _ _ _ _ _ = some _ => hgo9)
    first
    | refine psIf0 hgo9 (by first | rfl | (subst_vars; rfl)) (fun h8 er eq => ?_)
    | (refine psIf hgo9 (by first | rfl | (subst_vars; rfl)) (fun h8 hnum9 hlen9 hgo8 => ?_) (fun h8 er eq => ?_)
       clear hgo9
       rotate_left
       try (exfalso; omega)
       rotate_left)
  k_with "pow" => first | (refine pow_zero' (by rw [many_two hab]; decide) (by omega) ?_) | (refine pow_one' (by rw [many_two hab]; decide) (by omega) ?_)
  unfold Con
  k_fill
  intro dp un gd cn cs aa ccd cl outer A₀ base h₀ L m news s Q E mean mg mb B F X N T hk hd hu hpre hret
  obtain ⟨⟨vs, hl, hi⟩, ⟨vs2, hl2, hi2⟩⟩ := hpre
  refine wpAny_call ?_
  k_dflt ktd_step
  k_steps
  all_goals (
    refine rps_end hret N (by assumption) (by assumption) (by assumption) (by assumption) List.mem_cons_self (by k_mem) (by k_mem) (many_two hab) (by assumption) (by assumption) ?_
    clear hret
    subst_vars
    rfl)
end

end
section
-- needs: C5 C14
def cvStep (st : (Int × Int) × (Int × Int) × List (Int × Int)) (w : Int) : (Int × Int) × (Int × Int) × List (Int × Int) :=
  ((w * st.1.1 + st.2.1.1, w * st.1.2 + st.2.1.2), st.1, st.2.2 ++ [if 0 ≤ w * st.1.2 + st.2.1.2 then (w * st.1.1 + st.2.1.1, w * st.1.2 + st.2.1.2) else (0 - (w * st.1.1 + st.2.1.1), 0 - (w * st.1.2 + st.2.1.2))])
def cvP (ns : List Int) : (Int × Int) × (Int × Int) × List (Int × Int) := ns.foldl cvStep ((1, 0), (0, 1), [])
abbrev tupD (p : Int × Int) : Dat := .tuple [.int p.1, .int p.2]
theorem cv_snoc {pre : List Int} {w a b c e : Int} {o : List (Int × Int)} (h : cvP pre = ((a, b), (c, e), o)) :
    cvP (pre ++ [w]) = ((w * a + c, w * b + e), (a, b), o ++ [if 0 ≤ w * b + e then (w * a + c, w * b + e) else (0 - (w * a + c), 0 - (w * b + e))]) := by
  unfold cvP at h ⊢
  rw [List.foldl_append, h]; rfl
abbrev tupO (a b : Int) (t u : Tok) (n : Nat) : Obj := { cls := .type "tuple", data := .seq #[.int a t, .int b u] n }
theorem dat_tup {led : List (Addr × Obj)} {vs : List Value} {p : Int × Int} {ds : List Dat} (h : DatAll led vs (tupD p :: ds)) : ∃ (t : Addr) (u v : Tok) (n : Nat) (vs' : List Value), vs = .ref t :: vs' ∧ (t, tupO p.1 p.2 u v n) ∈ led ∧ DatAll led vs' ds := by
  cases h with
  | cons h r =>
    cases h with
    | tuple hm hd =>
      cases hd with
      | cons h1 r1 =>
        cases h1 with
        | int _ u =>
          cases r1 with
          | cons h2 r2 =>
            cases h2 with
            | int _ v =>
              cases r2
              exact ⟨_, u, v, _, _, rfl, hm, r⟩
def RConv (a1 b1 a2 b2 a3 b3 a4 b4 a5 b5 a6 b6 a7 b7 a8 b8 : Int) (h₀ : Heap) (L : Addr) (m : Str → Option Value) (news : List (Addr × Obj)) (s : Shared) (Q : Value → Shared → Prop) : Prop :=
  ∀ (l t1 t2 t3 t4 t5 t6 t7 t8 : Addr) (u1 v1 u2 v2 u3 v3 u4 v4 u5 v5 u6 v6 u7 v7 u8 v8 : Tok) (n n1 n2 n3 n4 n5 n6 n7 n8 : Nat) (h' : Heap) (tk' : Nat), Fr h₀ L h' m →
    News h₀ L h' ((l, listOf #[.ref t1, .ref t2, .ref t3, .ref t4, .ref t5, .ref t6, .ref t7, .ref t8] n) :: (t1, tupO a1 b1 u1 v1 n1) :: (t2, tupO a2 b2 u2 v2 n2) :: (t3, tupO a3 b3 u3 v3 n3) :: (t4, tupO a4 b4 u4 v4 n4) :: (t5, tupO a5 b5 u5 v5 n5) :: (t6, tupO a6 b6 u6 v6 n6) :: (t7, tupO a7 b7 u7 v7 n7) :: (t8, tupO a8 b8 u8 v8 n8) :: news) → (∀ p ∈ news, p.1 ≠ l) → Q (.ref l) { s with heap := h', toks := tk' }
theorem conv_end {h₀ h' : Heap} {L L' : Addr} {m : Str → Option Value} {news nx : List (Addr × Obj)} {s : Shared} {Q : Value → Shared → Prop} {a1 b1 a2 b2 a3 b3 a4 b4 a5 b5 a6 b6 a7 b7 a8 b8 : Int} {l t1 t2 t3 t4 t5 t6 t7 t8 : Addr} {u1 v1 u2 v2 u3 v3 u4 v4 u5 v5 u6 v6 u7 v7 u8 v8 : Tok} {n n1 n2 n3 n4 n5 n6 n7 n8 tk : Nat}
    (hret : RConv a1 b1 a2 b2 a3 b3 a4 b4 a5 b5 a6 b6 a7 b7 a8 b8 h₀ L m news s Q) (N0 : News h₀ L s.heap news) (F : Fr h₀ L h' m) (N1 : News h₀ L h' news) (Nk : News h₀ L h' nx) (Ng : News s.heap L' h' nx) (hl : (l, listOf #[.ref t1, .ref t2, .ref t3, .ref t4, .ref t5, .ref t6, .ref t7, .ref t8] n) ∈ nx)
    (m1 : (t1, tupO a1 b1 u1 v1 n1) ∈ nx) (m2 : (t2, tupO a2 b2 u2 v2 n2) ∈ nx) (m3 : (t3, tupO a3 b3 u3 v3 n3) ∈ nx) (m4 : (t4, tupO a4 b4 u4 v4 n4) ∈ nx) (m5 : (t5, tupO a5 b5 u5 v5 n5) ∈ nx) (m6 : (t6, tupO a6 b6 u6 v6 n6) ∈ nx) (m7 : (t7, tupO a7 b7 u7 v7 n7) ∈ nx) (m8 : (t8, tupO a8 b8 u8 v8 n8) ∈ nx) : Q (.ref l) { s with heap := h', toks := tk } := by
  refine hret l t1 t2 t3 t4 t5 t6 t7 t8 u1 v1 u2 v2 u3 v3 u4 v4 u5 v5 u6 v6 u7 v7 u8 v8 n n1 n2 n3 n4 n5 n6 n7 n8 h' tk F ?_ (fresh_ne N0 Ng hl)
  intro p hp
  rcases List.mem_cons.mp hp with rfl | hp
  · exact Nk _ hl
  rcases List.mem_cons.mp hp with rfl | hp
  · exact Nk _ m1
  rcases List.mem_cons.mp hp with rfl | hp
  · exact Nk _ m2
  rcases List.mem_cons.mp hp with rfl | hp
  · exact Nk _ m3
  rcases List.mem_cons.mp hp with rfl | hp
  · exact Nk _ m4
  rcases List.mem_cons.mp hp with rfl | hp
  · exact Nk _ m5
  rcases List.mem_cons.mp hp with rfl | hp
  · exact Nk _ m6
  rcases List.mem_cons.mp hp with rfl | hp
  · exact Nk _ m7
  rcases List.mem_cons.mp hp with rfl | hp
  · exact Nk _ m8
  exact N1 p hp
/-- the end of convergents: what the loop has built, item by item, away from the walk -/
theorem conv_fin {h₀ h' : Heap} {L L' : Addr} {m : Str → Option Value} {news led : List (Addr × Obj)} {s : Shared} {Q : Value → Shared → Prop} {a1 b1 a2 b2 a3 b3 a4 b4 a5 b5 a6 b6 a7 b7 a8 b8 : Int} {l : Addr} {vs : List Value} {n tk : Nat} {o : List (Int × Int)} {ds : List Dat}
    (hret : RConv a1 b1 a2 b2 a3 b3 a4 b4 a5 b5 a6 b6 a7 b7 a8 b8 h₀ L m news s Q) (N0 : News h₀ L s.heap news) (F : Fr h₀ L h' m) (N1 : News h₀ L h' news) (Nk : News h₀ L h' ((l, listOf vs.toArray n) :: led)) (Ng : News s.heap L' h' ((l, listOf vs.toArray n) :: led))
    (hd : DatAll led vs ds) (hds : ds = o.map tupD) (ho : o = [(a1, b1), (a2, b2), (a3, b3), (a4, b4), (a5, b5), (a6, b6), (a7, b7), (a8, b8)]) : Q (.ref l) { s with heap := h', toks := tk } := by
  subst ho
  subst hds
  obtain ⟨t1, u1, v1, n1, w1, rfl, m1, hd⟩ := dat_tup hd
  obtain ⟨t2, u2, v2, n2, w2, rfl, m2, hd⟩ := dat_tup hd
  obtain ⟨t3, u3, v3, n3, w3, rfl, m3, hd⟩ := dat_tup hd
  obtain ⟨t4, u4, v4, n4, w4, rfl, m4, hd⟩ := dat_tup hd
  obtain ⟨t5, u5, v5, n5, w5, rfl, m5, hd⟩ := dat_tup hd
  obtain ⟨t6, u6, v6, n6, w6, rfl, m6, hd⟩ := dat_tup hd
  obtain ⟨t7, u7, v7, n7, w7, rfl, m7, hd⟩ := dat_tup hd
  obtain ⟨t8, u8, v8, n8, w8, rfl, m8, hd⟩ := dat_tup hd
  cases hd
  exact conv_end hret N0 F N1 Nk Ng List.mem_cons_self (List.mem_cons_of_mem _ m1) (List.mem_cons_of_mem _ m2) (List.mem_cons_of_mem _ m3) (List.mem_cons_of_mem _ m4) (List.mem_cons_of_mem _ m5) (List.mem_cons_of_mem _ m6) (List.mem_cons_of_mem _ m7) (List.mem_cons_of_mem _ m8)
theorem convergents_c (w : World) (l : Addr) (ns : List Int) (a1 b1 a2 b2 a3 b3 a4 b4 a5 b5 a6 b6 a7 b7 a8 b8 : Int) (hz : ns.length < 2 ^ 16) (hS : Small ns) (hcv : (cvP ns).2.2 = [(a1, b1), (a2, b2), (a3, b3), (a4, b4), (a5, b5), (a6, b6), (a7, b7), (a8, b8)]) : Con w 6 21 [.ref l] (HasL l ns) (RConv a1 b1 a2 b2 a3 b3 a4 b4 a5 b5 a6 b6 a7 b7 a8 b8) := by
  w_top off
  k_with_none
  k_with "ktd_step" => (first | (refine' code_defG ?k1_q7 ?k2_q7 ?k3_q7 ?k4_q7 ?k5_q7 ?kA_q7 ?kF_q7 ?kK_q7 ?k6_q7 ?k7_q7 ?k8_q7 ?k9_q7 ?kB_q7 ?_ ?c2_q7 ?c3_q7 ?c4_q7 ?c5_q7; (case kA_q7 => exact rfl); (case kF_q7 => exact rfl); (case kK_q7 => assumption); (case k1_q7 => k_asm); (case k2_q7 => k_asm); (case k3_q7 => k_asm); (case k4_q7 => k_asm); (case k5_q7 => k_asm); (case k6_q7 => k_is); (case k7_q7 => k_is); (case k8_q7 => ktr_room); (case k9_q7 => exact BindsTo.of_eq rfl); (case c5_q7 => decide); (case kB_q7 => exact locs rfl); (case c2_q7 => exact rfl); (case c3_q7 => exact rfl); (case c4_q7 => exact rfl); k_whole; intro L' h' F' N' B' X' T'; (try dsimp only); (try k_fold)) | (refine' code_defGC ?k1_q7 ?k2_q7 ?k3_q7 ?k4_q7 ?k5_q7 ?kA_q7 ?kF_q7 ?kK_q7 ?k6_q7 ?k7_q7 ?k8_q7 ?k9_q7 ?kB_q7 ?kD_q7 ?_ ?c2_q7 ?c3_q7 ?c4_q7; (case kA_q7 => exact rfl); (case kF_q7 => exact rfl); (case kK_q7 => assumption); (case k1_q7 => k_asm); (case k2_q7 => k_asm); (case k3_q7 => k_asm); (case k4_q7 => k_asm); (case k5_q7 => k_asm); (case k6_q7 => k_is); (case k7_q7 => k_is); (case k8_q7 => ktr_room); (case k9_q7 => exact BindsTo.of_eq rfl); (case kB_q7 => exact rfl); (case kD_q7 => decide +kernel); (case c2_q7 => exact rfl); (case c3_q7 => exact rfl); (case c4_q7 => exact rfl); k_whole; intro L' h' tk' cells' F' N' Y' B' X' T'; k_cells Y'; (try dsimp only); (try k_fold)) | fail "step: no entry")
  k_with "ktr_step" => ((refine rlist_end (by assumption) (by assumption) (by assumption) (by assumption) (by assumption) (by assumption) List.mem_cons_self (by assumption) ?_))
  k_with "ktn_step" => ((refine rlist_end (vs := []) (by assumption) (by assumption) (by assumption) (by assumption) (by assumption) (by assumption) List.mem_cons_self IntsAre.nil ?_))
  k_with "ktf_step" => (first | assumption | exact lt_wid (by with_reducible assumption) (by k_dflt (exact rfl)) | k_dflt (exact Nat.le_of_ble_eq_true rfl) | l_fit)
  k_with "exec While Compare cons nil" => ((k_extra "while"))
  k_with "k_ne" => ((refine neN ?_; (try dsimp only); first | exact Apt.use (by assumption) (by k_mem) | exact Ne.symm (Apt.use (by assumption) (by k_mem)) | ((with_reducible rename (@Ne Nat _ _ ∧ _) ∧ _ => q9); first | with_reducible exact q9.1.1 | with_reducible exact Ne.symm q9.1.1 | with_reducible exact q9.1.2.1 | with_reducible exact Ne.symm q9.1.2.1 | with_reducible exact q9.1.2.2 | with_reducible exact Ne.symm q9.1.2.2 | with_reducible exact q9.1 | with_reducible exact Ne.symm q9.1 | with_reducible exact q9.2.1 | with_reducible exact Ne.symm q9.2.1 | with_reducible exact q9.2.2 | with_reducible exact Ne.symm q9.2.2 | with_reducible exact q9.2.1.1 | with_reducible exact Ne.symm q9.2.1.1 | with_reducible exact q9.2.1.2.1 | with_reducible exact Ne.symm q9.2.1.2.1 | with_reducible exact q9.2.1.2.2 | with_reducible exact Ne.symm q9.2.1.2.2 | with_reducible exact q9.2.2.1 | with_reducible exact Ne.symm q9.2.2.1 | with_reducible exact q9.2.2.2 | with_reducible exact Ne.symm q9.2.2.2 | with_reducible exact q9.2.2.1.1 | with_reducible exact Ne.symm q9.2.2.1.1 | with_reducible exact q9.2.2.1.2.1 | with_reducible exact Ne.symm q9.2.2.1.2.1 | with_reducible exact q9.2.2.1.2.2 | with_reducible exact Ne.symm q9.2.2.1.2.2 | with_reducible exact q9.2.2.2.1 | with_reducible exact Ne.symm q9.2.2.2.1 | with_reducible exact q9.2.2.2.2 | with_reducible exact Ne.symm q9.2.2.2.2 | with_reducible exact q9.2.2.2.1.1 | with_reducible exact Ne.symm q9.2.2.2.1.1 | with_reducible exact q9.2.2.2.1.2.1 | with_reducible exact Ne.symm q9.2.2.2.1.2.1 | with_reducible exact q9.2.2.2.1.2.2 | with_reducible exact Ne.symm q9.2.2.2.1.2.2 | with_reducible exact q9.2.2.2.2.1 | with_reducible exact Ne.symm q9.2.2.2.2.1 | with_reducible exact q9.2.2.2.2.2 | with_reducible exact Ne.symm q9.2.2.2.2.2 | with_reducible exact q9.2.2.2.2.1.1 | with_reducible exact Ne.symm q9.2.2.2.2.1.1 | with_reducible exact q9.2.2.2.2.1.2.1 | with_reducible exact Ne.symm q9.2.2.2.2.1.2.1 | with_reducible exact q9.2.2.2.2.1.2.2 | with_reducible exact Ne.symm q9.2.2.2.2.1.2.2 | with_reducible exact q9.2.2.2.2.2.1 | with_reducible exact Ne.symm q9.2.2.2.2.2.1 | with_reducible exact q9.2.2.2.2.2.2 | with_reducible exact Ne.symm q9.2.2.2.2.2.2) | ((with_reducible rename @Ne Nat _ _ ∧ _ => q9); first | with_reducible exact q9.1 | with_reducible exact Ne.symm q9.1 | with_reducible exact q9.2.1 | with_reducible exact Ne.symm q9.2.1 | with_reducible exact q9.2.2 | with_reducible exact Ne.symm q9.2.2)))
  k_with "execs cons" => ((dsimp only))
  k_with "eval BinOp" => ((dsimp only))
  k_with "storeName" => ((dsimp only))
  k_with "ktr_room" => ((first | exact room_of (by with_reducible assumption) (by k_dflt (exact rfl)) | exact room_in (by with_reducible assumption)))
  k_with "ktr_units" => ((exact room_of (by with_reducible assumption) (by k_dflt (exact rfl))))
  k_with "omega" => ((first | (with_reducible assumption) | exact lt_wid (by with_reducible assumption) (by k_dflt (exact rfl)) | exact le_wid (by with_reducible assumption) (by k_dflt (exact rfl)) | (k_dflt (exact Nat.le_of_ble_eq_true rfl)) | exact ilt_wid (And.right (by with_reducible assumption)) (by k_dflt (exact rfl)) | exact igt_wid (And.left (by with_reducible assumption)) (by k_dflt (exact rfl)) | (k_dflt decide) | exact Apt.use (by with_reducible assumption) (by k_mem) | exact Ne.symm (Apt.use (by with_reducible assumption) (by k_mem)) | ((repeat ((with_reducible rename (@Ne Nat _ _ ∧ _) ∧ _ => q9); clear q9)); (repeat ((with_reducible rename @Ne Nat _ _ ∧ _ => q9); clear q9)); (try clear hu); (try clear hd); omega +splitNatSub)))
  k_with "ktf_step" => (first | assumption | exact lt_wid (by with_reducible assumption) (by k_dflt (exact rfl)) | k_dflt (exact Nat.le_of_ble_eq_true rfl) | l_fit | ((simp only [List.length_cons, List.length_nil]); omega) | (simp only [List.length_cons, List.length_nil, List.length_append]; first | done | omega) | exact Nat.le_refl _)
  k_with "ktr_rel" => (first | assumption | exact IsTup.keeps (by assumption) (Fr.keep (by assumption)) | exact News.isTup (by assumption) (by k_mem) | fail "no tuple")
  k_with "subscriptTail Name BinOp ref int" => (((with_reducible show wpAny _ _ (subscriptTail _ _ (Value.ref _) (Value.int _ _)) _ _ _); k_dflt (refine' item_list_ints ?k1_q7 ?k2_q7 ?k3_q7 ?k4_q7 ?k5_q7 ?_; (case k1_q7 => first | exact News.isList (by assumption) (by k_mem) | is_list); (case k2_q7 => assumption); (case k3_q7 => ((repeat ((with_reducible rename (@Ne Nat _ _ ∧ _) ∧ _ => q9); clear q9)); (repeat ((with_reducible rename @Ne Nat _ _ ∧ _ => q9); clear q9)); omega)); (case k4_q7 => ((repeat ((with_reducible rename (@Ne Nat _ _ ∧ _) ∧ _ => q9); clear q9)); (repeat ((with_reducible rename @Ne Nat _ _ ∧ _ => q9); clear q9)); omega)); (case k5_q7 => ((repeat ((with_reducible rename (@Ne Nat _ _ ∧ _) ∧ _ => q9); clear q9)); (repeat ((with_reducible rename @Ne Nat _ _ ∧ _ => q9); clear q9)); omega)); k_whole); intro _))
  k_with "subscriptTail Name Name ref int" => (((with_reducible show wpAny _ _ (subscriptTail _ _ (Value.ref _) (Value.int _ _)) _ _ _); k_dflt (refine' item_list_ints ?k1_q7 ?k2_q7 ?k3_q7 ?k4_q7 ?k5_q7 ?_; (case k1_q7 => first | exact News.isList (by assumption) (by k_mem) | is_list); (case k2_q7 => assumption); (case k3_q7 => ((repeat ((with_reducible rename (@Ne Nat _ _ ∧ _) ∧ _ => q9); clear q9)); (repeat ((with_reducible rename @Ne Nat _ _ ∧ _ => q9); clear q9)); omega)); (case k4_q7 => ((repeat ((with_reducible rename (@Ne Nat _ _ ∧ _) ∧ _ => q9); clear q9)); (repeat ((with_reducible rename @Ne Nat _ _ ∧ _ => q9); clear q9)); omega)); (case k5_q7 => ((repeat ((with_reducible rename (@Ne Nat _ _ ∧ _) ∧ _ => q9); clear q9)); (repeat ((with_reducible rename @Ne Nat _ _ ∧ _ => q9); clear q9)); omega)); k_whole); intro _))
  k_with "l_ints" => (k_dflt (first | assumption | exact IntsAre.nil | exact IntsAre.cons _ _ IntsAre.nil | exact IntsAre.cons _ _ (IntsAre.cons _ _ IntsAre.nil) | exact IntsAre.cons _ _ (IntsAre.cons _ _ (IntsAre.cons _ _ IntsAre.nil)) | exact IntsAre.cons _ _ (IntsAre.cons _ _ (IntsAre.cons _ _ (IntsAre.cons _ _ (IntsAre.cons _ _ (IntsAre.cons _ _ (IntsAre.cons _ _ (IntsAre.cons _ _ IntsAre.nil))))))) | exact IntsAre.append (by l_ints) (IntsAre.cons _ _ IntsAre.nil)))
  k_with "pyIter ref" => ((k_extra "loop"))
  k_with "mul_fits" => (k_dflt ((rename Small _ => hS9); (have hS8 := hS9 _ (by assumption)); exact PySem.IntMulOk.of_left (PySem.intBits_le_64 (by omega) (by omega))))
  k_with "state" => first
    | exact ⟨_, _, _, _, [], rfl, rfl, rfl, rfl, rfl⟩
    | (refine ⟨_, _, _, _, _, rfl, rfl, ?_, ?_, cv_snoc (by assumption)⟩; (rw [if_pos (by omega), List.map_append]; rfl); (simp only [List.length_append, List.length_cons, List.length_nil, List.length_map] at *; omega))
    | (refine ⟨_, _, _, _, _, rfl, rfl, ?_, ?_, cv_snoc (by assumption)⟩; (rw [if_neg (by omega), List.map_append]; rfl); (simp only [List.length_append, List.length_cons, List.length_nil, List.length_map] at *; omega))
  k_with "loop" => k_dat (fun pre out one other => ∃ (a b c e : Int) (o : List (Int × Int)), one = Dat.tuple [Dat.int a, Dat.int b] ∧ other = Dat.tuple [Dat.int c, Dat.int e] ∧ out = o.map tupD ∧ out.length = pre.length ∧ cvP pre = ((a, b), (c, e), o)) "found*" "one*" "other*"
  unfold Con
  k_fill
  intro dp un gd cn cs aa ccd cl outer A₀ base h₀ L m news s Q E mean mg mb B F X N T hk hd hu hpre hret
  obtain ⟨vs, hl, hi⟩ := hpre
  refine wpAny_call ?_
  k_dflt ktd_step
  k_steps
  rename cvP ns = _ => hr9
  rename DatAll _ _ _ => hd9
  rename News h₀ L _ ((_, _) :: (_, _) :: _) => Nk9
  rename News s.heap _ _ ((_, _) :: (_, _) :: _) => Ng9
  exact conv_fin hret N (by assumption) (by assumption) Nk9 Ng9 hd9 rfl (by rw [← hcv, hr9])

end
section
-- needs: C14
def restP (a b : List Int) : List Int := match psGo b (leadP b) 2 a 2 with
  | some (r, q) => scaleP r (if q = 0 then 1 else leadP b)
  | none => []
def okPs (a b : List Int) : Bool := decide (0 < b.length) && decide (b.length < 2 ^ 10) && decide (a.length = b.length + 1) && decide (-2 ^ 60 < leadP b ∧ leadP b < 2 ^ 60) && decide ((restP a b).length < 2 ^ 10) && (psGo b (leadP b) 2 a 2).isSome
theorem okPs_of {a b : List Int} (h : okPs a b = true) : 0 < b.length ∧ b.length < 2 ^ 10 ∧ a.length = b.length + 1 ∧ (-2 ^ 60 < leadP b ∧ leadP b < 2 ^ 60) ∧ (restP a b).length < 2 ^ 10 ∧ ∃ r q, psGo b (leadP b) 2 a 2 = some (r, q) ∧ restP a b = scaleP r (if q = 0 then 1 else leadP b) := by
  unfold okPs at h
  simp only [Bool.and_eq_true, decide_eq_true_eq] at h
  obtain ⟨⟨⟨⟨⟨h1, h2⟩, h3⟩, h4⟩, h6⟩, h5⟩ := h
  refine ⟨h1, h2, h3, h4, h6, ?_⟩
  obtain ⟨⟨r, q⟩, e⟩ := Option.isSome_iff_exists.mp h5
  exact ⟨r, q, e, by rw [restP, e]⟩
theorem pseudo2_c (w : World) (la lb : Addr) (a b : List Int) (h : okPs a b = true) : Con w 15 169 [.ref la, .ref lb] (fun h => HasL la a h ∧ HasL lb b h) (RPs (restP a b)) := by
  obtain ⟨h1, h2, h3, h4, _, r, q, e, e2⟩ := okPs_of h
  rw [e2]
  exact pseudo_c w la lb a b r q h1 h2 h3 h4 e
theorem le_rest {d a b : List Int} (e : d = restP a b) : d.length = (restP a b).length := by rw [e]
theorem zprest2_c (w : World) (la lb : Addr) (a b : List Int) (h : okPs a b = true) : Con w 18 176 [.ref la, .ref lb] (fun h => HasL la a h ∧ HasL lb b h) (RList (restP a b)) := by
  w_top off
  k_with_none
  k_with "ktd_step" => (first | (refine' code_defG ?k1_q7 ?k2_q7 ?k3_q7 ?k4_q7 ?k5_q7 ?kA_q7 ?kF_q7 ?kK_q7 ?k6_q7 ?k7_q7 ?k8_q7 ?k9_q7 ?kB_q7 ?_ ?c2_q7 ?c3_q7 ?c4_q7 ?c5_q7; (case kA_q7 => exact rfl); (case kF_q7 => exact rfl); (case kK_q7 => assumption); (case k1_q7 => k_asm); (case k2_q7 => k_asm); (case k3_q7 => k_asm); (case k4_q7 => k_asm); (case k5_q7 => k_asm); (case k6_q7 => k_is); (case k7_q7 => k_is); (case k8_q7 => ktr_room); (case k9_q7 => exact BindsTo.of_eq rfl); (case c5_q7 => decide); (case kB_q7 => exact locs rfl); (case c2_q7 => exact rfl); (case c3_q7 => exact rfl); (case c4_q7 => exact rfl); k_whole; intro L' h' F' N' B' X' T'; (try dsimp only); (try k_fold)) | (refine' code_defGC ?k1_q7 ?k2_q7 ?k3_q7 ?k4_q7 ?k5_q7 ?kA_q7 ?kF_q7 ?kK_q7 ?k6_q7 ?k7_q7 ?k8_q7 ?k9_q7 ?kB_q7 ?kD_q7 ?_ ?c2_q7 ?c3_q7 ?c4_q7; (case kA_q7 => exact rfl); (case kF_q7 => exact rfl); (case kK_q7 => assumption); (case k1_q7 => k_asm); (case k2_q7 => k_asm); (case k3_q7 => k_asm); (case k4_q7 => k_asm); (case k5_q7 => k_asm); (case k6_q7 => k_is); (case k7_q7 => k_is); (case k8_q7 => ktr_room); (case k9_q7 => exact BindsTo.of_eq rfl); (case kB_q7 => exact rfl); (case kD_q7 => decide +kernel); (case c2_q7 => exact rfl); (case c3_q7 => exact rfl); (case c4_q7 => exact rfl); k_whole; intro L' h' tk' cells' F' N' Y' B' X' T'; k_cells Y'; (try dsimp only); (try k_fold)) | fail "step: no entry")
  k_with "ktr_step" => ((refine rlist_end (by assumption) (by assumption) (by assumption) (by assumption) (by assumption) (by assumption) List.mem_cons_self (by assumption) ?_))
  k_with "ktn_step" => ((refine rlist_end (vs := []) (by assumption) (by assumption) (by assumption) (by assumption) (by assumption) (by assumption) List.mem_cons_self IntsAre.nil ?_))
  k_with "ktf_step" => (first | assumption | exact lt_wid (by with_reducible assumption) (by k_dflt (exact rfl)) | k_dflt (exact Nat.le_of_ble_eq_true rfl) | l_fit)
  k_with "exec While Compare cons nil" => ((k_extra "while"))
  k_with "k_ne" => ((refine neN ?_; (try dsimp only); first | exact Apt.use (by assumption) (by k_mem) | exact Ne.symm (Apt.use (by assumption) (by k_mem)) | ((with_reducible rename (@Ne Nat _ _ ∧ _) ∧ _ => q9); first | with_reducible exact q9.1.1 | with_reducible exact Ne.symm q9.1.1 | with_reducible exact q9.1.2.1 | with_reducible exact Ne.symm q9.1.2.1 | with_reducible exact q9.1.2.2 | with_reducible exact Ne.symm q9.1.2.2 | with_reducible exact q9.1 | with_reducible exact Ne.symm q9.1 | with_reducible exact q9.2.1 | with_reducible exact Ne.symm q9.2.1 | with_reducible exact q9.2.2 | with_reducible exact Ne.symm q9.2.2 | with_reducible exact q9.2.1.1 | with_reducible exact Ne.symm q9.2.1.1 | with_reducible exact q9.2.1.2.1 | with_reducible exact Ne.symm q9.2.1.2.1 | with_reducible exact q9.2.1.2.2 | with_reducible exact Ne.symm q9.2.1.2.2 | with_reducible exact q9.2.2.1 | with_reducible exact Ne.symm q9.2.2.1 | with_reducible exact q9.2.2.2 | with_reducible exact Ne.symm q9.2.2.2 | with_reducible exact q9.2.2.1.1 | with_reducible exact Ne.symm q9.2.2.1.1 | with_reducible exact q9.2.2.1.2.1 | with_reducible exact Ne.symm q9.2.2.1.2.1 | with_reducible exact q9.2.2.1.2.2 | with_reducible exact Ne.symm q9.2.2.1.2.2 | with_reducible exact q9.2.2.2.1 | with_reducible exact Ne.symm q9.2.2.2.1 | with_reducible exact q9.2.2.2.2 | with_reducible exact Ne.symm q9.2.2.2.2 | with_reducible exact q9.2.2.2.1.1 | with_reducible exact Ne.symm q9.2.2.2.1.1 | with_reducible exact q9.2.2.2.1.2.1 | with_reducible exact Ne.symm q9.2.2.2.1.2.1 | with_reducible exact q9.2.2.2.1.2.2 | with_reducible exact Ne.symm q9.2.2.2.1.2.2 | with_reducible exact q9.2.2.2.2.1 | with_reducible exact Ne.symm q9.2.2.2.2.1 | with_reducible exact q9.2.2.2.2.2 | with_reducible exact Ne.symm q9.2.2.2.2.2 | with_reducible exact q9.2.2.2.2.1.1 | with_reducible exact Ne.symm q9.2.2.2.2.1.1 | with_reducible exact q9.2.2.2.2.1.2.1 | with_reducible exact Ne.symm q9.2.2.2.2.1.2.1 | with_reducible exact q9.2.2.2.2.1.2.2 | with_reducible exact Ne.symm q9.2.2.2.2.1.2.2 | with_reducible exact q9.2.2.2.2.2.1 | with_reducible exact Ne.symm q9.2.2.2.2.2.1 | with_reducible exact q9.2.2.2.2.2.2 | with_reducible exact Ne.symm q9.2.2.2.2.2.2) | ((with_reducible rename @Ne Nat _ _ ∧ _ => q9); first | with_reducible exact q9.1 | with_reducible exact Ne.symm q9.1 | with_reducible exact q9.2.1 | with_reducible exact Ne.symm q9.2.1 | with_reducible exact q9.2.2 | with_reducible exact Ne.symm q9.2.2)))
  k_with "execs cons" => ((dsimp only))
  k_with "eval BinOp" => ((dsimp only))
  k_with "storeName" => ((dsimp only))
  k_with "ktr_room" => ((first | exact room_of (by with_reducible assumption) (by k_dflt (exact rfl)) | exact room_in (by with_reducible assumption)))
  k_with "ktr_units" => ((exact room_of (by with_reducible assumption) (by k_dflt (exact rfl))))
  k_with "omega" => ((first | (with_reducible assumption) | exact lt_wid (by with_reducible assumption) (by k_dflt (exact rfl)) | exact le_wid (by with_reducible assumption) (by k_dflt (exact rfl)) | (k_dflt (exact Nat.le_of_ble_eq_true rfl)) | exact ilt_wid (And.right (by with_reducible assumption)) (by k_dflt (exact rfl)) | exact igt_wid (And.left (by with_reducible assumption)) (by k_dflt (exact rfl)) | (k_dflt decide) | exact Apt.use (by with_reducible assumption) (by k_mem) | exact Ne.symm (Apt.use (by with_reducible assumption) (by k_mem)) | ((repeat ((with_reducible rename (@Ne Nat _ _ ∧ _) ∧ _ => q9); clear q9)); (repeat ((with_reducible rename @Ne Nat _ _ ∧ _ => q9); clear q9)); (try clear hu); (try clear hd); omega +splitNatSub)))
  k_with "ktf_step" => (first | assumption | exact lt_wid (by with_reducible assumption) (by k_dflt (exact rfl)) | k_dflt (exact Nat.le_of_ble_eq_true rfl) | l_fit | ((simp only [List.length_cons, List.length_nil]); omega) | (simp only [List.length_cons, List.length_nil, List.length_append]; first | done | omega) | exact Nat.le_refl _)
  k_with "ktr_rel" => (first | assumption | exact IsTup.keeps (by assumption) (Fr.keep (by assumption)) | exact News.isTup (by assumption) (by k_mem) | fail "no tuple")
  k_with "subscriptTail Name BinOp ref int" => (((with_reducible show wpAny _ _ (subscriptTail _ _ (Value.ref _) (Value.int _ _)) _ _ _); k_dflt (refine' item_list_ints ?k1_q7 ?k2_q7 ?k3_q7 ?k4_q7 ?k5_q7 ?_; (case k1_q7 => first | exact News.isList (by assumption) (by k_mem) | is_list); (case k2_q7 => assumption); (case k3_q7 => ((repeat ((with_reducible rename (@Ne Nat _ _ ∧ _) ∧ _ => q9); clear q9)); (repeat ((with_reducible rename @Ne Nat _ _ ∧ _ => q9); clear q9)); omega)); (case k4_q7 => ((repeat ((with_reducible rename (@Ne Nat _ _ ∧ _) ∧ _ => q9); clear q9)); (repeat ((with_reducible rename @Ne Nat _ _ ∧ _ => q9); clear q9)); omega)); (case k5_q7 => ((repeat ((with_reducible rename (@Ne Nat _ _ ∧ _) ∧ _ => q9); clear q9)); (repeat ((with_reducible rename @Ne Nat _ _ ∧ _ => q9); clear q9)); omega)); k_whole); intro _))
  k_with "subscriptTail Name Name ref int" => (((with_reducible show wpAny _ _ (subscriptTail _ _ (Value.ref _) (Value.int _ _)) _ _ _); k_dflt (refine' item_list_ints ?k1_q7 ?k2_q7 ?k3_q7 ?k4_q7 ?k5_q7 ?_; (case k1_q7 => first | exact News.isList (by assumption) (by k_mem) | is_list); (case k2_q7 => assumption); (case k3_q7 => ((repeat ((with_reducible rename (@Ne Nat _ _ ∧ _) ∧ _ => q9); clear q9)); (repeat ((with_reducible rename @Ne Nat _ _ ∧ _ => q9); clear q9)); omega)); (case k4_q7 => ((repeat ((with_reducible rename (@Ne Nat _ _ ∧ _) ∧ _ => q9); clear q9)); (repeat ((with_reducible rename @Ne Nat _ _ ∧ _ => q9); clear q9)); omega)); (case k5_q7 => ((repeat ((with_reducible rename (@Ne Nat _ _ ∧ _) ∧ _ => q9); clear q9)); (repeat ((with_reducible rename @Ne Nat _ _ ∧ _ => q9); clear q9)); omega)); k_whole); intro _))
  k_with "l_ints" => (k_dflt (first | assumption | exact IntsAre.nil | exact IntsAre.cons _ _ IntsAre.nil | exact IntsAre.cons _ _ (IntsAre.cons _ _ IntsAre.nil) | exact IntsAre.cons _ _ (IntsAre.cons _ _ (IntsAre.cons _ _ IntsAre.nil)) | exact IntsAre.cons _ _ (IntsAre.cons _ _ (IntsAre.cons _ _ (IntsAre.cons _ _ (IntsAre.cons _ _ (IntsAre.cons _ _ (IntsAre.cons _ _ (IntsAre.cons _ _ IntsAre.nil))))))) | exact IntsAre.append (by l_ints) (IntsAre.cons _ _ IntsAre.nil)))
  k_with "call ref" => ((k_here; k_dflt ((refine' con_use (pseudo2_c _ _ _ _ _ ?hok_q7) ?k1_q7 ?k2_q7 ?k3_q7 ?k4_q7 ?k5_q7 ?kK_q7 ?kd_q7 ?ku_q7 ?kp_q7 ?_; (case kp_q7 => exact ⟨hasL_of (by is_list) (by l_ints), hasL_of (by is_list) (by l_ints)⟩); (case hok_q7 => first | assumption | (subst_vars; assumption)); (case k1_q7 => k_asm); (case k2_q7 => k_asm); (case k3_q7 => k_asm); (case k4_q7 => k_asm); (case k5_q7 => k_asm); (case kK_q7 => first | exact rfl | assumption); (case kd_q7 => ktr_room); (case ku_q7 => ktr_units); k_whole); intro T' la' lb' vsa' vsb' q' n1' n2' t' h' tk' F' N' lT lA lB Ia Ib eb; (replace lT := Apt.of lT); (replace lA := Apt.of lA); (replace lB := Apt.of lB); (obtain ⟨d9, I9, e9⟩ := ints_hide Ib); clear Ib eb; (have b9 := le_rest e9); (try k_sweep))))
  unfold Con
  k_fill
  intro dp un gd cn cs aa ccd cl outer A₀ base h₀ L m news s Q E mean mg mb B F X N T hk hd hu hpre hret
  obtain ⟨⟨vs, hl, hi⟩, ⟨vs2, hl2, hi2⟩⟩ := hpre
  refine wpAny_call ?_
  k_dflt ktd_step
  k_steps
  refine rlist_end (by assumption) (by assumption) (by assumption) (by assumption) (by assumption) (by assumption) (List.mem_cons_of_mem _ (List.mem_cons_of_mem _ List.mem_cons_self)) (by assumption) ?_
  assumption

end
section
-- needs: C5 C13
def primP (ns : List Int) : List Int := if 0 < (fun ns : List Int => ns.getD ((-1 : Int) + (ns.length : Nat)).toNat 0) ns then ns.map fun x => Int.fdiv x (contentP ns) else ns.map fun x => Int.fdiv x (-(contentP ns))
theorem zprim_c (w : World) (l : Addr) (ns : List Int) (hz : ns.length < 2 ^ 20) (h0 : 0 < ns.length) (hc : 0 < contentP ns ∧ contentP ns < 2 ^ 30) : Con w 12 136 [.ref l] (HasL l ns) (RList (primP ns)) := by
  w_top off
  k_with_none
  k_with "ktd_step" => (first | (refine' code_defG ?k1_q7 ?k2_q7 ?k3_q7 ?k4_q7 ?k5_q7 ?kA_q7 ?kF_q7 ?kK_q7 ?k6_q7 ?k7_q7 ?k8_q7 ?k9_q7 ?kB_q7 ?_ ?c2_q7 ?c3_q7 ?c4_q7 ?c5_q7; (case kA_q7 => exact rfl); (case kF_q7 => exact rfl); (case kK_q7 => assumption); (case k1_q7 => k_asm); (case k2_q7 => k_asm); (case k3_q7 => k_asm); (case k4_q7 => k_asm); (case k5_q7 => k_asm); (case k6_q7 => k_is); (case k7_q7 => k_is); (case k8_q7 => ktr_room); (case k9_q7 => exact BindsTo.of_eq rfl); (case c5_q7 => decide); (case kB_q7 => exact locs rfl); (case c2_q7 => exact rfl); (case c3_q7 => exact rfl); (case c4_q7 => exact rfl); k_whole; intro L' h' F' N' B' X' T'; (try dsimp only); (try k_fold)) | (refine' code_defGC ?k1_q7 ?k2_q7 ?k3_q7 ?k4_q7 ?k5_q7 ?kA_q7 ?kF_q7 ?kK_q7 ?k6_q7 ?k7_q7 ?k8_q7 ?k9_q7 ?kB_q7 ?kD_q7 ?_ ?c2_q7 ?c3_q7 ?c4_q7; (case kA_q7 => exact rfl); (case kF_q7 => exact rfl); (case kK_q7 => assumption); (case k1_q7 => k_asm); (case k2_q7 => k_asm); (case k3_q7 => k_asm); (case k4_q7 => k_asm); (case k5_q7 => k_asm); (case k6_q7 => k_is); (case k7_q7 => k_is); (case k8_q7 => ktr_room); (case k9_q7 => exact BindsTo.of_eq rfl); (case kB_q7 => exact rfl); (case kD_q7 => decide +kernel); (case c2_q7 => exact rfl); (case c3_q7 => exact rfl); (case c4_q7 => exact rfl); k_whole; intro L' h' tk' cells' F' N' Y' B' X' T'; k_cells Y'; (try dsimp only); (try k_fold)) | fail "step: no entry")
  k_with "ktr_step" => ((refine rlist_end (by assumption) (by assumption) (by assumption) (by assumption) (by assumption) (by assumption) List.mem_cons_self (by assumption) ?_))
  k_with "ktn_step" => ((refine rlist_end (vs := []) (by assumption) (by assumption) (by assumption) (by assumption) (by assumption) (by assumption) List.mem_cons_self IntsAre.nil ?_))
  k_with "ktf_step" => (first | assumption | exact lt_wid (by with_reducible assumption) (by k_dflt (exact rfl)) | k_dflt (exact Nat.le_of_ble_eq_true rfl) | l_fit)
  k_with "exec While Compare cons nil" => ((k_extra "while"))
  k_with "k_ne" => ((refine neN ?_; (try dsimp only); first | exact Apt.use (by assumption) (by k_mem) | exact Ne.symm (Apt.use (by assumption) (by k_mem)) | ((with_reducible rename (@Ne Nat _ _ ∧ _) ∧ _ => q9); first | with_reducible exact q9.1.1 | with_reducible exact Ne.symm q9.1.1 | with_reducible exact q9.1.2.1 | with_reducible exact Ne.symm q9.1.2.1 | with_reducible exact q9.1.2.2 | with_reducible exact Ne.symm q9.1.2.2 | with_reducible exact q9.1 | with_reducible exact Ne.symm q9.1 | with_reducible exact q9.2.1 | with_reducible exact Ne.symm q9.2.1 | with_reducible exact q9.2.2 | with_reducible exact Ne.symm q9.2.2 | with_reducible exact q9.2.1.1 | with_reducible exact Ne.symm q9.2.1.1 | with_reducible exact q9.2.1.2.1 | with_reducible exact Ne.symm q9.2.1.2.1 | with_reducible exact q9.2.1.2.2 | with_reducible exact Ne.symm q9.2.1.2.2 | with_reducible exact q9.2.2.1 | with_reducible exact Ne.symm q9.2.2.1 | with_reducible exact q9.2.2.2 | with_reducible exact Ne.symm q9.2.2.2 | with_reducible exact q9.2.2.1.1 | with_reducible exact Ne.symm q9.2.2.1.1 | with_reducible exact q9.2.2.1.2.1 | with_reducible exact Ne.symm q9.2.2.1.2.1 | with_reducible exact q9.2.2.1.2.2 | with_reducible exact Ne.symm q9.2.2.1.2.2 | with_reducible exact q9.2.2.2.1 | with_reducible exact Ne.symm q9.2.2.2.1 | with_reducible exact q9.2.2.2.2 | with_reducible exact Ne.symm q9.2.2.2.2 | with_reducible exact q9.2.2.2.1.1 | with_reducible exact Ne.symm q9.2.2.2.1.1 | with_reducible exact q9.2.2.2.1.2.1 | with_reducible exact Ne.symm q9.2.2.2.1.2.1 | with_reducible exact q9.2.2.2.1.2.2 | with_reducible exact Ne.symm q9.2.2.2.1.2.2 | with_reducible exact q9.2.2.2.2.1 | with_reducible exact Ne.symm q9.2.2.2.2.1 | with_reducible exact q9.2.2.2.2.2 | with_reducible exact Ne.symm q9.2.2.2.2.2 | with_reducible exact q9.2.2.2.2.1.1 | with_reducible exact Ne.symm q9.2.2.2.2.1.1 | with_reducible exact q9.2.2.2.2.1.2.1 | with_reducible exact Ne.symm q9.2.2.2.2.1.2.1 | with_reducible exact q9.2.2.2.2.1.2.2 | with_reducible exact Ne.symm q9.2.2.2.2.1.2.2 | with_reducible exact q9.2.2.2.2.2.1 | with_reducible exact Ne.symm q9.2.2.2.2.2.1 | with_reducible exact q9.2.2.2.2.2.2 | with_reducible exact Ne.symm q9.2.2.2.2.2.2) | ((with_reducible rename @Ne Nat _ _ ∧ _ => q9); first | with_reducible exact q9.1 | with_reducible exact Ne.symm q9.1 | with_reducible exact q9.2.1 | with_reducible exact Ne.symm q9.2.1 | with_reducible exact q9.2.2 | with_reducible exact Ne.symm q9.2.2)))
  k_with "execs cons" => ((dsimp only))
  k_with "eval BinOp" => ((dsimp only))
  k_with "storeName" => ((dsimp only))
  k_with "ktr_room" => ((first | exact room_of (by with_reducible assumption) (by k_dflt (exact rfl)) | exact room_in (by with_reducible assumption)))
  k_with "ktr_units" => ((exact room_of (by with_reducible assumption) (by k_dflt (exact rfl))))
  k_with "omega" => ((first | (with_reducible assumption) | exact lt_wid (by with_reducible assumption) (by k_dflt (exact rfl)) | exact le_wid (by with_reducible assumption) (by k_dflt (exact rfl)) | (k_dflt (exact Nat.le_of_ble_eq_true rfl)) | exact ilt_wid (And.right (by with_reducible assumption)) (by k_dflt (exact rfl)) | exact igt_wid (And.left (by with_reducible assumption)) (by k_dflt (exact rfl)) | (k_dflt decide) | exact Apt.use (by with_reducible assumption) (by k_mem) | exact Ne.symm (Apt.use (by with_reducible assumption) (by k_mem)) | ((repeat ((with_reducible rename (@Ne Nat _ _ ∧ _) ∧ _ => q9); clear q9)); (repeat ((with_reducible rename @Ne Nat _ _ ∧ _ => q9); clear q9)); (try clear hu); (try clear hd); omega +splitNatSub)))
  k_with "ktf_step" => (first | assumption | exact lt_wid (by with_reducible assumption) (by k_dflt (exact rfl)) | k_dflt (exact Nat.le_of_ble_eq_true rfl) | l_fit | ((simp only [List.length_cons, List.length_nil]); omega) | (simp only [List.length_cons, List.length_nil, List.length_append]; first | done | omega) | exact Nat.le_refl _)
  k_with "ktr_rel" => (first | assumption | exact IsTup.keeps (by assumption) (Fr.keep (by assumption)) | exact News.isTup (by assumption) (by k_mem) | fail "no tuple")
  k_with "subscriptTail Name BinOp ref int" => (((with_reducible show wpAny _ _ (subscriptTail _ _ (Value.ref _) (Value.int _ _)) _ _ _); k_dflt (refine' item_list_ints ?k1_q7 ?k2_q7 ?k3_q7 ?k4_q7 ?k5_q7 ?_; (case k1_q7 => first | exact News.isList (by assumption) (by k_mem) | is_list); (case k2_q7 => assumption); (case k3_q7 => ((repeat ((with_reducible rename (@Ne Nat _ _ ∧ _) ∧ _ => q9); clear q9)); (repeat ((with_reducible rename @Ne Nat _ _ ∧ _ => q9); clear q9)); omega)); (case k4_q7 => ((repeat ((with_reducible rename (@Ne Nat _ _ ∧ _) ∧ _ => q9); clear q9)); (repeat ((with_reducible rename @Ne Nat _ _ ∧ _ => q9); clear q9)); omega)); (case k5_q7 => ((repeat ((with_reducible rename (@Ne Nat _ _ ∧ _) ∧ _ => q9); clear q9)); (repeat ((with_reducible rename @Ne Nat _ _ ∧ _ => q9); clear q9)); omega)); k_whole); intro _))
  k_with "subscriptTail Name Name ref int" => (((with_reducible show wpAny _ _ (subscriptTail _ _ (Value.ref _) (Value.int _ _)) _ _ _); k_dflt (refine' item_list_ints ?k1_q7 ?k2_q7 ?k3_q7 ?k4_q7 ?k5_q7 ?_; (case k1_q7 => first | exact News.isList (by assumption) (by k_mem) | is_list); (case k2_q7 => assumption); (case k3_q7 => ((repeat ((with_reducible rename (@Ne Nat _ _ ∧ _) ∧ _ => q9); clear q9)); (repeat ((with_reducible rename @Ne Nat _ _ ∧ _ => q9); clear q9)); omega)); (case k4_q7 => ((repeat ((with_reducible rename (@Ne Nat _ _ ∧ _) ∧ _ => q9); clear q9)); (repeat ((with_reducible rename @Ne Nat _ _ ∧ _ => q9); clear q9)); omega)); (case k5_q7 => ((repeat ((with_reducible rename (@Ne Nat _ _ ∧ _) ∧ _ => q9); clear q9)); (repeat ((with_reducible rename @Ne Nat _ _ ∧ _ => q9); clear q9)); omega)); k_whole); intro _))
  k_with "l_ints" => (k_dflt (first | assumption | exact IntsAre.nil | exact IntsAre.cons _ _ IntsAre.nil | exact IntsAre.cons _ _ (IntsAre.cons _ _ IntsAre.nil) | exact IntsAre.cons _ _ (IntsAre.cons _ _ (IntsAre.cons _ _ IntsAre.nil)) | exact IntsAre.cons _ _ (IntsAre.cons _ _ (IntsAre.cons _ _ (IntsAre.cons _ _ (IntsAre.cons _ _ (IntsAre.cons _ _ (IntsAre.cons _ _ (IntsAre.cons _ _ IntsAre.nil))))))) | exact IntsAre.append (by l_ints) (IntsAre.cons _ _ IntsAre.nil)))
  k_with "call ref" => ((k_here; k_dflt ((refine' con_use (zcontent_c _ _ _ ?hz_q7) ?k1_q7 ?k2_q7 ?k3_q7 ?k4_q7 ?k5_q7 ?kK_q7 ?kd_q7 ?ku_q7 ?kp_q7 ?_; (case kp_q7 => exact hasL_of (by is_list) (by l_ints)); (case hz_q7 => ktf_step); (case k1_q7 => k_asm); (case k2_q7 => k_asm); (case k3_q7 => k_asm); (case k4_q7 => k_asm); (case k5_q7 => k_asm); (case kK_q7 => first | exact rfl | assumption); (case kd_q7 => ktr_room); (case ku_q7 => ktr_units); k_whole); intro t' h' tk' F' N'; (try k_sweep))))
  k_with "call ref" => ((k_here; k_dflt ((refine' con_use (zdivided_c _ _ _ _ _ ?hz_q7 ?h0_q7 ?hb_q7) ?k1_q7 ?k2_q7 ?k3_q7 ?k4_q7 ?k5_q7 ?kK_q7 ?kd_q7 ?ku_q7 ?kp_q7 ?_; (case kp_q7 => exact hasL_of (by is_list) (by l_ints)); (case hz_q7 => ktf_step); (case h0_q7 => first | assumption | omega); (case hb_q7 => first | assumption | exact ⟨by omega, by omega⟩); (case k1_q7 => k_asm); (case k2_q7 => k_asm); (case k3_q7 => k_asm); (case k4_q7 => k_asm); (case k5_q7 => k_asm); (case kK_q7 => first | exact rfl | assumption); (case kd_q7 => ktr_room); (case ku_q7 => ktr_units); k_whole); intro l' vs' n' h' tk' F' N' l1 I' e1; (replace l1 := Apt.of l1); (obtain ⟨d9, I9, e9⟩ := ints_hide I'); clear I' e1; (have b9 := le_div e9); (try simp only [List.length_cons, List.length_nil] at b9); (try k_sweep))))
  unfold Con
  k_fill
  intro dp un gd cn cs aa ccd cl outer A₀ base h₀ L m news s Q E mean mg mb B F X N T hk hd hu hpre hret
  obtain ⟨vs, hl, hi⟩ := hpre
  refine wpAny_call ?_
  k_dflt ktd_step
  k_steps
  · exfalso; omega
  · ktr_step
    rename _ = List.map _ _ => e9
    rw [e9, primP, if_pos (by assumption)]
  · ktr_step
    rename _ = List.map _ _ => e9
    rw [e9, primP, if_neg (by assumption)]
theorem le_prim {d ns : List Int} (e : d = primP ns) : d.length = ns.length := by
  rw [e, primP]; split <;> rw [List.length_map]

end
section
-- needs: C5 C13
theorem lessA_c (w : World) (l : Addr) (ns : List Int) (hz : ns.length < 2 ^ 20) (hc : 1 < contentP ns ∧ contentP ns < 2 ^ 30) : Con w 12 237 [.ref l] (HasL l ns) (RList (ns.map fun x => Int.fdiv x (contentP ns))) := by
  w_top off
  k_with_none
  k_with "ktd_step" => (first | (refine' code_defG ?k1_q7 ?k2_q7 ?k3_q7 ?k4_q7 ?k5_q7 ?kA_q7 ?kF_q7 ?kK_q7 ?k6_q7 ?k7_q7 ?k8_q7 ?k9_q7 ?kB_q7 ?_ ?c2_q7 ?c3_q7 ?c4_q7 ?c5_q7; (case kA_q7 => exact rfl); (case kF_q7 => exact rfl); (case kK_q7 => assumption); (case k1_q7 => k_asm); (case k2_q7 => k_asm); (case k3_q7 => k_asm); (case k4_q7 => k_asm); (case k5_q7 => k_asm); (case k6_q7 => k_is); (case k7_q7 => k_is); (case k8_q7 => ktr_room); (case k9_q7 => exact BindsTo.of_eq rfl); (case c5_q7 => decide); (case kB_q7 => exact locs rfl); (case c2_q7 => exact rfl); (case c3_q7 => exact rfl); (case c4_q7 => exact rfl); k_whole; intro L' h' F' N' B' X' T'; (try dsimp only); (try k_fold)) | (refine' code_defGC ?k1_q7 ?k2_q7 ?k3_q7 ?k4_q7 ?k5_q7 ?kA_q7 ?kF_q7 ?kK_q7 ?k6_q7 ?k7_q7 ?k8_q7 ?k9_q7 ?kB_q7 ?kD_q7 ?_ ?c2_q7 ?c3_q7 ?c4_q7; (case kA_q7 => exact rfl); (case kF_q7 => exact rfl); (case kK_q7 => assumption); (case k1_q7 => k_asm); (case k2_q7 => k_asm); (case k3_q7 => k_asm); (case k4_q7 => k_asm); (case k5_q7 => k_asm); (case k6_q7 => k_is); (case k7_q7 => k_is); (case k8_q7 => ktr_room); (case k9_q7 => exact BindsTo.of_eq rfl); (case kB_q7 => exact rfl); (case kD_q7 => decide +kernel); (case c2_q7 => exact rfl); (case c3_q7 => exact rfl); (case c4_q7 => exact rfl); k_whole; intro L' h' tk' cells' F' N' Y' B' X' T'; k_cells Y'; (try dsimp only); (try k_fold)) | fail "step: no entry")
  k_with "ktr_step" => ((refine rlist_end (by assumption) (by assumption) (by assumption) (by assumption) (by assumption) (by assumption) List.mem_cons_self (by assumption) ?_))
  k_with "ktn_step" => ((refine rlist_end (vs := []) (by assumption) (by assumption) (by assumption) (by assumption) (by assumption) (by assumption) List.mem_cons_self IntsAre.nil ?_))
  k_with "ktf_step" => (first | assumption | exact lt_wid (by with_reducible assumption) (by k_dflt (exact rfl)) | k_dflt (exact Nat.le_of_ble_eq_true rfl) | l_fit)
  k_with "exec While Compare cons nil" => ((k_extra "while"))
  k_with "k_ne" => ((refine neN ?_; (try dsimp only); first | exact Apt.use (by assumption) (by k_mem) | exact Ne.symm (Apt.use (by assumption) (by k_mem)) | ((with_reducible rename (@Ne Nat _ _ ∧ _) ∧ _ => q9); first | with_reducible exact q9.1.1 | with_reducible exact Ne.symm q9.1.1 | with_reducible exact q9.1.2.1 | with_reducible exact Ne.symm q9.1.2.1 | with_reducible exact q9.1.2.2 | with_reducible exact Ne.symm q9.1.2.2 | with_reducible exact q9.1 | with_reducible exact Ne.symm q9.1 | with_reducible exact q9.2.1 | with_reducible exact Ne.symm q9.2.1 | with_reducible exact q9.2.2 | with_reducible exact Ne.symm q9.2.2 | with_reducible exact q9.2.1.1 | with_reducible exact Ne.symm q9.2.1.1 | with_reducible exact q9.2.1.2.1 | with_reducible exact Ne.symm q9.2.1.2.1 | with_reducible exact q9.2.1.2.2 | with_reducible exact Ne.symm q9.2.1.2.2 | with_reducible exact q9.2.2.1 | with_reducible exact Ne.symm q9.2.2.1 | with_reducible exact q9.2.2.2 | with_reducible exact Ne.symm q9.2.2.2 | with_reducible exact q9.2.2.1.1 | with_reducible exact Ne.symm q9.2.2.1.1 | with_reducible exact q9.2.2.1.2.1 | with_reducible exact Ne.symm q9.2.2.1.2.1 | with_reducible exact q9.2.2.1.2.2 | with_reducible exact Ne.symm q9.2.2.1.2.2 | with_reducible exact q9.2.2.2.1 | with_reducible exact Ne.symm q9.2.2.2.1 | with_reducible exact q9.2.2.2.2 | with_reducible exact Ne.symm q9.2.2.2.2 | with_reducible exact q9.2.2.2.1.1 | with_reducible exact Ne.symm q9.2.2.2.1.1 | with_reducible exact q9.2.2.2.1.2.1 | with_reducible exact Ne.symm q9.2.2.2.1.2.1 | with_reducible exact q9.2.2.2.1.2.2 | with_reducible exact Ne.symm q9.2.2.2.1.2.2 | with_reducible exact q9.2.2.2.2.1 | with_reducible exact Ne.symm q9.2.2.2.2.1 | with_reducible exact q9.2.2.2.2.2 | with_reducible exact Ne.symm q9.2.2.2.2.2 | with_reducible exact q9.2.2.2.2.1.1 | with_reducible exact Ne.symm q9.2.2.2.2.1.1 | with_reducible exact q9.2.2.2.2.1.2.1 | with_reducible exact Ne.symm q9.2.2.2.2.1.2.1 | with_reducible exact q9.2.2.2.2.1.2.2 | with_reducible exact Ne.symm q9.2.2.2.2.1.2.2 | with_reducible exact q9.2.2.2.2.2.1 | with_reducible exact Ne.symm q9.2.2.2.2.2.1 | with_reducible exact q9.2.2.2.2.2.2 | with_reducible exact Ne.symm q9.2.2.2.2.2.2) | ((with_reducible rename @Ne Nat _ _ ∧ _ => q9); first | with_reducible exact q9.1 | with_reducible exact Ne.symm q9.1 | with_reducible exact q9.2.1 | with_reducible exact Ne.symm q9.2.1 | with_reducible exact q9.2.2 | with_reducible exact Ne.symm q9.2.2)))
  k_with "execs cons" => ((dsimp only))
  k_with "eval BinOp" => ((dsimp only))
  k_with "storeName" => ((dsimp only))
  k_with "ktr_room" => ((first | exact room_of (by with_reducible assumption) (by k_dflt (exact rfl)) | exact room_in (by with_reducible assumption)))
  k_with "ktr_units" => ((exact room_of (by with_reducible assumption) (by k_dflt (exact rfl))))
  k_with "omega" => ((first | (with_reducible assumption) | exact lt_wid (by with_reducible assumption) (by k_dflt (exact rfl)) | exact le_wid (by with_reducible assumption) (by k_dflt (exact rfl)) | (k_dflt (exact Nat.le_of_ble_eq_true rfl)) | exact ilt_wid (And.right (by with_reducible assumption)) (by k_dflt (exact rfl)) | exact igt_wid (And.left (by with_reducible assumption)) (by k_dflt (exact rfl)) | (k_dflt decide) | exact Apt.use (by with_reducible assumption) (by k_mem) | exact Ne.symm (Apt.use (by with_reducible assumption) (by k_mem)) | ((repeat ((with_reducible rename (@Ne Nat _ _ ∧ _) ∧ _ => q9); clear q9)); (repeat ((with_reducible rename @Ne Nat _ _ ∧ _ => q9); clear q9)); (try clear hu); (try clear hd); omega +splitNatSub)))
  k_with "ktf_step" => (first | assumption | exact lt_wid (by with_reducible assumption) (by k_dflt (exact rfl)) | k_dflt (exact Nat.le_of_ble_eq_true rfl) | l_fit | ((simp only [List.length_cons, List.length_nil]); omega) | (simp only [List.length_cons, List.length_nil, List.length_append]; first | done | omega) | exact Nat.le_refl _)
  k_with "ktr_rel" => (first | assumption | exact IsTup.keeps (by assumption) (Fr.keep (by assumption)) | exact News.isTup (by assumption) (by k_mem) | fail "no tuple")
  k_with "subscriptTail Name BinOp ref int" => (((with_reducible show wpAny _ _ (subscriptTail _ _ (Value.ref _) (Value.int _ _)) _ _ _); k_dflt (refine' item_list_ints ?k1_q7 ?k2_q7 ?k3_q7 ?k4_q7 ?k5_q7 ?_; (case k1_q7 => first | exact News.isList (by assumption) (by k_mem) | is_list); (case k2_q7 => assumption); (case k3_q7 => ((repeat ((with_reducible rename (@Ne Nat _ _ ∧ _) ∧ _ => q9); clear q9)); (repeat ((with_reducible rename @Ne Nat _ _ ∧ _ => q9); clear q9)); omega)); (case k4_q7 => ((repeat ((with_reducible rename (@Ne Nat _ _ ∧ _) ∧ _ => q9); clear q9)); (repeat ((with_reducible rename @Ne Nat _ _ ∧ _ => q9); clear q9)); omega)); (case k5_q7 => ((repeat ((with_reducible rename (@Ne Nat _ _ ∧ _) ∧ _ => q9); clear q9)); (repeat ((with_reducible rename @Ne Nat _ _ ∧ _ => q9); clear q9)); omega)); k_whole); intro _))
  k_with "subscriptTail Name Name ref int" => (((with_reducible show wpAny _ _ (subscriptTail _ _ (Value.ref _) (Value.int _ _)) _ _ _); k_dflt (refine' item_list_ints ?k1_q7 ?k2_q7 ?k3_q7 ?k4_q7 ?k5_q7 ?_; (case k1_q7 => first | exact News.isList (by assumption) (by k_mem) | is_list); (case k2_q7 => assumption); (case k3_q7 => ((repeat ((with_reducible rename (@Ne Nat _ _ ∧ _) ∧ _ => q9); clear q9)); (repeat ((with_reducible rename @Ne Nat _ _ ∧ _ => q9); clear q9)); omega)); (case k4_q7 => ((repeat ((with_reducible rename (@Ne Nat _ _ ∧ _) ∧ _ => q9); clear q9)); (repeat ((with_reducible rename @Ne Nat _ _ ∧ _ => q9); clear q9)); omega)); (case k5_q7 => ((repeat ((with_reducible rename (@Ne Nat _ _ ∧ _) ∧ _ => q9); clear q9)); (repeat ((with_reducible rename @Ne Nat _ _ ∧ _ => q9); clear q9)); omega)); k_whole); intro _))
  k_with "l_ints" => (k_dflt (first | assumption | exact IntsAre.nil | exact IntsAre.cons _ _ IntsAre.nil | exact IntsAre.cons _ _ (IntsAre.cons _ _ IntsAre.nil) | exact IntsAre.cons _ _ (IntsAre.cons _ _ (IntsAre.cons _ _ IntsAre.nil)) | exact IntsAre.cons _ _ (IntsAre.cons _ _ (IntsAre.cons _ _ (IntsAre.cons _ _ (IntsAre.cons _ _ (IntsAre.cons _ _ (IntsAre.cons _ _ (IntsAre.cons _ _ IntsAre.nil))))))) | exact IntsAre.append (by l_ints) (IntsAre.cons _ _ IntsAre.nil)))
  k_with "call ref" => ((k_here; k_dflt ((refine' con_use (zcontent_c _ _ _ ?hz_q7) ?k1_q7 ?k2_q7 ?k3_q7 ?k4_q7 ?k5_q7 ?kK_q7 ?kd_q7 ?ku_q7 ?kp_q7 ?_; (case kp_q7 => exact hasL_of (by is_list) (by l_ints)); (case hz_q7 => ktf_step); (case k1_q7 => k_asm); (case k2_q7 => k_asm); (case k3_q7 => k_asm); (case k4_q7 => k_asm); (case k5_q7 => k_asm); (case kK_q7 => first | exact rfl | assumption); (case kd_q7 => ktr_room); (case ku_q7 => ktr_units); k_whole); intro t' h' tk' F' N'; (try k_sweep))))
  k_with "binaryOp FloorDiv int int" => ((refine fdiv_small (by first | assumption | omega) (by first | assumption | exact ⟨by omega, by omega⟩) ?_))
  unfold Con
  k_fill
  intro dp un gd cn cs aa ccd cl outer A₀ base h₀ L m news s Q E mean mg mb B F X N T hk hd hu hpre hret
  obtain ⟨vs, hl, hi⟩ := hpre
  refine wpAny_call ?_
  k_dflt ktd_step
  k_steps
  ktr_step
  rfl
abbrev RSame (l : Addr) (h₀ : Heap) (L : Addr) (m : Str → Option Value) (news : List (Addr × Obj)) (s : Shared) (Q : Value → Shared → Prop) : Prop :=
  ∀ (h' : Heap) (tk' : Nat), Fr h₀ L h' m → News h₀ L h' news → Q (.ref l) { s with heap := h', toks := tk' }
theorem lessB_c (w : World) (l : Addr) (ns : List Int) (hz : ns.length < 2 ^ 20) (hc : ¬ 1 < contentP ns) : Con w 12 237 [.ref l] (HasL l ns) (RSame l) := by
  w_top off
  k_with_none
  k_with "ktd_step" => (first | (refine' code_defG ?k1_q7 ?k2_q7 ?k3_q7 ?k4_q7 ?k5_q7 ?kA_q7 ?kF_q7 ?kK_q7 ?k6_q7 ?k7_q7 ?k8_q7 ?k9_q7 ?kB_q7 ?_ ?c2_q7 ?c3_q7 ?c4_q7 ?c5_q7; (case kA_q7 => exact rfl); (case kF_q7 => exact rfl); (case kK_q7 => assumption); (case k1_q7 => k_asm); (case k2_q7 => k_asm); (case k3_q7 => k_asm); (case k4_q7 => k_asm); (case k5_q7 => k_asm); (case k6_q7 => k_is); (case k7_q7 => k_is); (case k8_q7 => ktr_room); (case k9_q7 => exact BindsTo.of_eq rfl); (case c5_q7 => decide); (case kB_q7 => exact locs rfl); (case c2_q7 => exact rfl); (case c3_q7 => exact rfl); (case c4_q7 => exact rfl); k_whole; intro L' h' F' N' B' X' T'; (try dsimp only); (try k_fold)) | (refine' code_defGC ?k1_q7 ?k2_q7 ?k3_q7 ?k4_q7 ?k5_q7 ?kA_q7 ?kF_q7 ?kK_q7 ?k6_q7 ?k7_q7 ?k8_q7 ?k9_q7 ?kB_q7 ?kD_q7 ?_ ?c2_q7 ?c3_q7 ?c4_q7; (case kA_q7 => exact rfl); (case kF_q7 => exact rfl); (case kK_q7 => assumption); (case k1_q7 => k_asm); (case k2_q7 => k_asm); (case k3_q7 => k_asm); (case k4_q7 => k_asm); (case k5_q7 => k_asm); (case k6_q7 => k_is); (case k7_q7 => k_is); (case k8_q7 => ktr_room); (case k9_q7 => exact BindsTo.of_eq rfl); (case kB_q7 => exact rfl); (case kD_q7 => decide +kernel); (case c2_q7 => exact rfl); (case c3_q7 => exact rfl); (case c4_q7 => exact rfl); k_whole; intro L' h' tk' cells' F' N' Y' B' X' T'; k_cells Y'; (try dsimp only); (try k_fold)) | fail "step: no entry")
  k_with "ktr_step" => ((refine rlist_end (by assumption) (by assumption) (by assumption) (by assumption) (by assumption) (by assumption) List.mem_cons_self (by assumption) ?_))
  k_with "ktn_step" => ((refine rlist_end (vs := []) (by assumption) (by assumption) (by assumption) (by assumption) (by assumption) (by assumption) List.mem_cons_self IntsAre.nil ?_))
  k_with "ktf_step" => (first | assumption | exact lt_wid (by with_reducible assumption) (by k_dflt (exact rfl)) | k_dflt (exact Nat.le_of_ble_eq_true rfl) | l_fit)
  k_with "exec While Compare cons nil" => ((k_extra "while"))
  k_with "k_ne" => ((refine neN ?_; (try dsimp only); first | exact Apt.use (by assumption) (by k_mem) | exact Ne.symm (Apt.use (by assumption) (by k_mem)) | ((with_reducible rename (@Ne Nat _ _ ∧ _) ∧ _ => q9); first | with_reducible exact q9.1.1 | with_reducible exact Ne.symm q9.1.1 | with_reducible exact q9.1.2.1 | with_reducible exact Ne.symm q9.1.2.1 | with_reducible exact q9.1.2.2 | with_reducible exact Ne.symm q9.1.2.2 | with_reducible exact q9.1 | with_reducible exact Ne.symm q9.1 | with_reducible exact q9.2.1 | with_reducible exact Ne.symm q9.2.1 | with_reducible exact q9.2.2 | with_reducible exact Ne.symm q9.2.2 | with_reducible exact q9.2.1.1 | with_reducible exact Ne.symm q9.2.1.1 | with_reducible exact q9.2.1.2.1 | with_reducible exact Ne.symm q9.2.1.2.1 | with_reducible exact q9.2.1.2.2 | with_reducible exact Ne.symm q9.2.1.2.2 | with_reducible exact q9.2.2.1 | with_reducible exact Ne.symm q9.2.2.1 | with_reducible exact q9.2.2.2 | with_reducible exact Ne.symm q9.2.2.2 | with_reducible exact q9.2.2.1.1 | with_reducible exact Ne.symm q9.2.2.1.1 | with_reducible exact q9.2.2.1.2.1 | with_reducible exact Ne.symm q9.2.2.1.2.1 | with_reducible exact q9.2.2.1.2.2 | with_reducible exact Ne.symm q9.2.2.1.2.2 | with_reducible exact q9.2.2.2.1 | with_reducible exact Ne.symm q9.2.2.2.1 | with_reducible exact q9.2.2.2.2 | with_reducible exact Ne.symm q9.2.2.2.2 | with_reducible exact q9.2.2.2.1.1 | with_reducible exact Ne.symm q9.2.2.2.1.1 | with_reducible exact q9.2.2.2.1.2.1 | with_reducible exact Ne.symm q9.2.2.2.1.2.1 | with_reducible exact q9.2.2.2.1.2.2 | with_reducible exact Ne.symm q9.2.2.2.1.2.2 | with_reducible exact q9.2.2.2.2.1 | with_reducible exact Ne.symm q9.2.2.2.2.1 | with_reducible exact q9.2.2.2.2.2 | with_reducible exact Ne.symm q9.2.2.2.2.2 | with_reducible exact q9.2.2.2.2.1.1 | with_reducible exact Ne.symm q9.2.2.2.2.1.1 | with_reducible exact q9.2.2.2.2.1.2.1 | with_reducible exact Ne.symm q9.2.2.2.2.1.2.1 | with_reducible exact q9.2.2.2.2.1.2.2 | with_reducible exact Ne.symm q9.2.2.2.2.1.2.2 | with_reducible exact q9.2.2.2.2.2.1 | with_reducible exact Ne.symm q9.2.2.2.2.2.1 | with_reducible exact q9.2.2.2.2.2.2 | with_reducible exact Ne.symm q9.2.2.2.2.2.2) | ((with_reducible rename @Ne Nat _ _ ∧ _ => q9); first | with_reducible exact q9.1 | with_reducible exact Ne.symm q9.1 | with_reducible exact q9.2.1 | with_reducible exact Ne.symm q9.2.1 | with_reducible exact q9.2.2 | with_reducible exact Ne.symm q9.2.2)))
  k_with "execs cons" => ((dsimp only))
  k_with "eval BinOp" => ((dsimp only))
  k_with "storeName" => ((dsimp only))
  k_with "ktr_room" => ((first | exact room_of (by with_reducible assumption) (by k_dflt (exact rfl)) | exact room_in (by with_reducible assumption)))
  k_with "ktr_units" => ((exact room_of (by with_reducible assumption) (by k_dflt (exact rfl))))
  k_with "omega" => ((first | (with_reducible assumption) | exact lt_wid (by with_reducible assumption) (by k_dflt (exact rfl)) | exact le_wid (by with_reducible assumption) (by k_dflt (exact rfl)) | (k_dflt (exact Nat.le_of_ble_eq_true rfl)) | exact ilt_wid (And.right (by with_reducible assumption)) (by k_dflt (exact rfl)) | exact igt_wid (And.left (by with_reducible assumption)) (by k_dflt (exact rfl)) | (k_dflt decide) | exact Apt.use (by with_reducible assumption) (by k_mem) | exact Ne.symm (Apt.use (by with_reducible assumption) (by k_mem)) | ((repeat ((with_reducible rename (@Ne Nat _ _ ∧ _) ∧ _ => q9); clear q9)); (repeat ((with_reducible rename @Ne Nat _ _ ∧ _ => q9); clear q9)); (try clear hu); (try clear hd); omega +splitNatSub)))
  k_with "ktf_step" => (first | assumption | exact lt_wid (by with_reducible assumption) (by k_dflt (exact rfl)) | k_dflt (exact Nat.le_of_ble_eq_true rfl) | l_fit | ((simp only [List.length_cons, List.length_nil]); omega) | (simp only [List.length_cons, List.length_nil, List.length_append]; first | done | omega) | exact Nat.le_refl _)
  k_with "ktr_rel" => (first | assumption | exact IsTup.keeps (by assumption) (Fr.keep (by assumption)) | exact News.isTup (by assumption) (by k_mem) | fail "no tuple")
  k_with "subscriptTail Name BinOp ref int" => (((with_reducible show wpAny _ _ (subscriptTail _ _ (Value.ref _) (Value.int _ _)) _ _ _); k_dflt (refine' item_list_ints ?k1_q7 ?k2_q7 ?k3_q7 ?k4_q7 ?k5_q7 ?_; (case k1_q7 => first | exact News.isList (by assumption) (by k_mem) | is_list); (case k2_q7 => assumption); (case k3_q7 => ((repeat ((with_reducible rename (@Ne Nat _ _ ∧ _) ∧ _ => q9); clear q9)); (repeat ((with_reducible rename @Ne Nat _ _ ∧ _ => q9); clear q9)); omega)); (case k4_q7 => ((repeat ((with_reducible rename (@Ne Nat _ _ ∧ _) ∧ _ => q9); clear q9)); (repeat ((with_reducible rename @Ne Nat _ _ ∧ _ => q9); clear q9)); omega)); (case k5_q7 => ((repeat ((with_reducible rename (@Ne Nat _ _ ∧ _) ∧ _ => q9); clear q9)); (repeat ((with_reducible rename @Ne Nat _ _ ∧ _ => q9); clear q9)); omega)); k_whole); intro _))
  k_with "subscriptTail Name Name ref int" => (((with_reducible show wpAny _ _ (subscriptTail _ _ (Value.ref _) (Value.int _ _)) _ _ _); k_dflt (refine' item_list_ints ?k1_q7 ?k2_q7 ?k3_q7 ?k4_q7 ?k5_q7 ?_; (case k1_q7 => first | exact News.isList (by assumption) (by k_mem) | is_list); (case k2_q7 => assumption); (case k3_q7 => ((repeat ((with_reducible rename (@Ne Nat _ _ ∧ _) ∧ _ => q9); clear q9)); (repeat ((with_reducible rename @Ne Nat _ _ ∧ _ => q9); clear q9)); omega)); (case k4_q7 => ((repeat ((with_reducible rename (@Ne Nat _ _ ∧ _) ∧ _ => q9); clear q9)); (repeat ((with_reducible rename @Ne Nat _ _ ∧ _ => q9); clear q9)); omega)); (case k5_q7 => ((repeat ((with_reducible rename (@Ne Nat _ _ ∧ _) ∧ _ => q9); clear q9)); (repeat ((with_reducible rename @Ne Nat _ _ ∧ _ => q9); clear q9)); omega)); k_whole); intro _))
  k_with "l_ints" => (k_dflt (first | assumption | exact IntsAre.nil | exact IntsAre.cons _ _ IntsAre.nil | exact IntsAre.cons _ _ (IntsAre.cons _ _ IntsAre.nil) | exact IntsAre.cons _ _ (IntsAre.cons _ _ (IntsAre.cons _ _ IntsAre.nil)) | exact IntsAre.cons _ _ (IntsAre.cons _ _ (IntsAre.cons _ _ (IntsAre.cons _ _ (IntsAre.cons _ _ (IntsAre.cons _ _ (IntsAre.cons _ _ (IntsAre.cons _ _ IntsAre.nil))))))) | exact IntsAre.append (by l_ints) (IntsAre.cons _ _ IntsAre.nil)))
  k_with "call ref" => ((k_here; k_dflt ((refine' con_use (zcontent_c _ _ _ ?hz_q7) ?k1_q7 ?k2_q7 ?k3_q7 ?k4_q7 ?k5_q7 ?kK_q7 ?kd_q7 ?ku_q7 ?kp_q7 ?_; (case kp_q7 => exact hasL_of (by is_list) (by l_ints)); (case hz_q7 => ktf_step); (case k1_q7 => k_asm); (case k2_q7 => k_asm); (case k3_q7 => k_asm); (case k4_q7 => k_asm); (case k5_q7 => k_asm); (case kK_q7 => first | exact rfl | assumption); (case kd_q7 => ktr_room); (case ku_q7 => ktr_units); k_whole); intro t' h' tk' F' N'; (try k_sweep))))
  k_with "binaryOp FloorDiv int int" => ((refine fdiv_small (by first | assumption | omega) (by first | assumption | exact ⟨by omega, by omega⟩) ?_))
  unfold Con
  k_fill
  intro dp un gd cn cs aa ccd cl outer A₀ base h₀ L m news s Q E mean mg mb B F X N T hk hd hu hpre hret
  obtain ⟨vs, hl, hi⟩ := hpre
  refine wpAny_call ?_
  k_dflt ktd_step
  k_steps
  exact hret _ _ (by assumption) (by assumption)

end
section
-- needs: C15 C17
def nextP (a b : List Int) : List Int := if 1 < contentP (negP (restP a b)) then (negP (restP a b)).map fun x => Int.fdiv x (contentP (negP (restP a b))) else negP (restP a b)
theorem nextA_c (w : World) (la lb : Addr) (a b : List Int) (h : okPs a b = true) (hlen : (restP a b).length < 2 ^ 10) (h1 : 1 < contentP (negP (restP a b)) ∧ contentP (negP (restP a b)) < 2 ^ 30) : Con w 18 244 [.ref la, .ref lb] (fun h => HasL la a h ∧ HasL lb b h) (RList ((negP (restP a b)).map fun x => Int.fdiv x (contentP (negP (restP a b))))) := by
  w_top off
  k_with_none
  k_with "ktd_step" => (first | (refine' code_defG ?k1_q7 ?k2_q7 ?k3_q7 ?k4_q7 ?k5_q7 ?kA_q7 ?kF_q7 ?kK_q7 ?k6_q7 ?k7_q7 ?k8_q7 ?k9_q7 ?kB_q7 ?_ ?c2_q7 ?c3_q7 ?c4_q7 ?c5_q7; (case kA_q7 => exact rfl); (case kF_q7 => exact rfl); (case kK_q7 => assumption); (case k1_q7 => k_asm); (case k2_q7 => k_asm); (case k3_q7 => k_asm); (case k4_q7 => k_asm); (case k5_q7 => k_asm); (case k6_q7 => k_is); (case k7_q7 => k_is); (case k8_q7 => ktr_room); (case k9_q7 => exact BindsTo.of_eq rfl); (case c5_q7 => decide); (case kB_q7 => exact locs rfl); (case c2_q7 => exact rfl); (case c3_q7 => exact rfl); (case c4_q7 => exact rfl); k_whole; intro L' h' F' N' B' X' T'; (try dsimp only); (try k_fold)) | (refine' code_defGC ?k1_q7 ?k2_q7 ?k3_q7 ?k4_q7 ?k5_q7 ?kA_q7 ?kF_q7 ?kK_q7 ?k6_q7 ?k7_q7 ?k8_q7 ?k9_q7 ?kB_q7 ?kD_q7 ?_ ?c2_q7 ?c3_q7 ?c4_q7; (case kA_q7 => exact rfl); (case kF_q7 => exact rfl); (case kK_q7 => assumption); (case k1_q7 => k_asm); (case k2_q7 => k_asm); (case k3_q7 => k_asm); (case k4_q7 => k_asm); (case k5_q7 => k_asm); (case k6_q7 => k_is); (case k7_q7 => k_is); (case k8_q7 => ktr_room); (case k9_q7 => exact BindsTo.of_eq rfl); (case kB_q7 => exact rfl); (case kD_q7 => decide +kernel); (case c2_q7 => exact rfl); (case c3_q7 => exact rfl); (case c4_q7 => exact rfl); k_whole; intro L' h' tk' cells' F' N' Y' B' X' T'; k_cells Y'; (try dsimp only); (try k_fold)) | fail "step: no entry")
  k_with "ktr_step" => ((refine rlist_end (by assumption) (by assumption) (by assumption) (by assumption) (by assumption) (by assumption) List.mem_cons_self (by assumption) ?_))
  k_with "ktn_step" => ((refine rlist_end (vs := []) (by assumption) (by assumption) (by assumption) (by assumption) (by assumption) (by assumption) List.mem_cons_self IntsAre.nil ?_))
  k_with "ktf_step" => (first | assumption | exact lt_wid (by with_reducible assumption) (by k_dflt (exact rfl)) | k_dflt (exact Nat.le_of_ble_eq_true rfl) | l_fit)
  k_with "exec While Compare cons nil" => ((k_extra "while"))
  k_with "k_ne" => ((refine neN ?_; (try dsimp only); first | exact Apt.use (by assumption) (by k_mem) | exact Ne.symm (Apt.use (by assumption) (by k_mem)) | ((with_reducible rename (@Ne Nat _ _ ∧ _) ∧ _ => q9); first | with_reducible exact q9.1.1 | with_reducible exact Ne.symm q9.1.1 | with_reducible exact q9.1.2.1 | with_reducible exact Ne.symm q9.1.2.1 | with_reducible exact q9.1.2.2 | with_reducible exact Ne.symm q9.1.2.2 | with_reducible exact q9.1 | with_reducible exact Ne.symm q9.1 | with_reducible exact q9.2.1 | with_reducible exact Ne.symm q9.2.1 | with_reducible exact q9.2.2 | with_reducible exact Ne.symm q9.2.2 | with_reducible exact q9.2.1.1 | with_reducible exact Ne.symm q9.2.1.1 | with_reducible exact q9.2.1.2.1 | with_reducible exact Ne.symm q9.2.1.2.1 | with_reducible exact q9.2.1.2.2 | with_reducible exact Ne.symm q9.2.1.2.2 | with_reducible exact q9.2.2.1 | with_reducible exact Ne.symm q9.2.2.1 | with_reducible exact q9.2.2.2 | with_reducible exact Ne.symm q9.2.2.2 | with_reducible exact q9.2.2.1.1 | with_reducible exact Ne.symm q9.2.2.1.1 | with_reducible exact q9.2.2.1.2.1 | with_reducible exact Ne.symm q9.2.2.1.2.1 | with_reducible exact q9.2.2.1.2.2 | with_reducible exact Ne.symm q9.2.2.1.2.2 | with_reducible exact q9.2.2.2.1 | with_reducible exact Ne.symm q9.2.2.2.1 | with_reducible exact q9.2.2.2.2 | with_reducible exact Ne.symm q9.2.2.2.2 | with_reducible exact q9.2.2.2.1.1 | with_reducible exact Ne.symm q9.2.2.2.1.1 | with_reducible exact q9.2.2.2.1.2.1 | with_reducible exact Ne.symm q9.2.2.2.1.2.1 | with_reducible exact q9.2.2.2.1.2.2 | with_reducible exact Ne.symm q9.2.2.2.1.2.2 | with_reducible exact q9.2.2.2.2.1 | with_reducible exact Ne.symm q9.2.2.2.2.1 | with_reducible exact q9.2.2.2.2.2 | with_reducible exact Ne.symm q9.2.2.2.2.2 | with_reducible exact q9.2.2.2.2.1.1 | with_reducible exact Ne.symm q9.2.2.2.2.1.1 | with_reducible exact q9.2.2.2.2.1.2.1 | with_reducible exact Ne.symm q9.2.2.2.2.1.2.1 | with_reducible exact q9.2.2.2.2.1.2.2 | with_reducible exact Ne.symm q9.2.2.2.2.1.2.2 | with_reducible exact q9.2.2.2.2.2.1 | with_reducible exact Ne.symm q9.2.2.2.2.2.1 | with_reducible exact q9.2.2.2.2.2.2 | with_reducible exact Ne.symm q9.2.2.2.2.2.2) | ((with_reducible rename @Ne Nat _ _ ∧ _ => q9); first | with_reducible exact q9.1 | with_reducible exact Ne.symm q9.1 | with_reducible exact q9.2.1 | with_reducible exact Ne.symm q9.2.1 | with_reducible exact q9.2.2 | with_reducible exact Ne.symm q9.2.2)))
  k_with "execs cons" => ((dsimp only))
  k_with "eval BinOp" => ((dsimp only))
  k_with "storeName" => ((dsimp only))
  k_with "ktr_room" => ((first | exact room_of (by with_reducible assumption) (by k_dflt (exact rfl)) | exact room_in (by with_reducible assumption)))
  k_with "ktr_units" => ((exact room_of (by with_reducible assumption) (by k_dflt (exact rfl))))
  k_with "omega" => ((first | (with_reducible assumption) | exact lt_wid (by with_reducible assumption) (by k_dflt (exact rfl)) | exact le_wid (by with_reducible assumption) (by k_dflt (exact rfl)) | (k_dflt (exact Nat.le_of_ble_eq_true rfl)) | exact ilt_wid (And.right (by with_reducible assumption)) (by k_dflt (exact rfl)) | exact igt_wid (And.left (by with_reducible assumption)) (by k_dflt (exact rfl)) | (k_dflt decide) | exact Apt.use (by with_reducible assumption) (by k_mem) | exact Ne.symm (Apt.use (by with_reducible assumption) (by k_mem)) | ((repeat ((with_reducible rename (@Ne Nat _ _ ∧ _) ∧ _ => q9); clear q9)); (repeat ((with_reducible rename @Ne Nat _ _ ∧ _ => q9); clear q9)); (try clear hu); (try clear hd); omega +splitNatSub)))
  k_with "ktf_step" => (first | assumption | exact lt_wid (by with_reducible assumption) (by k_dflt (exact rfl)) | k_dflt (exact Nat.le_of_ble_eq_true rfl) | l_fit | ((simp only [List.length_cons, List.length_nil]); omega) | (simp only [List.length_cons, List.length_nil, List.length_append]; first | done | omega) | exact Nat.le_refl _)
  k_with "ktr_rel" => (first | assumption | exact IsTup.keeps (by assumption) (Fr.keep (by assumption)) | exact News.isTup (by assumption) (by k_mem) | fail "no tuple")
  k_with "subscriptTail Name BinOp ref int" => (((with_reducible show wpAny _ _ (subscriptTail _ _ (Value.ref _) (Value.int _ _)) _ _ _); k_dflt (refine' item_list_ints ?k1_q7 ?k2_q7 ?k3_q7 ?k4_q7 ?k5_q7 ?_; (case k1_q7 => first | exact News.isList (by assumption) (by k_mem) | is_list); (case k2_q7 => assumption); (case k3_q7 => ((repeat ((with_reducible rename (@Ne Nat _ _ ∧ _) ∧ _ => q9); clear q9)); (repeat ((with_reducible rename @Ne Nat _ _ ∧ _ => q9); clear q9)); omega)); (case k4_q7 => ((repeat ((with_reducible rename (@Ne Nat _ _ ∧ _) ∧ _ => q9); clear q9)); (repeat ((with_reducible rename @Ne Nat _ _ ∧ _ => q9); clear q9)); omega)); (case k5_q7 => ((repeat ((with_reducible rename (@Ne Nat _ _ ∧ _) ∧ _ => q9); clear q9)); (repeat ((with_reducible rename @Ne Nat _ _ ∧ _ => q9); clear q9)); omega)); k_whole); intro _))
  k_with "subscriptTail Name Name ref int" => (((with_reducible show wpAny _ _ (subscriptTail _ _ (Value.ref _) (Value.int _ _)) _ _ _); k_dflt (refine' item_list_ints ?k1_q7 ?k2_q7 ?k3_q7 ?k4_q7 ?k5_q7 ?_; (case k1_q7 => first | exact News.isList (by assumption) (by k_mem) | is_list); (case k2_q7 => assumption); (case k3_q7 => ((repeat ((with_reducible rename (@Ne Nat _ _ ∧ _) ∧ _ => q9); clear q9)); (repeat ((with_reducible rename @Ne Nat _ _ ∧ _ => q9); clear q9)); omega)); (case k4_q7 => ((repeat ((with_reducible rename (@Ne Nat _ _ ∧ _) ∧ _ => q9); clear q9)); (repeat ((with_reducible rename @Ne Nat _ _ ∧ _ => q9); clear q9)); omega)); (case k5_q7 => ((repeat ((with_reducible rename (@Ne Nat _ _ ∧ _) ∧ _ => q9); clear q9)); (repeat ((with_reducible rename @Ne Nat _ _ ∧ _ => q9); clear q9)); omega)); k_whole); intro _))
  k_with "l_ints" => (k_dflt (first | assumption | exact IntsAre.nil | exact IntsAre.cons _ _ IntsAre.nil | exact IntsAre.cons _ _ (IntsAre.cons _ _ IntsAre.nil) | exact IntsAre.cons _ _ (IntsAre.cons _ _ (IntsAre.cons _ _ IntsAre.nil)) | exact IntsAre.cons _ _ (IntsAre.cons _ _ (IntsAre.cons _ _ (IntsAre.cons _ _ (IntsAre.cons _ _ (IntsAre.cons _ _ (IntsAre.cons _ _ (IntsAre.cons _ _ IntsAre.nil))))))) | exact IntsAre.append (by l_ints) (IntsAre.cons _ _ IntsAre.nil)))
  k_with "call ref" => ((k_here; k_dflt ((refine' con_use (pseudo2_c _ _ _ _ _ ?hok_q7) ?k1_q7 ?k2_q7 ?k3_q7 ?k4_q7 ?k5_q7 ?kK_q7 ?kd_q7 ?ku_q7 ?kp_q7 ?_; (case kp_q7 => exact ⟨hasL_of (by is_list) (by l_ints), hasL_of (by is_list) (by l_ints)⟩); (case hok_q7 => first | assumption | (subst_vars; assumption)); (case k1_q7 => k_asm); (case k2_q7 => k_asm); (case k3_q7 => k_asm); (case k4_q7 => k_asm); (case k5_q7 => k_asm); (case kK_q7 => first | exact rfl | assumption); (case kd_q7 => ktr_room); (case ku_q7 => ktr_units); k_whole); intro T' la' lb' vsa' vsb' q' n1' n2' t' h' tk' F' N' lT lA lB Ia Ib eb; (replace lT := Apt.of lT); (replace lA := Apt.of lA); (replace lB := Apt.of lB); (obtain ⟨d9, I9, e9⟩ := ints_hide Ib); clear Ib eb; (have b9 := le_rest e9); (try k_sweep))))
  k_with "call ref" => ((k_here; k_dflt ((refine' con_use (zneg_c _ _ _ ?hz_q7) ?k1_q7 ?k2_q7 ?k3_q7 ?k4_q7 ?k5_q7 ?kK_q7 ?kd_q7 ?ku_q7 ?kp_q7 ?_; (case kp_q7 => exact hasL_of (by is_list) (by l_ints)); (case hz_q7 => ktf_step); (case k1_q7 => k_asm); (case k2_q7 => k_asm); (case k3_q7 => k_asm); (case k4_q7 => k_asm); (case k5_q7 => k_asm); (case kK_q7 => first | exact rfl | assumption); (case kd_q7 => ktr_room); (case ku_q7 => ktr_units); k_whole); intro l' vs' n' h' tk' F' N' l1 I' e1; (replace l1 := Apt.of l1); (obtain ⟨d9, I9, e9⟩ := ints_hide I'); clear I' e1; (have b9 := le_neg e9); (try simp only [List.length_cons, List.length_nil] at b9); (try k_sweep))))
  k_with "call ref" => ((k_here; k_dflt ((refine' con_use (zlead_c _ _ _ ?hz_q7) ?k1_q7 ?k2_q7 ?k3_q7 ?k4_q7 ?k5_q7 ?kK_q7 ?kd_q7 ?ku_q7 ?kp_q7 ?_; (case kp_q7 => exact hasL_of (by is_list) (by l_ints)); (case hz_q7 => ktf_step); (case k1_q7 => k_asm); (case k2_q7 => k_asm); (case k3_q7 => k_asm); (case k4_q7 => k_asm); (case k5_q7 => k_asm); (case kK_q7 => first | exact rfl | assumption); (case kd_q7 => ktr_room); (case ku_q7 => ktr_units); k_whole); intro t' h' tk' F' N'; (try k_sweep))))
  k_with "call ref" => ((k_here; k_dflt ((refine' con_use (lessA_c _ _ _ ?hz_q7 ?hc_q7) ?k1_q7 ?k2_q7 ?k3_q7 ?k4_q7 ?k5_q7 ?kK_q7 ?kd_q7 ?ku_q7 ?kp_q7 ?_; (case kp_q7 => exact hasL_of (by is_list) (by l_ints)); (case hz_q7 => ktf_step); (case hc_q7 => first | assumption | (subst_vars; assumption)); (case k1_q7 => k_asm); (case k2_q7 => k_asm); (case k3_q7 => k_asm); (case k4_q7 => k_asm); (case k5_q7 => k_asm); (case kK_q7 => first | exact rfl | assumption); (case kd_q7 => ktr_room); (case ku_q7 => ktr_units); k_whole); intro l' vs' n' h' tk' F' N' l1 I' e1; (replace l1 := Apt.of l1); (obtain ⟨d9, I9, e9⟩ := ints_hide I'); clear I' e1; (have b9 := le_div e9); (try simp only [List.length_cons, List.length_nil] at b9); (try k_sweep))))
  k_with "call ref" => ((k_here; k_dflt ((refine' con_use (lessB_c _ _ _ ?hz_q7 ?hc_q7) ?k1_q7 ?k2_q7 ?k3_q7 ?k4_q7 ?k5_q7 ?kK_q7 ?kd_q7 ?ku_q7 ?kp_q7 ?_; (case kp_q7 => exact hasL_of (by is_list) (by l_ints)); (case hz_q7 => ktf_step); (case hc_q7 => first | assumption | (subst_vars; assumption)); (case k1_q7 => k_asm); (case k2_q7 => k_asm); (case k3_q7 => k_asm); (case k4_q7 => k_asm); (case k5_q7 => k_asm); (case kK_q7 => first | exact rfl | assumption); (case kd_q7 => ktr_room); (case ku_q7 => ktr_units); k_whole); intro h' tk' F' N'; (try k_sweep))))
  unfold Con
  k_fill
  intro dp un gd cn cs aa ccd cl outer A₀ base h₀ L m news s Q E mean mg mb B F X N T hk hd hu hpre hret
  obtain ⟨⟨vs, hl, hi⟩, ⟨vs2, hl2, hi2⟩⟩ := hpre
  refine wpAny_call ?_
  k_dflt ktd_step
  k_steps
  ktr_step
  subst_vars
  rfl
theorem nextB_c (w : World) (la lb : Addr) (a b : List Int) (h : okPs a b = true) (hlen : (restP a b).length < 2 ^ 10) (h1 : ¬ 1 < contentP (negP (restP a b))) : Con w 18 244 [.ref la, .ref lb] (fun h => HasL la a h ∧ HasL lb b h) (RList (negP (restP a b))) := by
  w_top off
  k_with_none
  k_with "ktd_step" => (first | (refine' code_defG ?k1_q7 ?k2_q7 ?k3_q7 ?k4_q7 ?k5_q7 ?kA_q7 ?kF_q7 ?kK_q7 ?k6_q7 ?k7_q7 ?k8_q7 ?k9_q7 ?kB_q7 ?_ ?c2_q7 ?c3_q7 ?c4_q7 ?c5_q7; (case kA_q7 => exact rfl); (case kF_q7 => exact rfl); (case kK_q7 => assumption); (case k1_q7 => k_asm); (case k2_q7 => k_asm); (case k3_q7 => k_asm); (case k4_q7 => k_asm); (case k5_q7 => k_asm); (case k6_q7 => k_is); (case k7_q7 => k_is); (case k8_q7 => ktr_room); (case k9_q7 => exact BindsTo.of_eq rfl); (case c5_q7 => decide); (case kB_q7 => exact locs rfl); (case c2_q7 => exact rfl); (case c3_q7 => exact rfl); (case c4_q7 => exact rfl); k_whole; intro L' h' F' N' B' X' T'; (try dsimp only); (try k_fold)) | (refine' code_defGC ?k1_q7 ?k2_q7 ?k3_q7 ?k4_q7 ?k5_q7 ?kA_q7 ?kF_q7 ?kK_q7 ?k6_q7 ?k7_q7 ?k8_q7 ?k9_q7 ?kB_q7 ?kD_q7 ?_ ?c2_q7 ?c3_q7 ?c4_q7; (case kA_q7 => exact rfl); (case kF_q7 => exact rfl); (case kK_q7 => assumption); (case k1_q7 => k_asm); (case k2_q7 => k_asm); (case k3_q7 => k_asm); (case k4_q7 => k_asm); (case k5_q7 => k_asm); (case k6_q7 => k_is); (case k7_q7 => k_is); (case k8_q7 => ktr_room); (case k9_q7 => exact BindsTo.of_eq rfl); (case kB_q7 => exact rfl); (case kD_q7 => decide +kernel); (case c2_q7 => exact rfl); (case c3_q7 => exact rfl); (case c4_q7 => exact rfl); k_whole; intro L' h' tk' cells' F' N' Y' B' X' T'; k_cells Y'; (try dsimp only); (try k_fold)) | fail "step: no entry")
  k_with "ktr_step" => ((refine rlist_end (by assumption) (by assumption) (by assumption) (by assumption) (by assumption) (by assumption) List.mem_cons_self (by assumption) ?_))
  k_with "ktn_step" => ((refine rlist_end (vs := []) (by assumption) (by assumption) (by assumption) (by assumption) (by assumption) (by assumption) List.mem_cons_self IntsAre.nil ?_))
  k_with "ktf_step" => (first | assumption | exact lt_wid (by with_reducible assumption) (by k_dflt (exact rfl)) | k_dflt (exact Nat.le_of_ble_eq_true rfl) | l_fit)
  k_with "exec While Compare cons nil" => ((k_extra "while"))
  k_with "k_ne" => ((refine neN ?_; (try dsimp only); first | exact Apt.use (by assumption) (by k_mem) | exact Ne.symm (Apt.use (by assumption) (by k_mem)) | ((with_reducible rename (@Ne Nat _ _ ∧ _) ∧ _ => q9); first | with_reducible exact q9.1.1 | with_reducible exact Ne.symm q9.1.1 | with_reducible exact q9.1.2.1 | with_reducible exact Ne.symm q9.1.2.1 | with_reducible exact q9.1.2.2 | with_reducible exact Ne.symm q9.1.2.2 | with_reducible exact q9.1 | with_reducible exact Ne.symm q9.1 | with_reducible exact q9.2.1 | with_reducible exact Ne.symm q9.2.1 | with_reducible exact q9.2.2 | with_reducible exact Ne.symm q9.2.2 | with_reducible exact q9.2.1.1 | with_reducible exact Ne.symm q9.2.1.1 | with_reducible exact q9.2.1.2.1 | with_reducible exact Ne.symm q9.2.1.2.1 | with_reducible exact q9.2.1.2.2 | with_reducible exact Ne.symm q9.2.1.2.2 | with_reducible exact q9.2.2.1 | with_reducible exact Ne.symm q9.2.2.1 | with_reducible exact q9.2.2.2 | with_reducible exact Ne.symm q9.2.2.2 | with_reducible exact q9.2.2.1.1 | with_reducible exact Ne.symm q9.2.2.1.1 | with_reducible exact q9.2.2.1.2.1 | with_reducible exact Ne.symm q9.2.2.1.2.1 | with_reducible exact q9.2.2.1.2.2 | with_reducible exact Ne.symm q9.2.2.1.2.2 | with_reducible exact q9.2.2.2.1 | with_reducible exact Ne.symm q9.2.2.2.1 | with_reducible exact q9.2.2.2.2 | with_reducible exact Ne.symm q9.2.2.2.2 | with_reducible exact q9.2.2.2.1.1 | with_reducible exact Ne.symm q9.2.2.2.1.1 | with_reducible exact q9.2.2.2.1.2.1 | with_reducible exact Ne.symm q9.2.2.2.1.2.1 | with_reducible exact q9.2.2.2.1.2.2 | with_reducible exact Ne.symm q9.2.2.2.1.2.2 | with_reducible exact q9.2.2.2.2.1 | with_reducible exact Ne.symm q9.2.2.2.2.1 | with_reducible exact q9.2.2.2.2.2 | with_reducible exact Ne.symm q9.2.2.2.2.2 | with_reducible exact q9.2.2.2.2.1.1 | with_reducible exact Ne.symm q9.2.2.2.2.1.1 | with_reducible exact q9.2.2.2.2.1.2.1 | with_reducible exact Ne.symm q9.2.2.2.2.1.2.1 | with_reducible exact q9.2.2.2.2.1.2.2 | with_reducible exact Ne.symm q9.2.2.2.2.1.2.2 | with_reducible exact q9.2.2.2.2.2.1 | with_reducible exact Ne.symm q9.2.2.2.2.2.1 | with_reducible exact q9.2.2.2.2.2.2 | with_reducible exact Ne.symm q9.2.2.2.2.2.2) | ((with_reducible rename @Ne Nat _ _ ∧ _ => q9); first | with_reducible exact q9.1 | with_reducible exact Ne.symm q9.1 | with_reducible exact q9.2.1 | with_reducible exact Ne.symm q9.2.1 | with_reducible exact q9.2.2 | with_reducible exact Ne.symm q9.2.2)))
  k_with "execs cons" => ((dsimp only))
  k_with "eval BinOp" => ((dsimp only))
  k_with "storeName" => ((dsimp only))
  k_with "ktr_room" => ((first | exact room_of (by with_reducible assumption) (by k_dflt (exact rfl)) | exact room_in (by with_reducible assumption)))
  k_with "ktr_units" => ((exact room_of (by with_reducible assumption) (by k_dflt (exact rfl))))
  k_with "omega" => ((first | (with_reducible assumption) | exact lt_wid (by with_reducible assumption) (by k_dflt (exact rfl)) | exact le_wid (by with_reducible assumption) (by k_dflt (exact rfl)) | (k_dflt (exact Nat.le_of_ble_eq_true rfl)) | exact ilt_wid (And.right (by with_reducible assumption)) (by k_dflt (exact rfl)) | exact igt_wid (And.left (by with_reducible assumption)) (by k_dflt (exact rfl)) | (k_dflt decide) | exact Apt.use (by with_reducible assumption) (by k_mem) | exact Ne.symm (Apt.use (by with_reducible assumption) (by k_mem)) | ((repeat ((with_reducible rename (@Ne Nat _ _ ∧ _) ∧ _ => q9); clear q9)); (repeat ((with_reducible rename @Ne Nat _ _ ∧ _ => q9); clear q9)); (try clear hu); (try clear hd); omega +splitNatSub)))
  k_with "ktf_step" => (first | assumption | exact lt_wid (by with_reducible assumption) (by k_dflt (exact rfl)) | k_dflt (exact Nat.le_of_ble_eq_true rfl) | l_fit | ((simp only [List.length_cons, List.length_nil]); omega) | (simp only [List.length_cons, List.length_nil, List.length_append]; first | done | omega) | exact Nat.le_refl _)
  k_with "ktr_rel" => (first | assumption | exact IsTup.keeps (by assumption) (Fr.keep (by assumption)) | exact News.isTup (by assumption) (by k_mem) | fail "no tuple")
  k_with "subscriptTail Name BinOp ref int" => (((with_reducible show wpAny _ _ (subscriptTail _ _ (Value.ref _) (Value.int _ _)) _ _ _); k_dflt (refine' item_list_ints ?k1_q7 ?k2_q7 ?k3_q7 ?k4_q7 ?k5_q7 ?_; (case k1_q7 => first | exact News.isList (by assumption) (by k_mem) | is_list); (case k2_q7 => assumption); (case k3_q7 => ((repeat ((with_reducible rename (@Ne Nat _ _ ∧ _) ∧ _ => q9); clear q9)); (repeat ((with_reducible rename @Ne Nat _ _ ∧ _ => q9); clear q9)); omega)); (case k4_q7 => ((repeat ((with_reducible rename (@Ne Nat _ _ ∧ _) ∧ _ => q9); clear q9)); (repeat ((with_reducible rename @Ne Nat _ _ ∧ _ => q9); clear q9)); omega)); (case k5_q7 => ((repeat ((with_reducible rename (@Ne Nat _ _ ∧ _) ∧ _ => q9); clear q9)); (repeat ((with_reducible rename @Ne Nat _ _ ∧ _ => q9); clear q9)); omega)); k_whole); intro _))
  k_with "subscriptTail Name Name ref int" => (((with_reducible show wpAny _ _ (subscriptTail _ _ (Value.ref _) (Value.int _ _)) _ _ _); k_dflt (refine' item_list_ints ?k1_q7 ?k2_q7 ?k3_q7 ?k4_q7 ?k5_q7 ?_; (case k1_q7 => first | exact News.isList (by assumption) (by k_mem) | is_list); (case k2_q7 => assumption); (case k3_q7 => ((repeat ((with_reducible rename (@Ne Nat _ _ ∧ _) ∧ _ => q9); clear q9)); (repeat ((with_reducible rename @Ne Nat _ _ ∧ _ => q9); clear q9)); omega)); (case k4_q7 => ((repeat ((with_reducible rename (@Ne Nat _ _ ∧ _) ∧ _ => q9); clear q9)); (repeat ((with_reducible rename @Ne Nat _ _ ∧ _ => q9); clear q9)); omega)); (case k5_q7 => ((repeat ((with_reducible rename (@Ne Nat _ _ ∧ _) ∧ _ => q9); clear q9)); (repeat ((with_reducible rename @Ne Nat _ _ ∧ _ => q9); clear q9)); omega)); k_whole); intro _))
  k_with "l_ints" => (k_dflt (first | assumption | exact IntsAre.nil | exact IntsAre.cons _ _ IntsAre.nil | exact IntsAre.cons _ _ (IntsAre.cons _ _ IntsAre.nil) | exact IntsAre.cons _ _ (IntsAre.cons _ _ (IntsAre.cons _ _ IntsAre.nil)) | exact IntsAre.cons _ _ (IntsAre.cons _ _ (IntsAre.cons _ _ (IntsAre.cons _ _ (IntsAre.cons _ _ (IntsAre.cons _ _ (IntsAre.cons _ _ (IntsAre.cons _ _ IntsAre.nil))))))) | exact IntsAre.append (by l_ints) (IntsAre.cons _ _ IntsAre.nil)))
  k_with "call ref" => ((k_here; k_dflt ((refine' con_use (pseudo2_c _ _ _ _ _ ?hok_q7) ?k1_q7 ?k2_q7 ?k3_q7 ?k4_q7 ?k5_q7 ?kK_q7 ?kd_q7 ?ku_q7 ?kp_q7 ?_; (case kp_q7 => exact ⟨hasL_of (by is_list) (by l_ints), hasL_of (by is_list) (by l_ints)⟩); (case hok_q7 => first | assumption | (subst_vars; assumption)); (case k1_q7 => k_asm); (case k2_q7 => k_asm); (case k3_q7 => k_asm); (case k4_q7 => k_asm); (case k5_q7 => k_asm); (case kK_q7 => first | exact rfl | assumption); (case kd_q7 => ktr_room); (case ku_q7 => ktr_units); k_whole); intro T' la' lb' vsa' vsb' q' n1' n2' t' h' tk' F' N' lT lA lB Ia Ib eb; (replace lT := Apt.of lT); (replace lA := Apt.of lA); (replace lB := Apt.of lB); (obtain ⟨d9, I9, e9⟩ := ints_hide Ib); clear Ib eb; (have b9 := le_rest e9); (try k_sweep))))
  k_with "call ref" => ((k_here; k_dflt ((refine' con_use (zneg_c _ _ _ ?hz_q7) ?k1_q7 ?k2_q7 ?k3_q7 ?k4_q7 ?k5_q7 ?kK_q7 ?kd_q7 ?ku_q7 ?kp_q7 ?_; (case kp_q7 => exact hasL_of (by is_list) (by l_ints)); (case hz_q7 => ktf_step); (case k1_q7 => k_asm); (case k2_q7 => k_asm); (case k3_q7 => k_asm); (case k4_q7 => k_asm); (case k5_q7 => k_asm); (case kK_q7 => first | exact rfl | assumption); (case kd_q7 => ktr_room); (case ku_q7 => ktr_units); k_whole); intro l' vs' n' h' tk' F' N' l1 I' e1; (replace l1 := Apt.of l1); (obtain ⟨d9, I9, e9⟩ := ints_hide I'); clear I' e1; (have b9 := le_neg e9); (try simp only [List.length_cons, List.length_nil] at b9); (try k_sweep))))
  k_with "call ref" => ((k_here; k_dflt ((refine' con_use (zlead_c _ _ _ ?hz_q7) ?k1_q7 ?k2_q7 ?k3_q7 ?k4_q7 ?k5_q7 ?kK_q7 ?kd_q7 ?ku_q7 ?kp_q7 ?_; (case kp_q7 => exact hasL_of (by is_list) (by l_ints)); (case hz_q7 => ktf_step); (case k1_q7 => k_asm); (case k2_q7 => k_asm); (case k3_q7 => k_asm); (case k4_q7 => k_asm); (case k5_q7 => k_asm); (case kK_q7 => first | exact rfl | assumption); (case kd_q7 => ktr_room); (case ku_q7 => ktr_units); k_whole); intro t' h' tk' F' N'; (try k_sweep))))
  k_with "call ref" => ((k_here; k_dflt ((refine' con_use (lessA_c _ _ _ ?hz_q7 ?hc_q7) ?k1_q7 ?k2_q7 ?k3_q7 ?k4_q7 ?k5_q7 ?kK_q7 ?kd_q7 ?ku_q7 ?kp_q7 ?_; (case kp_q7 => exact hasL_of (by is_list) (by l_ints)); (case hz_q7 => ktf_step); (case hc_q7 => first | assumption | (subst_vars; assumption)); (case k1_q7 => k_asm); (case k2_q7 => k_asm); (case k3_q7 => k_asm); (case k4_q7 => k_asm); (case k5_q7 => k_asm); (case kK_q7 => first | exact rfl | assumption); (case kd_q7 => ktr_room); (case ku_q7 => ktr_units); k_whole); intro l' vs' n' h' tk' F' N' l1 I' e1; (replace l1 := Apt.of l1); (obtain ⟨d9, I9, e9⟩ := ints_hide I'); clear I' e1; (have b9 := le_div e9); (try simp only [List.length_cons, List.length_nil] at b9); (try k_sweep))))
  k_with "call ref" => ((k_here; k_dflt ((refine' con_use (lessB_c _ _ _ ?hz_q7 ?hc_q7) ?k1_q7 ?k2_q7 ?k3_q7 ?k4_q7 ?k5_q7 ?kK_q7 ?kd_q7 ?ku_q7 ?kp_q7 ?_; (case kp_q7 => exact hasL_of (by is_list) (by l_ints)); (case hz_q7 => ktf_step); (case hc_q7 => first | assumption | (subst_vars; assumption)); (case k1_q7 => k_asm); (case k2_q7 => k_asm); (case k3_q7 => k_asm); (case k4_q7 => k_asm); (case k5_q7 => k_asm); (case kK_q7 => first | exact rfl | assumption); (case kd_q7 => ktr_room); (case ku_q7 => ktr_units); k_whole); intro h' tk' F' N'; (try k_sweep))))
  unfold Con
  k_fill
  intro dp un gd cn cs aa ccd cl outer A₀ base h₀ L m news s Q E mean mg mb B F X N T hk hd hu hpre hret
  obtain ⟨⟨vs, hl, hi⟩, ⟨vs2, hl2, hi2⟩⟩ := hpre
  refine wpAny_call ?_
  k_dflt ktd_step
  k_steps
  ktr_step
  subst_vars
  rfl
theorem next_c (w : World) (la lb : Addr) (a b : List Int) (h : okPs a b = true) (hc : contentP (negP (restP a b)) < 2 ^ 30) : Con w 18 244 [.ref la, .ref lb] (fun h => HasL la a h ∧ HasL lb b h) (RList (nextP a b)) := by
  have hlen := (okPs_of h).2.2.2.2.1
  unfold nextP
  split
  · next h1 => exact nextA_c w la lb a b h hlen ⟨h1, hc⟩
  · next h1 => exact nextB_c w la lb a b h hlen h1
theorem le_next {d a b : List Int} (e : d = nextP a b) : d.length = (nextP a b).length := by rw [e]

end
section
-- needs: C5 C14
section
theorem nheight_c (w : World) (f s0 h : Int) (t u v : Tok) (hs : s0 = 1) (hh : -2 ^ 60 < h ∧ h < 2 ^ 60) (hf : -2 ^ 60 < f ∧ f < 2 ^ 60) : Con w 3 183 [.int f t, .int s0 u, .int h v] (fun _ => True) (RInt f) := by
  w_top off
  k_with_none
  k_with "ktd_step" => (first | (refine' code_defG ?k1_q7 ?k2_q7 ?k3_q7 ?k4_q7 ?k5_q7 ?kA_q7 ?kF_q7 ?kK_q7 ?k6_q7 ?k7_q7 ?k8_q7 ?k9_q7 ?kB_q7 ?_ ?c2_q7 ?c3_q7 ?c4_q7 ?c5_q7; (case kA_q7 => exact rfl); (case kF_q7 => exact rfl); (case kK_q7 => assumption); (case k1_q7 => k_asm); (case k2_q7 => k_asm); (case k3_q7 => k_asm); (case k4_q7 => k_asm); (case k5_q7 => k_asm); (case k6_q7 => k_is); (case k7_q7 => k_is); (case k8_q7 => ktr_room); (case k9_q7 => exact BindsTo.of_eq rfl); (case c5_q7 => decide); (case kB_q7 => exact locs rfl); (case c2_q7 => exact rfl); (case c3_q7 => exact rfl); (case c4_q7 => exact rfl); k_whole; intro L' h' F' N' B' X' T'; (try dsimp only); (try k_fold)) | (refine' code_defGC ?k1_q7 ?k2_q7 ?k3_q7 ?k4_q7 ?k5_q7 ?kA_q7 ?kF_q7 ?kK_q7 ?k6_q7 ?k7_q7 ?k8_q7 ?k9_q7 ?kB_q7 ?kD_q7 ?_ ?c2_q7 ?c3_q7 ?c4_q7; (case kA_q7 => exact rfl); (case kF_q7 => exact rfl); (case kK_q7 => assumption); (case k1_q7 => k_asm); (case k2_q7 => k_asm); (case k3_q7 => k_asm); (case k4_q7 => k_asm); (case k5_q7 => k_asm); (case k6_q7 => k_is); (case k7_q7 => k_is); (case k8_q7 => ktr_room); (case k9_q7 => exact BindsTo.of_eq rfl); (case kB_q7 => exact rfl); (case kD_q7 => decide +kernel); (case c2_q7 => exact rfl); (case c3_q7 => exact rfl); (case c4_q7 => exact rfl); k_whole; intro L' h' tk' cells' F' N' Y' B' X' T'; k_cells Y'; (try dsimp only); (try k_fold)) | fail "step: no entry")
  k_with "ktr_step" => ((refine rlist_end (by assumption) (by assumption) (by assumption) (by assumption) (by assumption) (by assumption) List.mem_cons_self (by assumption) ?_))
  k_with "ktn_step" => ((refine rlist_end (vs := []) (by assumption) (by assumption) (by assumption) (by assumption) (by assumption) (by assumption) List.mem_cons_self IntsAre.nil ?_))
  k_with "ktf_step" => (first | assumption | exact lt_wid (by with_reducible assumption) (by k_dflt (exact rfl)) | k_dflt (exact Nat.le_of_ble_eq_true rfl) | l_fit)
  k_with "exec While Compare cons nil" => ((k_extra "while"))
  k_with "k_ne" => ((refine neN ?_; (try dsimp only); first | exact Apt.use (by assumption) (by k_mem) | exact Ne.symm (Apt.use (by assumption) (by k_mem)) | ((with_reducible rename (@Ne Nat _ _ ∧ _) ∧ _ => q9); first | with_reducible exact q9.1.1 | with_reducible exact Ne.symm q9.1.1 | with_reducible exact q9.1.2.1 | with_reducible exact Ne.symm q9.1.2.1 | with_reducible exact q9.1.2.2 | with_reducible exact Ne.symm q9.1.2.2 | with_reducible exact q9.1 | with_reducible exact Ne.symm q9.1 | with_reducible exact q9.2.1 | with_reducible exact Ne.symm q9.2.1 | with_reducible exact q9.2.2 | with_reducible exact Ne.symm q9.2.2 | with_reducible exact q9.2.1.1 | with_reducible exact Ne.symm q9.2.1.1 | with_reducible exact q9.2.1.2.1 | with_reducible exact Ne.symm q9.2.1.2.1 | with_reducible exact q9.2.1.2.2 | with_reducible exact Ne.symm q9.2.1.2.2 | with_reducible exact q9.2.2.1 | with_reducible exact Ne.symm q9.2.2.1 | with_reducible exact q9.2.2.2 | with_reducible exact Ne.symm q9.2.2.2 | with_reducible exact q9.2.2.1.1 | with_reducible exact Ne.symm q9.2.2.1.1 | with_reducible exact q9.2.2.1.2.1 | with_reducible exact Ne.symm q9.2.2.1.2.1 | with_reducible exact q9.2.2.1.2.2 | with_reducible exact Ne.symm q9.2.2.1.2.2 | with_reducible exact q9.2.2.2.1 | with_reducible exact Ne.symm q9.2.2.2.1 | with_reducible exact q9.2.2.2.2 | with_reducible exact Ne.symm q9.2.2.2.2 | with_reducible exact q9.2.2.2.1.1 | with_reducible exact Ne.symm q9.2.2.2.1.1 | with_reducible exact q9.2.2.2.1.2.1 | with_reducible exact Ne.symm q9.2.2.2.1.2.1 | with_reducible exact q9.2.2.2.1.2.2 | with_reducible exact Ne.symm q9.2.2.2.1.2.2 | with_reducible exact q9.2.2.2.2.1 | with_reducible exact Ne.symm q9.2.2.2.2.1 | with_reducible exact q9.2.2.2.2.2 | with_reducible exact Ne.symm q9.2.2.2.2.2 | with_reducible exact q9.2.2.2.2.1.1 | with_reducible exact Ne.symm q9.2.2.2.2.1.1 | with_reducible exact q9.2.2.2.2.1.2.1 | with_reducible exact Ne.symm q9.2.2.2.2.1.2.1 | with_reducible exact q9.2.2.2.2.1.2.2 | with_reducible exact Ne.symm q9.2.2.2.2.1.2.2 | with_reducible exact q9.2.2.2.2.2.1 | with_reducible exact Ne.symm q9.2.2.2.2.2.1 | with_reducible exact q9.2.2.2.2.2.2 | with_reducible exact Ne.symm q9.2.2.2.2.2.2) | ((with_reducible rename @Ne Nat _ _ ∧ _ => q9); first | with_reducible exact q9.1 | with_reducible exact Ne.symm q9.1 | with_reducible exact q9.2.1 | with_reducible exact Ne.symm q9.2.1 | with_reducible exact q9.2.2 | with_reducible exact Ne.symm q9.2.2)))
  k_with "execs cons" => ((dsimp only))
  k_with "eval BinOp" => ((dsimp only))
  k_with "storeName" => ((dsimp only))
  k_with "ktr_room" => ((first | exact room_of (by with_reducible assumption) (by k_dflt (exact rfl)) | exact room_in (by with_reducible assumption)))
  k_with "ktr_units" => ((exact room_of (by with_reducible assumption) (by k_dflt (exact rfl))))
  k_with "omega" => ((first | (with_reducible assumption) | exact lt_wid (by with_reducible assumption) (by k_dflt (exact rfl)) | exact le_wid (by with_reducible assumption) (by k_dflt (exact rfl)) | (k_dflt (exact Nat.le_of_ble_eq_true rfl)) | exact ilt_wid (And.right (by with_reducible assumption)) (by k_dflt (exact rfl)) | exact igt_wid (And.left (by with_reducible assumption)) (by k_dflt (exact rfl)) | (k_dflt decide) | exact Apt.use (by with_reducible assumption) (by k_mem) | exact Ne.symm (Apt.use (by with_reducible assumption) (by k_mem)) | ((repeat ((with_reducible rename (@Ne Nat _ _ ∧ _) ∧ _ => q9); clear q9)); (repeat ((with_reducible rename @Ne Nat _ _ ∧ _ => q9); clear q9)); (try clear hu); (try clear hd); omega +splitNatSub)))
  k_with "ktf_step" => (first | assumption | exact lt_wid (by with_reducible assumption) (by k_dflt (exact rfl)) | k_dflt (exact Nat.le_of_ble_eq_true rfl) | l_fit | ((simp only [List.length_cons, List.length_nil]); omega) | (simp only [List.length_cons, List.length_nil, List.length_append]; first | done | omega) | exact Nat.le_refl _)
  k_with "ktr_rel" => (first | assumption | exact IsTup.keeps (by assumption) (Fr.keep (by assumption)) | exact News.isTup (by assumption) (by k_mem) | fail "no tuple")
  k_with "subscriptTail Name BinOp ref int" => (((with_reducible show wpAny _ _ (subscriptTail _ _ (Value.ref _) (Value.int _ _)) _ _ _); k_dflt (refine' item_list_ints ?k1_q7 ?k2_q7 ?k3_q7 ?k4_q7 ?k5_q7 ?_; (case k1_q7 => first | exact News.isList (by assumption) (by k_mem) | is_list); (case k2_q7 => assumption); (case k3_q7 => ((repeat ((with_reducible rename (@Ne Nat _ _ ∧ _) ∧ _ => q9); clear q9)); (repeat ((with_reducible rename @Ne Nat _ _ ∧ _ => q9); clear q9)); omega)); (case k4_q7 => ((repeat ((with_reducible rename (@Ne Nat _ _ ∧ _) ∧ _ => q9); clear q9)); (repeat ((with_reducible rename @Ne Nat _ _ ∧ _ => q9); clear q9)); omega)); (case k5_q7 => ((repeat ((with_reducible rename (@Ne Nat _ _ ∧ _) ∧ _ => q9); clear q9)); (repeat ((with_reducible rename @Ne Nat _ _ ∧ _ => q9); clear q9)); omega)); k_whole); intro _))
  k_with "subscriptTail Name Name ref int" => (((with_reducible show wpAny _ _ (subscriptTail _ _ (Value.ref _) (Value.int _ _)) _ _ _); k_dflt (refine' item_list_ints ?k1_q7 ?k2_q7 ?k3_q7 ?k4_q7 ?k5_q7 ?_; (case k1_q7 => first | exact News.isList (by assumption) (by k_mem) | is_list); (case k2_q7 => assumption); (case k3_q7 => ((repeat ((with_reducible rename (@Ne Nat _ _ ∧ _) ∧ _ => q9); clear q9)); (repeat ((with_reducible rename @Ne Nat _ _ ∧ _ => q9); clear q9)); omega)); (case k4_q7 => ((repeat ((with_reducible rename (@Ne Nat _ _ ∧ _) ∧ _ => q9); clear q9)); (repeat ((with_reducible rename @Ne Nat _ _ ∧ _ => q9); clear q9)); omega)); (case k5_q7 => ((repeat ((with_reducible rename (@Ne Nat _ _ ∧ _) ∧ _ => q9); clear q9)); (repeat ((with_reducible rename @Ne Nat _ _ ∧ _ => q9); clear q9)); omega)); k_whole); intro _))
  k_with "l_ints" => (k_dflt (first | assumption | exact IntsAre.nil | exact IntsAre.cons _ _ IntsAre.nil | exact IntsAre.cons _ _ (IntsAre.cons _ _ IntsAre.nil) | exact IntsAre.cons _ _ (IntsAre.cons _ _ (IntsAre.cons _ _ IntsAre.nil)) | exact IntsAre.cons _ _ (IntsAre.cons _ _ (IntsAre.cons _ _ (IntsAre.cons _ _ (IntsAre.cons _ _ (IntsAre.cons _ _ (IntsAre.cons _ _ (IntsAre.cons _ _ IntsAre.nil))))))) | exact IntsAre.append (by l_ints) (IntsAre.cons _ _ IntsAre.nil)))
  k_with "binaryOp Pow int int" => (first | (refine pow_zero' (by omega) (by omega) ?_) | (refine pow_one' (by omega) (by omega) ?_))
  k_with "binaryOp FloorDiv int int" => ((refine fdiv_small (by first | assumption | omega) (by first | assumption | exact ⟨by omega, by omega⟩) ?_))
  unfold Con
  k_fill
  intro dp un gd cn cs aa ccd cl outer A₀ base h₀ L m news s Q E mean mg mb B F X N T hk hd hu hpre hret
  refine wpAny_call ?_
  k_dflt ktd_step
  k_steps
  · exfalso; omega
  · refine rint_end hret (by assumption) (by assumption) ?_
    exact Int.fdiv_one f
end

end
section
-- needs: C15 C19 C16
def RRow (r : List Int) (h₀ : Heap) (L : Addr) (m : Str → Option Value) (news : List (Addr × Obj)) (s : Shared) (Q : Value → Shared → Prop) : Prop :=
  ∀ (R l0 l1 l2 : Addr) (vs : List Value) (n n2 : Nat) (h' : Heap) (tk' : Nat), Fr h₀ L h' m → News h₀ L h' ((R, listOf #[.ref l0, .ref l1, .ref l2] n) :: (l2, listOf vs.toArray n2) :: news) →
    (∀ p ∈ news, p.1 ≠ R) → (∀ p ∈ news, p.1 ≠ l2) → IntsAre vs r → r.length = 1 → Q (.ref R) { s with heap := h', toks := tk' }
theorem row_end {h₀ h' : Heap} {L L' : Addr} {m : Str → Option Value} {news nx : List (Addr × Obj)} {s : Shared} {Q : Value → Shared → Prop} {R l0 l1 l2 : Addr} {vs : List Value} {n n2 tk : Nat} {r r' : List Int}
    (hret : RRow r h₀ L m news s Q) (N0 : News h₀ L s.heap news) (F : Fr h₀ L h' m) (N1 : News h₀ L h' news) (Nk : News h₀ L h' nx) (Ng : News s.heap L' h' nx)
    (hR : (R, listOf #[.ref l0, .ref l1, .ref l2] n) ∈ nx) (h2 : (l2, listOf vs.toArray n2) ∈ nx) (hI : IntsAre vs r') (e : r' = r) (hl : r'.length = 1) : Q (.ref R) { s with heap := h', toks := tk } := by
  subst e
  refine hret R l0 l1 l2 vs n n2 h' tk F (fun p hp => ?_) (fresh_ne N0 Ng hR) (fresh_ne N0 Ng h2) hI hl
  rcases List.mem_cons.mp hp with rfl | hp
  · exact Nk _ hR
  rcases List.mem_cons.mp hp with rfl | hp
  · exact Nk _ h2
  · exact N1 p hp
section
theorem subres_c (w : World) (la lb : Addr) (a b : List Int) (h : okPs a b = true) (hb2 : b.length = 2) (hr1 : (restP a b).length = 1) : Con w 24 190 [.ref la, .ref lb] (fun h => HasL la a h ∧ HasL lb b h) (RRow ((restP a b).map fun x => Int.fdiv x 1)) := by
  w_top off
  k_with_none
  k_with "ktd_step" => (first | (refine' code_defG ?k1_q7 ?k2_q7 ?k3_q7 ?k4_q7 ?k5_q7 ?kA_q7 ?kF_q7 ?kK_q7 ?k6_q7 ?k7_q7 ?k8_q7 ?k9_q7 ?kB_q7 ?_ ?c2_q7 ?c3_q7 ?c4_q7 ?c5_q7; (case kA_q7 => exact rfl); (case kF_q7 => exact rfl); (case kK_q7 => assumption); (case k1_q7 => k_asm); (case k2_q7 => k_asm); (case k3_q7 => k_asm); (case k4_q7 => k_asm); (case k5_q7 => k_asm); (case k6_q7 => k_is); (case k7_q7 => k_is); (case k8_q7 => ktr_room); (case k9_q7 => exact BindsTo.of_eq rfl); (case c5_q7 => decide); (case kB_q7 => exact locs rfl); (case c2_q7 => exact rfl); (case c3_q7 => exact rfl); (case c4_q7 => exact rfl); k_whole; intro L' h' F' N' B' X' T'; (try dsimp only); (try k_fold)) | (refine' code_defGC ?k1_q7 ?k2_q7 ?k3_q7 ?k4_q7 ?k5_q7 ?kA_q7 ?kF_q7 ?kK_q7 ?k6_q7 ?k7_q7 ?k8_q7 ?k9_q7 ?kB_q7 ?kD_q7 ?_ ?c2_q7 ?c3_q7 ?c4_q7; (case kA_q7 => exact rfl); (case kF_q7 => exact rfl); (case kK_q7 => assumption); (case k1_q7 => k_asm); (case k2_q7 => k_asm); (case k3_q7 => k_asm); (case k4_q7 => k_asm); (case k5_q7 => k_asm); (case k6_q7 => k_is); (case k7_q7 => k_is); (case k8_q7 => ktr_room); (case k9_q7 => exact BindsTo.of_eq rfl); (case kB_q7 => exact rfl); (case kD_q7 => decide +kernel); (case c2_q7 => exact rfl); (case c3_q7 => exact rfl); (case c4_q7 => exact rfl); k_whole; intro L' h' tk' cells' F' N' Y' B' X' T'; k_cells Y'; (try dsimp only); (try k_fold)) | fail "step: no entry")
  k_with "ktr_step" => ((refine rlist_end (by assumption) (by assumption) (by assumption) (by assumption) (by assumption) (by assumption) List.mem_cons_self (by assumption) ?_))
  k_with "ktn_step" => ((refine rlist_end (vs := []) (by assumption) (by assumption) (by assumption) (by assumption) (by assumption) (by assumption) List.mem_cons_self IntsAre.nil ?_))
  k_with "ktf_step" => (first | assumption | exact lt_wid (by with_reducible assumption) (by k_dflt (exact rfl)) | k_dflt (exact Nat.le_of_ble_eq_true rfl) | l_fit)
  k_with "exec While Compare cons nil" => ((k_extra "while"))
  k_with "k_ne" => ((refine neN ?_; (try dsimp only); first | exact Apt.use (by assumption) (by k_mem) | exact Ne.symm (Apt.use (by assumption) (by k_mem)) | ((with_reducible rename (@Ne Nat _ _ ∧ _) ∧ _ => q9); first | with_reducible exact q9.1.1 | with_reducible exact Ne.symm q9.1.1 | with_reducible exact q9.1.2.1 | with_reducible exact Ne.symm q9.1.2.1 | with_reducible exact q9.1.2.2 | with_reducible exact Ne.symm q9.1.2.2 | with_reducible exact q9.1 | with_reducible exact Ne.symm q9.1 | with_reducible exact q9.2.1 | with_reducible exact Ne.symm q9.2.1 | with_reducible exact q9.2.2 | with_reducible exact Ne.symm q9.2.2 | with_reducible exact q9.2.1.1 | with_reducible exact Ne.symm q9.2.1.1 | with_reducible exact q9.2.1.2.1 | with_reducible exact Ne.symm q9.2.1.2.1 | with_reducible exact q9.2.1.2.2 | with_reducible exact Ne.symm q9.2.1.2.2 | with_reducible exact q9.2.2.1 | with_reducible exact Ne.symm q9.2.2.1 | with_reducible exact q9.2.2.2 | with_reducible exact Ne.symm q9.2.2.2 | with_reducible exact q9.2.2.1.1 | with_reducible exact Ne.symm q9.2.2.1.1 | with_reducible exact q9.2.2.1.2.1 | with_reducible exact Ne.symm q9.2.2.1.2.1 | with_reducible exact q9.2.2.1.2.2 | with_reducible exact Ne.symm q9.2.2.1.2.2 | with_reducible exact q9.2.2.2.1 | with_reducible exact Ne.symm q9.2.2.2.1 | with_reducible exact q9.2.2.2.2 | with_reducible exact Ne.symm q9.2.2.2.2 | with_reducible exact q9.2.2.2.1.1 | with_reducible exact Ne.symm q9.2.2.2.1.1 | with_reducible exact q9.2.2.2.1.2.1 | with_reducible exact Ne.symm q9.2.2.2.1.2.1 | with_reducible exact q9.2.2.2.1.2.2 | with_reducible exact Ne.symm q9.2.2.2.1.2.2 | with_reducible exact q9.2.2.2.2.1 | with_reducible exact Ne.symm q9.2.2.2.2.1 | with_reducible exact q9.2.2.2.2.2 | with_reducible exact Ne.symm q9.2.2.2.2.2 | with_reducible exact q9.2.2.2.2.1.1 | with_reducible exact Ne.symm q9.2.2.2.2.1.1 | with_reducible exact q9.2.2.2.2.1.2.1 | with_reducible exact Ne.symm q9.2.2.2.2.1.2.1 | with_reducible exact q9.2.2.2.2.1.2.2 | with_reducible exact Ne.symm q9.2.2.2.2.1.2.2 | with_reducible exact q9.2.2.2.2.2.1 | with_reducible exact Ne.symm q9.2.2.2.2.2.1 | with_reducible exact q9.2.2.2.2.2.2 | with_reducible exact Ne.symm q9.2.2.2.2.2.2) | ((with_reducible rename @Ne Nat _ _ ∧ _ => q9); first | with_reducible exact q9.1 | with_reducible exact Ne.symm q9.1 | with_reducible exact q9.2.1 | with_reducible exact Ne.symm q9.2.1 | with_reducible exact q9.2.2 | with_reducible exact Ne.symm q9.2.2)))
  k_with "execs cons" => ((dsimp only))
  k_with "eval BinOp" => ((dsimp only))
  k_with "storeName" => ((dsimp only))
  k_with "ktr_room" => ((first | exact room_of (by with_reducible assumption) (by k_dflt (exact rfl)) | exact room_in (by with_reducible assumption)))
  k_with "ktr_units" => ((exact room_of (by with_reducible assumption) (by k_dflt (exact rfl))))
  k_with "omega" => ((first | (with_reducible assumption) | exact lt_wid (by with_reducible assumption) (by k_dflt (exact rfl)) | exact le_wid (by with_reducible assumption) (by k_dflt (exact rfl)) | (k_dflt (exact Nat.le_of_ble_eq_true rfl)) | exact ilt_wid (And.right (by with_reducible assumption)) (by k_dflt (exact rfl)) | exact igt_wid (And.left (by with_reducible assumption)) (by k_dflt (exact rfl)) | (k_dflt decide) | exact Apt.use (by with_reducible assumption) (by k_mem) | exact Ne.symm (Apt.use (by with_reducible assumption) (by k_mem)) | ((repeat ((with_reducible rename (@Ne Nat _ _ ∧ _) ∧ _ => q9); clear q9)); (repeat ((with_reducible rename @Ne Nat _ _ ∧ _ => q9); clear q9)); (try clear hu); (try clear hd); omega +splitNatSub)))
  k_with "ktf_step" => (first | assumption | exact lt_wid (by with_reducible assumption) (by k_dflt (exact rfl)) | k_dflt (exact Nat.le_of_ble_eq_true rfl) | l_fit | ((simp only [List.length_cons, List.length_nil]); omega) | (simp only [List.length_cons, List.length_nil, List.length_append]; first | done | omega) | exact Nat.le_refl _)
  k_with "ktr_rel" => (first | assumption | exact IsTup.keeps (by assumption) (Fr.keep (by assumption)) | exact News.isTup (by assumption) (by k_mem) | fail "no tuple")
  k_with "subscriptTail Name BinOp ref int" => (((with_reducible show wpAny _ _ (subscriptTail _ _ (Value.ref _) (Value.int _ _)) _ _ _); k_dflt (refine' item_list_ints ?k1_q7 ?k2_q7 ?k3_q7 ?k4_q7 ?k5_q7 ?_; (case k1_q7 => first | exact News.isList (by assumption) (by k_mem) | is_list); (case k2_q7 => assumption); (case k3_q7 => ((repeat ((with_reducible rename (@Ne Nat _ _ ∧ _) ∧ _ => q9); clear q9)); (repeat ((with_reducible rename @Ne Nat _ _ ∧ _ => q9); clear q9)); omega)); (case k4_q7 => ((repeat ((with_reducible rename (@Ne Nat _ _ ∧ _) ∧ _ => q9); clear q9)); (repeat ((with_reducible rename @Ne Nat _ _ ∧ _ => q9); clear q9)); omega)); (case k5_q7 => ((repeat ((with_reducible rename (@Ne Nat _ _ ∧ _) ∧ _ => q9); clear q9)); (repeat ((with_reducible rename @Ne Nat _ _ ∧ _ => q9); clear q9)); omega)); k_whole); intro _))
  k_with "subscriptTail Name Name ref int" => (((with_reducible show wpAny _ _ (subscriptTail _ _ (Value.ref _) (Value.int _ _)) _ _ _); k_dflt (refine' item_list_ints ?k1_q7 ?k2_q7 ?k3_q7 ?k4_q7 ?k5_q7 ?_; (case k1_q7 => first | exact News.isList (by assumption) (by k_mem) | is_list); (case k2_q7 => assumption); (case k3_q7 => ((repeat ((with_reducible rename (@Ne Nat _ _ ∧ _) ∧ _ => q9); clear q9)); (repeat ((with_reducible rename @Ne Nat _ _ ∧ _ => q9); clear q9)); omega)); (case k4_q7 => ((repeat ((with_reducible rename (@Ne Nat _ _ ∧ _) ∧ _ => q9); clear q9)); (repeat ((with_reducible rename @Ne Nat _ _ ∧ _ => q9); clear q9)); omega)); (case k5_q7 => ((repeat ((with_reducible rename (@Ne Nat _ _ ∧ _) ∧ _ => q9); clear q9)); (repeat ((with_reducible rename @Ne Nat _ _ ∧ _ => q9); clear q9)); omega)); k_whole); intro _))
  k_with "l_ints" => (k_dflt (first | assumption | exact IntsAre.nil | exact IntsAre.cons _ _ IntsAre.nil | exact IntsAre.cons _ _ (IntsAre.cons _ _ IntsAre.nil) | exact IntsAre.cons _ _ (IntsAre.cons _ _ (IntsAre.cons _ _ IntsAre.nil)) | exact IntsAre.cons _ _ (IntsAre.cons _ _ (IntsAre.cons _ _ (IntsAre.cons _ _ (IntsAre.cons _ _ (IntsAre.cons _ _ (IntsAre.cons _ _ (IntsAre.cons _ _ IntsAre.nil))))))) | exact IntsAre.append (by l_ints) (IntsAre.cons _ _ IntsAre.nil)))
  k_with "call ref" => ((k_here; k_dflt ((refine' con_use (zprest2_c _ _ _ _ _ ?hok_q7) ?k1_q7 ?k2_q7 ?k3_q7 ?k4_q7 ?k5_q7 ?kK_q7 ?kd_q7 ?ku_q7 ?kp_q7 ?_; (case kp_q7 => exact ⟨hasL_of (by is_list) (by l_ints), hasL_of (by is_list) (by l_ints)⟩); (case hok_q7 => first | assumption | (subst_vars; assumption)); (case k1_q7 => k_asm); (case k2_q7 => k_asm); (case k3_q7 => k_asm); (case k4_q7 => k_asm); (case k5_q7 => k_asm); (case kK_q7 => first | exact rfl | assumption); (case kd_q7 => ktr_room); (case ku_q7 => ktr_units); k_whole); intro l' vs' n' h' tk' F' N' l1 I' e1; (replace l1 := Apt.of l1); (obtain ⟨d9, I9, e9⟩ := ints_hide I'); clear I' e1; (have b9 := le_rest e9); (try simp only [List.length_cons, List.length_nil] at b9); (try k_sweep))))
  k_with "call ref" => ((k_here; k_dflt ((refine' con_use (zdivided_c _ _ _ _ _ ?hz_q7 ?h0_q7 ?hb_q7) ?k1_q7 ?k2_q7 ?k3_q7 ?k4_q7 ?k5_q7 ?kK_q7 ?kd_q7 ?ku_q7 ?kp_q7 ?_; (case kp_q7 => exact hasL_of (by is_list) (by l_ints)); (case hz_q7 => ktf_step); (case h0_q7 => first | assumption | omega); (case hb_q7 => first | assumption | exact ⟨by omega, by omega⟩); (case k1_q7 => k_asm); (case k2_q7 => k_asm); (case k3_q7 => k_asm); (case k4_q7 => k_asm); (case k5_q7 => k_asm); (case kK_q7 => first | exact rfl | assumption); (case kd_q7 => ktr_room); (case ku_q7 => ktr_units); k_whole); intro l' vs' n' h' tk' F' N' l1 I' e1; (replace l1 := Apt.of l1); (obtain ⟨d9, I9, e9⟩ := ints_hide I'); clear I' e1; (have b9 := le_div e9); (try simp only [List.length_cons, List.length_nil] at b9); (try k_sweep))))
  k_with "call ref" => ((k_here; k_dflt ((refine' con_use (zlead_c _ _ _ ?hz_q7) ?k1_q7 ?k2_q7 ?k3_q7 ?k4_q7 ?k5_q7 ?kK_q7 ?kd_q7 ?ku_q7 ?kp_q7 ?_; (case kp_q7 => exact hasL_of (by is_list) (by l_ints)); (case hz_q7 => ktf_step); (case k1_q7 => k_asm); (case k2_q7 => k_asm); (case k3_q7 => k_asm); (case k4_q7 => k_asm); (case k5_q7 => k_asm); (case kK_q7 => first | exact rfl | assumption); (case kd_q7 => ktr_room); (case ku_q7 => ktr_units); k_whole); intro t' h' tk' F' N'; (try k_sweep))))
  k_with "call ref" => ((k_here; k_dflt ((refine' con_use (nheight_c _ _ _ _ _ _ _ ?hs_q7 ?hh_q7 ?hf_q7) ?k1_q7 ?k2_q7 ?k3_q7 ?k4_q7 ?k5_q7 ?kK_q7 ?kd_q7 ?ku_q7 ?kp_q7 ?_; (case kp_q7 => exact trivial); (case hs_q7 => ktf_step); (case hh_q7 => first | assumption | exact ⟨by omega, by omega⟩); (case hf_q7 => first | assumption | exact ⟨by omega, by omega⟩); (case k1_q7 => k_asm); (case k2_q7 => k_asm); (case k3_q7 => k_asm); (case k4_q7 => k_asm); (case k5_q7 => k_asm); (case kK_q7 => first | exact rfl | assumption); (case kd_q7 => ktr_room); (case ku_q7 => ktr_units); k_whole); intro t' h' tk' F' N'; (try k_sweep))))
  k_with "binaryOp Pow int int" => (first | (refine pow_zero' (by omega) (by omega) ?_) | (refine pow_one' (by omega) (by omega) ?_))
  k_with "WhlIf" => (first | (refine WhlIf.yes (decide_eq_true (by omega)) ?_) | (refine WhlIf.no (decide_eq_false (by omega)) ?_))
  k_with "while" => k_dflt (refine whl_start 3 ?_)
  obtain ⟨hb0, hb1, hab, hf, hlen, _⟩ := okPs_of h
  unfold Con
  k_fill
  intro dp un gd cn cs aa ccd cl outer A₀ base h₀ L m news s Q E mean mg mb B F X N T hk hd hu hpre hret
  obtain ⟨⟨vs, hl, hi⟩, ⟨vs2, hl2, hi2⟩⟩ := hpre
  refine wpAny_call ?_
  k_dflt ktd_step
  k_steps
  · exfalso; omega
  · rename News h₀ L _ ((_, _) :: (_, _) :: _) => Nk9
    rename News s.heap _ _ ((_, _) :: (_, _) :: _) => Ng9
    refine row_end hret N (by assumption) (by assumption) Nk9 Ng9 (by k_mem) (by k_mem) (by assumption) ?_ (by omega)
    subst_vars
    rfl
end
theorem zdegree_c (w : World) (l : Addr) (ns : List Int) (hz : ns.length < 2 ^ 20) : Con w 3 81 [.ref l] (HasL l ns) (RInt ((ns.length : Int) - 1)) := by
  w_top off
  k_with_none
  k_with "ktd_step" => (first | (refine' code_defG ?k1_q7 ?k2_q7 ?k3_q7 ?k4_q7 ?k5_q7 ?kA_q7 ?kF_q7 ?kK_q7 ?k6_q7 ?k7_q7 ?k8_q7 ?k9_q7 ?kB_q7 ?_ ?c2_q7 ?c3_q7 ?c4_q7 ?c5_q7; (case kA_q7 => exact rfl); (case kF_q7 => exact rfl); (case kK_q7 => assumption); (case k1_q7 => k_asm); (case k2_q7 => k_asm); (case k3_q7 => k_asm); (case k4_q7 => k_asm); (case k5_q7 => k_asm); (case k6_q7 => k_is); (case k7_q7 => k_is); (case k8_q7 => ktr_room); (case k9_q7 => exact BindsTo.of_eq rfl); (case c5_q7 => decide); (case kB_q7 => exact locs rfl); (case c2_q7 => exact rfl); (case c3_q7 => exact rfl); (case c4_q7 => exact rfl); k_whole; intro L' h' F' N' B' X' T'; (try dsimp only); (try k_fold)) | (refine' code_defGC ?k1_q7 ?k2_q7 ?k3_q7 ?k4_q7 ?k5_q7 ?kA_q7 ?kF_q7 ?kK_q7 ?k6_q7 ?k7_q7 ?k8_q7 ?k9_q7 ?kB_q7 ?kD_q7 ?_ ?c2_q7 ?c3_q7 ?c4_q7; (case kA_q7 => exact rfl); (case kF_q7 => exact rfl); (case kK_q7 => assumption); (case k1_q7 => k_asm); (case k2_q7 => k_asm); (case k3_q7 => k_asm); (case k4_q7 => k_asm); (case k5_q7 => k_asm); (case k6_q7 => k_is); (case k7_q7 => k_is); (case k8_q7 => ktr_room); (case k9_q7 => exact BindsTo.of_eq rfl); (case kB_q7 => exact rfl); (case kD_q7 => decide +kernel); (case c2_q7 => exact rfl); (case c3_q7 => exact rfl); (case c4_q7 => exact rfl); k_whole; intro L' h' tk' cells' F' N' Y' B' X' T'; k_cells Y'; (try dsimp only); (try k_fold)) | fail "step: no entry")
  k_with "ktr_step" => ((refine rlist_end (by assumption) (by assumption) (by assumption) (by assumption) (by assumption) (by assumption) List.mem_cons_self (by assumption) ?_))
  k_with "ktn_step" => ((refine rlist_end (vs := []) (by assumption) (by assumption) (by assumption) (by assumption) (by assumption) (by assumption) List.mem_cons_self IntsAre.nil ?_))
  k_with "ktf_step" => (first | assumption | exact lt_wid (by with_reducible assumption) (by k_dflt (exact rfl)) | k_dflt (exact Nat.le_of_ble_eq_true rfl) | l_fit)
  k_with "exec While Compare cons nil" => ((k_extra "while"))
  k_with "k_ne" => ((refine neN ?_; (try dsimp only); first | exact Apt.use (by assumption) (by k_mem) | exact Ne.symm (Apt.use (by assumption) (by k_mem)) | ((with_reducible rename (@Ne Nat _ _ ∧ _) ∧ _ => q9); first | with_reducible exact q9.1.1 | with_reducible exact Ne.symm q9.1.1 | with_reducible exact q9.1.2.1 | with_reducible exact Ne.symm q9.1.2.1 | with_reducible exact q9.1.2.2 | with_reducible exact Ne.symm q9.1.2.2 | with_reducible exact q9.1 | with_reducible exact Ne.symm q9.1 | with_reducible exact q9.2.1 | with_reducible exact Ne.symm q9.2.1 | with_reducible exact q9.2.2 | with_reducible exact Ne.symm q9.2.2 | with_reducible exact q9.2.1.1 | with_reducible exact Ne.symm q9.2.1.1 | with_reducible exact q9.2.1.2.1 | with_reducible exact Ne.symm q9.2.1.2.1 | with_reducible exact q9.2.1.2.2 | with_reducible exact Ne.symm q9.2.1.2.2 | with_reducible exact q9.2.2.1 | with_reducible exact Ne.symm q9.2.2.1 | with_reducible exact q9.2.2.2 | with_reducible exact Ne.symm q9.2.2.2 | with_reducible exact q9.2.2.1.1 | with_reducible exact Ne.symm q9.2.2.1.1 | with_reducible exact q9.2.2.1.2.1 | with_reducible exact Ne.symm q9.2.2.1.2.1 | with_reducible exact q9.2.2.1.2.2 | with_reducible exact Ne.symm q9.2.2.1.2.2 | with_reducible exact q9.2.2.2.1 | with_reducible exact Ne.symm q9.2.2.2.1 | with_reducible exact q9.2.2.2.2 | with_reducible exact Ne.symm q9.2.2.2.2 | with_reducible exact q9.2.2.2.1.1 | with_reducible exact Ne.symm q9.2.2.2.1.1 | with_reducible exact q9.2.2.2.1.2.1 | with_reducible exact Ne.symm q9.2.2.2.1.2.1 | with_reducible exact q9.2.2.2.1.2.2 | with_reducible exact Ne.symm q9.2.2.2.1.2.2 | with_reducible exact q9.2.2.2.2.1 | with_reducible exact Ne.symm q9.2.2.2.2.1 | with_reducible exact q9.2.2.2.2.2 | with_reducible exact Ne.symm q9.2.2.2.2.2 | with_reducible exact q9.2.2.2.2.1.1 | with_reducible exact Ne.symm q9.2.2.2.2.1.1 | with_reducible exact q9.2.2.2.2.1.2.1 | with_reducible exact Ne.symm q9.2.2.2.2.1.2.1 | with_reducible exact q9.2.2.2.2.1.2.2 | with_reducible exact Ne.symm q9.2.2.2.2.1.2.2 | with_reducible exact q9.2.2.2.2.2.1 | with_reducible exact Ne.symm q9.2.2.2.2.2.1 | with_reducible exact q9.2.2.2.2.2.2 | with_reducible exact Ne.symm q9.2.2.2.2.2.2) | ((with_reducible rename @Ne Nat _ _ ∧ _ => q9); first | with_reducible exact q9.1 | with_reducible exact Ne.symm q9.1 | with_reducible exact q9.2.1 | with_reducible exact Ne.symm q9.2.1 | with_reducible exact q9.2.2 | with_reducible exact Ne.symm q9.2.2)))
  k_with "execs cons" => ((dsimp only))
  k_with "eval BinOp" => ((dsimp only))
  k_with "storeName" => ((dsimp only))
  k_with "ktr_room" => ((first | exact room_of (by with_reducible assumption) (by k_dflt (exact rfl)) | exact room_in (by with_reducible assumption)))
  k_with "ktr_units" => ((exact room_of (by with_reducible assumption) (by k_dflt (exact rfl))))
  k_with "omega" => ((first | (with_reducible assumption) | exact lt_wid (by with_reducible assumption) (by k_dflt (exact rfl)) | exact le_wid (by with_reducible assumption) (by k_dflt (exact rfl)) | (k_dflt (exact Nat.le_of_ble_eq_true rfl)) | exact ilt_wid (And.right (by with_reducible assumption)) (by k_dflt (exact rfl)) | exact igt_wid (And.left (by with_reducible assumption)) (by k_dflt (exact rfl)) | (k_dflt decide) | exact Apt.use (by with_reducible assumption) (by k_mem) | exact Ne.symm (Apt.use (by with_reducible assumption) (by k_mem)) | ((repeat ((with_reducible rename (@Ne Nat _ _ ∧ _) ∧ _ => q9); clear q9)); (repeat ((with_reducible rename @Ne Nat _ _ ∧ _ => q9); clear q9)); (try clear hu); (try clear hd); omega +splitNatSub)))
  k_with "ktf_step" => (first | assumption | exact lt_wid (by with_reducible assumption) (by k_dflt (exact rfl)) | k_dflt (exact Nat.le_of_ble_eq_true rfl) | l_fit | ((simp only [List.length_cons, List.length_nil]); omega) | (simp only [List.length_cons, List.length_nil, List.length_append]; first | done | omega) | exact Nat.le_refl _)
  k_with "ktr_rel" => (first | assumption | exact IsTup.keeps (by assumption) (Fr.keep (by assumption)) | exact News.isTup (by assumption) (by k_mem) | fail "no tuple")
  k_with "subscriptTail Name BinOp ref int" => (((with_reducible show wpAny _ _ (subscriptTail _ _ (Value.ref _) (Value.int _ _)) _ _ _); k_dflt (refine' item_list_ints ?k1_q7 ?k2_q7 ?k3_q7 ?k4_q7 ?k5_q7 ?_; (case k1_q7 => first | exact News.isList (by assumption) (by k_mem) | is_list); (case k2_q7 => assumption); (case k3_q7 => ((repeat ((with_reducible rename (@Ne Nat _ _ ∧ _) ∧ _ => q9); clear q9)); (repeat ((with_reducible rename @Ne Nat _ _ ∧ _ => q9); clear q9)); omega)); (case k4_q7 => ((repeat ((with_reducible rename (@Ne Nat _ _ ∧ _) ∧ _ => q9); clear q9)); (repeat ((with_reducible rename @Ne Nat _ _ ∧ _ => q9); clear q9)); omega)); (case k5_q7 => ((repeat ((with_reducible rename (@Ne Nat _ _ ∧ _) ∧ _ => q9); clear q9)); (repeat ((with_reducible rename @Ne Nat _ _ ∧ _ => q9); clear q9)); omega)); k_whole); intro _))
  k_with "subscriptTail Name Name ref int" => (((with_reducible show wpAny _ _ (subscriptTail _ _ (Value.ref _) (Value.int _ _)) _ _ _); k_dflt (refine' item_list_ints ?k1_q7 ?k2_q7 ?k3_q7 ?k4_q7 ?k5_q7 ?_; (case k1_q7 => first | exact News.isList (by assumption) (by k_mem) | is_list); (case k2_q7 => assumption); (case k3_q7 => ((repeat ((with_reducible rename (@Ne Nat _ _ ∧ _) ∧ _ => q9); clear q9)); (repeat ((with_reducible rename @Ne Nat _ _ ∧ _ => q9); clear q9)); omega)); (case k4_q7 => ((repeat ((with_reducible rename (@Ne Nat _ _ ∧ _) ∧ _ => q9); clear q9)); (repeat ((with_reducible rename @Ne Nat _ _ ∧ _ => q9); clear q9)); omega)); (case k5_q7 => ((repeat ((with_reducible rename (@Ne Nat _ _ ∧ _) ∧ _ => q9); clear q9)); (repeat ((with_reducible rename @Ne Nat _ _ ∧ _ => q9); clear q9)); omega)); k_whole); intro _))
  k_with "l_ints" => (k_dflt (first | assumption | exact IntsAre.nil | exact IntsAre.cons _ _ IntsAre.nil | exact IntsAre.cons _ _ (IntsAre.cons _ _ IntsAre.nil) | exact IntsAre.cons _ _ (IntsAre.cons _ _ (IntsAre.cons _ _ IntsAre.nil)) | exact IntsAre.cons _ _ (IntsAre.cons _ _ (IntsAre.cons _ _ (IntsAre.cons _ _ (IntsAre.cons _ _ (IntsAre.cons _ _ (IntsAre.cons _ _ (IntsAre.cons _ _ IntsAre.nil))))))) | exact IntsAre.append (by l_ints) (IntsAre.cons _ _ IntsAre.nil)))
  k_with "call ref" => ((k_here; k_dflt ((refine' con_use (zprest2_c _ _ _ _ _ ?hok_q7) ?k1_q7 ?k2_q7 ?k3_q7 ?k4_q7 ?k5_q7 ?kK_q7 ?kd_q7 ?ku_q7 ?kp_q7 ?_; (case kp_q7 => exact ⟨hasL_of (by is_list) (by l_ints), hasL_of (by is_list) (by l_ints)⟩); (case hok_q7 => first | assumption | (subst_vars; assumption)); (case k1_q7 => k_asm); (case k2_q7 => k_asm); (case k3_q7 => k_asm); (case k4_q7 => k_asm); (case k5_q7 => k_asm); (case kK_q7 => first | exact rfl | assumption); (case kd_q7 => ktr_room); (case ku_q7 => ktr_units); k_whole); intro l' vs' n' h' tk' F' N' l1 I' e1; (replace l1 := Apt.of l1); (obtain ⟨d9, I9, e9⟩ := ints_hide I'); clear I' e1; (have b9 := le_rest e9); (try simp only [List.length_cons, List.length_nil] at b9); (try k_sweep))))
  k_with "call ref" => ((k_here; k_dflt ((refine' con_use (zdivided_c _ _ _ _ _ ?hz_q7 ?h0_q7 ?hb_q7) ?k1_q7 ?k2_q7 ?k3_q7 ?k4_q7 ?k5_q7 ?kK_q7 ?kd_q7 ?ku_q7 ?kp_q7 ?_; (case kp_q7 => exact hasL_of (by is_list) (by l_ints)); (case hz_q7 => ktf_step); (case h0_q7 => first | assumption | omega); (case hb_q7 => first | assumption | exact ⟨by omega, by omega⟩); (case k1_q7 => k_asm); (case k2_q7 => k_asm); (case k3_q7 => k_asm); (case k4_q7 => k_asm); (case k5_q7 => k_asm); (case kK_q7 => first | exact rfl | assumption); (case kd_q7 => ktr_room); (case ku_q7 => ktr_units); k_whole); intro l' vs' n' h' tk' F' N' l1 I' e1; (replace l1 := Apt.of l1); (obtain ⟨d9, I9, e9⟩ := ints_hide I'); clear I' e1; (have b9 := le_div e9); (try simp only [List.length_cons, List.length_nil] at b9); (try k_sweep))))
  k_with "call ref" => ((k_here; k_dflt ((refine' con_use (zlead_c _ _ _ ?hz_q7) ?k1_q7 ?k2_q7 ?k3_q7 ?k4_q7 ?k5_q7 ?kK_q7 ?kd_q7 ?ku_q7 ?kp_q7 ?_; (case kp_q7 => exact hasL_of (by is_list) (by l_ints)); (case hz_q7 => ktf_step); (case k1_q7 => k_asm); (case k2_q7 => k_asm); (case k3_q7 => k_asm); (case k4_q7 => k_asm); (case k5_q7 => k_asm); (case kK_q7 => first | exact rfl | assumption); (case kd_q7 => ktr_room); (case ku_q7 => ktr_units); k_whole); intro t' h' tk' F' N'; (try k_sweep))))
  k_with "call ref" => ((k_here; k_dflt ((refine' con_use (nheight_c _ _ _ _ _ _ _ ?hs_q7 ?hh_q7 ?hf_q7) ?k1_q7 ?k2_q7 ?k3_q7 ?k4_q7 ?k5_q7 ?kK_q7 ?kd_q7 ?ku_q7 ?kp_q7 ?_; (case kp_q7 => exact trivial); (case hs_q7 => ktf_step); (case hh_q7 => first | assumption | exact ⟨by omega, by omega⟩); (case hf_q7 => first | assumption | exact ⟨by omega, by omega⟩); (case k1_q7 => k_asm); (case k2_q7 => k_asm); (case k3_q7 => k_asm); (case k4_q7 => k_asm); (case k5_q7 => k_asm); (case kK_q7 => first | exact rfl | assumption); (case kd_q7 => ktr_room); (case ku_q7 => ktr_units); k_whole); intro t' h' tk' F' N'; (try k_sweep))))
  unfold Con
  k_fill
  intro dp un gd cn cs aa ccd cl outer A₀ base h₀ L m news s Q E mean mg mb B F X N T hk hd hu hpre hret
  obtain ⟨vs, hl, hi⟩ := hpre
  refine wpAny_call ?_
  k_dflt ktd_step
  k_steps
  exact rint_end hret (by assumption) (by assumption) rfl

end
section
-- needs: C20 C13 C12
def okGcd (a b : List Int) : Bool := decide (a.length = 3) && decide (b.length = 2) && decide (0 < contentP a ∧ contentP a < 2 ^ 30) && decide (0 < contentP b ∧ contentP b < 2 ^ 30) && okPs (primP a) (primP b) && decide ((restP (primP a) (primP b)).length = 1)
theorem okGcd_of {a b : List Int} (h : okGcd a b = true) : a.length = 3 ∧ b.length = 2 ∧ (0 < contentP a ∧ contentP a < 2 ^ 30) ∧ (0 < contentP b ∧ contentP b < 2 ^ 30) ∧ okPs (primP a) (primP b) = true ∧ (restP (primP a) (primP b)).length = 1 := by
  unfold okGcd at h
  simp only [Bool.and_eq_true, decide_eq_true_eq] at h
  exact ⟨h.1.1.1.1.1, h.1.1.1.1.2, h.1.1.1.2, h.1.1.2, h.1.2, h.2⟩
theorem zgcd_c (w : World) (la lb : Addr) (a b : List Int) (h : okGcd a b = true) : Con w 30 197 [.ref la, .ref lb] (fun h => HasL la a h ∧ HasL lb b h) (RList [((Int.gcd (contentP a) (contentP b) : Nat) : Int)]) := by
  w_top off
  k_with_none
  k_with "ktd_step" => (first | (refine' code_defG ?k1_q7 ?k2_q7 ?k3_q7 ?k4_q7 ?k5_q7 ?kA_q7 ?kF_q7 ?kK_q7 ?k6_q7 ?k7_q7 ?k8_q7 ?k9_q7 ?kB_q7 ?_ ?c2_q7 ?c3_q7 ?c4_q7 ?c5_q7; (case kA_q7 => exact rfl); (case kF_q7 => exact rfl); (case kK_q7 => assumption); (case k1_q7 => k_asm); (case k2_q7 => k_asm); (case k3_q7 => k_asm); (case k4_q7 => k_asm); (case k5_q7 => k_asm); (case k6_q7 => k_is); (case k7_q7 => k_is); (case k8_q7 => ktr_room); (case k9_q7 => exact BindsTo.of_eq rfl); (case c5_q7 => decide); (case kB_q7 => exact locs rfl); (case c2_q7 => exact rfl); (case c3_q7 => exact rfl); (case c4_q7 => exact rfl); k_whole; intro L' h' F' N' B' X' T'; (try dsimp only); (try k_fold)) | (refine' code_defGC ?k1_q7 ?k2_q7 ?k3_q7 ?k4_q7 ?k5_q7 ?kA_q7 ?kF_q7 ?kK_q7 ?k6_q7 ?k7_q7 ?k8_q7 ?k9_q7 ?kB_q7 ?kD_q7 ?_ ?c2_q7 ?c3_q7 ?c4_q7; (case kA_q7 => exact rfl); (case kF_q7 => exact rfl); (case kK_q7 => assumption); (case k1_q7 => k_asm); (case k2_q7 => k_asm); (case k3_q7 => k_asm); (case k4_q7 => k_asm); (case k5_q7 => k_asm); (case k6_q7 => k_is); (case k7_q7 => k_is); (case k8_q7 => ktr_room); (case k9_q7 => exact BindsTo.of_eq rfl); (case kB_q7 => exact rfl); (case kD_q7 => decide +kernel); (case c2_q7 => exact rfl); (case c3_q7 => exact rfl); (case c4_q7 => exact rfl); k_whole; intro L' h' tk' cells' F' N' Y' B' X' T'; k_cells Y'; (try dsimp only); (try k_fold)) | fail "step: no entry")
  k_with "ktr_step" => ((refine rlist_end (by assumption) (by assumption) (by assumption) (by assumption) (by assumption) (by assumption) List.mem_cons_self (by assumption) ?_))
  k_with "ktn_step" => ((refine rlist_end (vs := []) (by assumption) (by assumption) (by assumption) (by assumption) (by assumption) (by assumption) List.mem_cons_self IntsAre.nil ?_))
  k_with "ktf_step" => (first | assumption | exact lt_wid (by with_reducible assumption) (by k_dflt (exact rfl)) | k_dflt (exact Nat.le_of_ble_eq_true rfl) | l_fit)
  k_with "exec While Compare cons nil" => ((k_extra "while"))
  k_with "k_ne" => ((refine neN ?_; (try dsimp only); first | exact Apt.use (by assumption) (by k_mem) | exact Ne.symm (Apt.use (by assumption) (by k_mem)) | ((with_reducible rename (@Ne Nat _ _ ∧ _) ∧ _ => q9); first | with_reducible exact q9.1.1 | with_reducible exact Ne.symm q9.1.1 | with_reducible exact q9.1.2.1 | with_reducible exact Ne.symm q9.1.2.1 | with_reducible exact q9.1.2.2 | with_reducible exact Ne.symm q9.1.2.2 | with_reducible exact q9.1 | with_reducible exact Ne.symm q9.1 | with_reducible exact q9.2.1 | with_reducible exact Ne.symm q9.2.1 | with_reducible exact q9.2.2 | with_reducible exact Ne.symm q9.2.2 | with_reducible exact q9.2.1.1 | with_reducible exact Ne.symm q9.2.1.1 | with_reducible exact q9.2.1.2.1 | with_reducible exact Ne.symm q9.2.1.2.1 | with_reducible exact q9.2.1.2.2 | with_reducible exact Ne.symm q9.2.1.2.2 | with_reducible exact q9.2.2.1 | with_reducible exact Ne.symm q9.2.2.1 | with_reducible exact q9.2.2.2 | with_reducible exact Ne.symm q9.2.2.2 | with_reducible exact q9.2.2.1.1 | with_reducible exact Ne.symm q9.2.2.1.1 | with_reducible exact q9.2.2.1.2.1 | with_reducible exact Ne.symm q9.2.2.1.2.1 | with_reducible exact q9.2.2.1.2.2 | with_reducible exact Ne.symm q9.2.2.1.2.2 | with_reducible exact q9.2.2.2.1 | with_reducible exact Ne.symm q9.2.2.2.1 | with_reducible exact q9.2.2.2.2 | with_reducible exact Ne.symm q9.2.2.2.2 | with_reducible exact q9.2.2.2.1.1 | with_reducible exact Ne.symm q9.2.2.2.1.1 | with_reducible exact q9.2.2.2.1.2.1 | with_reducible exact Ne.symm q9.2.2.2.1.2.1 | with_reducible exact q9.2.2.2.1.2.2 | with_reducible exact Ne.symm q9.2.2.2.1.2.2 | with_reducible exact q9.2.2.2.2.1 | with_reducible exact Ne.symm q9.2.2.2.2.1 | with_reducible exact q9.2.2.2.2.2 | with_reducible exact Ne.symm q9.2.2.2.2.2 | with_reducible exact q9.2.2.2.2.1.1 | with_reducible exact Ne.symm q9.2.2.2.2.1.1 | with_reducible exact q9.2.2.2.2.1.2.1 | with_reducible exact Ne.symm q9.2.2.2.2.1.2.1 | with_reducible exact q9.2.2.2.2.1.2.2 | with_reducible exact Ne.symm q9.2.2.2.2.1.2.2 | with_reducible exact q9.2.2.2.2.2.1 | with_reducible exact Ne.symm q9.2.2.2.2.2.1 | with_reducible exact q9.2.2.2.2.2.2 | with_reducible exact Ne.symm q9.2.2.2.2.2.2) | ((with_reducible rename @Ne Nat _ _ ∧ _ => q9); first | with_reducible exact q9.1 | with_reducible exact Ne.symm q9.1 | with_reducible exact q9.2.1 | with_reducible exact Ne.symm q9.2.1 | with_reducible exact q9.2.2 | with_reducible exact Ne.symm q9.2.2)))
  k_with "execs cons" => ((dsimp only))
  k_with "eval BinOp" => ((dsimp only))
  k_with "storeName" => ((dsimp only))
  k_with "ktr_room" => ((first | exact room_of (by with_reducible assumption) (by k_dflt (exact rfl)) | exact room_in (by with_reducible assumption)))
  k_with "ktr_units" => ((exact room_of (by with_reducible assumption) (by k_dflt (exact rfl))))
  k_with "omega" => ((first | (with_reducible assumption) | exact lt_wid (by with_reducible assumption) (by k_dflt (exact rfl)) | exact le_wid (by with_reducible assumption) (by k_dflt (exact rfl)) | (k_dflt (exact Nat.le_of_ble_eq_true rfl)) | exact ilt_wid (And.right (by with_reducible assumption)) (by k_dflt (exact rfl)) | exact igt_wid (And.left (by with_reducible assumption)) (by k_dflt (exact rfl)) | (k_dflt decide) | exact Apt.use (by with_reducible assumption) (by k_mem) | exact Ne.symm (Apt.use (by with_reducible assumption) (by k_mem)) | ((repeat ((with_reducible rename (@Ne Nat _ _ ∧ _) ∧ _ => q9); clear q9)); (repeat ((with_reducible rename @Ne Nat _ _ ∧ _ => q9); clear q9)); (try clear hu); (try clear hd); omega +splitNatSub)))
  k_with "ktf_step" => (first | assumption | exact lt_wid (by with_reducible assumption) (by k_dflt (exact rfl)) | k_dflt (exact Nat.le_of_ble_eq_true rfl) | l_fit | ((simp only [List.length_cons, List.length_nil]); omega) | (simp only [List.length_cons, List.length_nil, List.length_append]; first | done | omega) | exact Nat.le_refl _)
  k_with "ktr_rel" => (first | assumption | exact IsTup.keeps (by assumption) (Fr.keep (by assumption)) | exact News.isTup (by assumption) (by k_mem) | fail "no tuple")
  k_with "subscriptTail Name BinOp ref int" => (((with_reducible show wpAny _ _ (subscriptTail _ _ (Value.ref _) (Value.int _ _)) _ _ _); k_dflt (refine' item_list_ints ?k1_q7 ?k2_q7 ?k3_q7 ?k4_q7 ?k5_q7 ?_; (case k1_q7 => first | exact News.isList (by assumption) (by k_mem) | is_list); (case k2_q7 => assumption); (case k3_q7 => ((repeat ((with_reducible rename (@Ne Nat _ _ ∧ _) ∧ _ => q9); clear q9)); (repeat ((with_reducible rename @Ne Nat _ _ ∧ _ => q9); clear q9)); omega)); (case k4_q7 => ((repeat ((with_reducible rename (@Ne Nat _ _ ∧ _) ∧ _ => q9); clear q9)); (repeat ((with_reducible rename @Ne Nat _ _ ∧ _ => q9); clear q9)); omega)); (case k5_q7 => ((repeat ((with_reducible rename (@Ne Nat _ _ ∧ _) ∧ _ => q9); clear q9)); (repeat ((with_reducible rename @Ne Nat _ _ ∧ _ => q9); clear q9)); omega)); k_whole); intro _))
  k_with "subscriptTail Name Name ref int" => (((with_reducible show wpAny _ _ (subscriptTail _ _ (Value.ref _) (Value.int _ _)) _ _ _); k_dflt (refine' item_list_ints ?k1_q7 ?k2_q7 ?k3_q7 ?k4_q7 ?k5_q7 ?_; (case k1_q7 => first | exact News.isList (by assumption) (by k_mem) | is_list); (case k2_q7 => assumption); (case k3_q7 => ((repeat ((with_reducible rename (@Ne Nat _ _ ∧ _) ∧ _ => q9); clear q9)); (repeat ((with_reducible rename @Ne Nat _ _ ∧ _ => q9); clear q9)); omega)); (case k4_q7 => ((repeat ((with_reducible rename (@Ne Nat _ _ ∧ _) ∧ _ => q9); clear q9)); (repeat ((with_reducible rename @Ne Nat _ _ ∧ _ => q9); clear q9)); omega)); (case k5_q7 => ((repeat ((with_reducible rename (@Ne Nat _ _ ∧ _) ∧ _ => q9); clear q9)); (repeat ((with_reducible rename @Ne Nat _ _ ∧ _ => q9); clear q9)); omega)); k_whole); intro _))
  k_with "l_ints" => (k_dflt (first | assumption | exact IntsAre.nil | exact IntsAre.cons _ _ IntsAre.nil | exact IntsAre.cons _ _ (IntsAre.cons _ _ IntsAre.nil) | exact IntsAre.cons _ _ (IntsAre.cons _ _ (IntsAre.cons _ _ IntsAre.nil)) | exact IntsAre.cons _ _ (IntsAre.cons _ _ (IntsAre.cons _ _ (IntsAre.cons _ _ (IntsAre.cons _ _ (IntsAre.cons _ _ (IntsAre.cons _ _ (IntsAre.cons _ _ IntsAre.nil))))))) | exact IntsAre.append (by l_ints) (IntsAre.cons _ _ IntsAre.nil)))
  k_with "call ref" => ((k_here; k_dflt ((refine' con_use (zcontent_c _ _ _ ?hz_q7) ?k1_q7 ?k2_q7 ?k3_q7 ?k4_q7 ?k5_q7 ?kK_q7 ?kd_q7 ?ku_q7 ?kp_q7 ?_; (case kp_q7 => exact hasL_of (by is_list) (by l_ints)); (case hz_q7 => ktf_step); (case k1_q7 => k_asm); (case k2_q7 => k_asm); (case k3_q7 => k_asm); (case k4_q7 => k_asm); (case k5_q7 => k_asm); (case kK_q7 => first | exact rfl | assumption); (case kd_q7 => ktr_room); (case ku_q7 => ktr_units); k_whole); intro t' h' tk' F' N'; (try k_sweep))))
  k_with "call ref" => ((k_here; k_dflt ((refine' con_use (gcd_c _ _ _ _ _) ?k1_q7 ?k2_q7 ?k3_q7 ?k4_q7 ?k5_q7 ?kK_q7 ?kd_q7 ?ku_q7 ?kp_q7 ?_; (case kp_q7 => exact trivial); (case k1_q7 => k_asm); (case k2_q7 => k_asm); (case k3_q7 => k_asm); (case k4_q7 => k_asm); (case k5_q7 => k_asm); (case kK_q7 => first | exact rfl | assumption); (case kd_q7 => ktr_room); (case ku_q7 => ktr_units); k_whole); intro t' h' tk' F' N'; (try k_sweep))))
  k_with "call ref" => ((k_here; k_dflt ((refine' con_use (zprim_c _ _ _ ?hz_q7 ?h0_q7 ?hc_q7) ?k1_q7 ?k2_q7 ?k3_q7 ?k4_q7 ?k5_q7 ?kK_q7 ?kd_q7 ?ku_q7 ?kp_q7 ?_; (case kp_q7 => exact hasL_of (by is_list) (by l_ints)); (case hz_q7 => ktf_step); (case h0_q7 => ktf_step); (case hc_q7 => first | assumption | (subst_vars; assumption)); (case k1_q7 => k_asm); (case k2_q7 => k_asm); (case k3_q7 => k_asm); (case k4_q7 => k_asm); (case k5_q7 => k_asm); (case kK_q7 => first | exact rfl | assumption); (case kd_q7 => ktr_room); (case ku_q7 => ktr_units); k_whole); intro l' vs' n' h' tk' F' N' l1 I' e1; (replace l1 := Apt.of l1); (obtain ⟨d9, I9, e9⟩ := ints_hide I'); clear I' e1; (have b9 := le_prim e9); (try simp only [List.length_cons, List.length_nil] at b9); (try k_sweep))))
  k_with "call ref" => ((k_here; k_dflt ((refine' con_use (subres_c _ _ _ _ _ ?hok_q7 ?hb_q7 ?hr_q7) ?k1_q7 ?k2_q7 ?k3_q7 ?k4_q7 ?k5_q7 ?kK_q7 ?kd_q7 ?ku_q7 ?kp_q7 ?_; (case kp_q7 => exact ⟨hasL_of (by is_list) (by l_ints), hasL_of (by is_list) (by l_ints)⟩); (case hok_q7 => first | assumption | (subst_vars; assumption)); (case hb_q7 => ktf_step); (case hr_q7 => first | assumption | (subst_vars; assumption)); (case k1_q7 => k_asm); (case k2_q7 => k_asm); (case k3_q7 => k_asm); (case k4_q7 => k_asm); (case k5_q7 => k_asm); (case kK_q7 => first | exact rfl | assumption); (case kd_q7 => ktr_room); (case ku_q7 => ktr_units); k_whole); intro R' x0' x1' x2' vsr' nr' n2r' h' tk' F' N' lR l2' Ir er; (replace lR := Apt.of lR); (replace l2' := Apt.of l2'); (obtain ⟨d9, I9, e9⟩ := ints_hide Ir); (have b9 := (congrArg List.length e9).trans er); clear Ir er; (try k_sweep))))
  obtain ⟨ha3, hb2, hca, hcb, hok, hr1⟩ := okGcd_of h
  unfold Con
  k_fill
  intro dp un gd cn cs aa ccd cl outer A₀ base h₀ L m news s Q E mean mg mb B F X N T hk hd hu hpre hret
  obtain ⟨⟨vs, hl, hi⟩, ⟨vs2, hl2, hi2⟩⟩ := hpre
  refine wpAny_call ?_
  k_dflt ktd_step
  k_steps
  · exfalso; omega
  · exfalso; omega
  · exact rlist_end (vs := [_]) hret N (by assumption) (by assumption) (by assumption) (by assumption) List.mem_cons_self (IntsAre.cons _ _ IntsAre.nil) rfl
theorem le_one {d : List Int} {x : Int} (e : d = [x]) : d.length = 1 := by rw [e]; rfl

end
section
-- needs: C21 C17
theorem simple_c (w : World) (l : Addr) (f : List Int) (h : okGcd f (deriveP f) = true) : Con w 36 232 [.ref l] (HasL l f) (RSame l) := by
  w_top off
  k_with_none
  k_with "ktd_step" => (first | (refine' code_defG ?k1_q7 ?k2_q7 ?k3_q7 ?k4_q7 ?k5_q7 ?kA_q7 ?kF_q7 ?kK_q7 ?k6_q7 ?k7_q7 ?k8_q7 ?k9_q7 ?kB_q7 ?_ ?c2_q7 ?c3_q7 ?c4_q7 ?c5_q7; (case kA_q7 => exact rfl); (case kF_q7 => exact rfl); (case kK_q7 => assumption); (case k1_q7 => k_asm); (case k2_q7 => k_asm); (case k3_q7 => k_asm); (case k4_q7 => k_asm); (case k5_q7 => k_asm); (case k6_q7 => k_is); (case k7_q7 => k_is); (case k8_q7 => ktr_room); (case k9_q7 => exact BindsTo.of_eq rfl); (case c5_q7 => decide); (case kB_q7 => exact locs rfl); (case c2_q7 => exact rfl); (case c3_q7 => exact rfl); (case c4_q7 => exact rfl); k_whole; intro L' h' F' N' B' X' T'; (try dsimp only); (try k_fold)) | (refine' code_defGC ?k1_q7 ?k2_q7 ?k3_q7 ?k4_q7 ?k5_q7 ?kA_q7 ?kF_q7 ?kK_q7 ?k6_q7 ?k7_q7 ?k8_q7 ?k9_q7 ?kB_q7 ?kD_q7 ?_ ?c2_q7 ?c3_q7 ?c4_q7; (case kA_q7 => exact rfl); (case kF_q7 => exact rfl); (case kK_q7 => assumption); (case k1_q7 => k_asm); (case k2_q7 => k_asm); (case k3_q7 => k_asm); (case k4_q7 => k_asm); (case k5_q7 => k_asm); (case k6_q7 => k_is); (case k7_q7 => k_is); (case k8_q7 => ktr_room); (case k9_q7 => exact BindsTo.of_eq rfl); (case kB_q7 => exact rfl); (case kD_q7 => decide +kernel); (case c2_q7 => exact rfl); (case c3_q7 => exact rfl); (case c4_q7 => exact rfl); k_whole; intro L' h' tk' cells' F' N' Y' B' X' T'; k_cells Y'; (try dsimp only); (try k_fold)) | fail "step: no entry")
  k_with "ktr_step" => ((refine rlist_end (by assumption) (by assumption) (by assumption) (by assumption) (by assumption) (by assumption) List.mem_cons_self (by assumption) ?_))
  k_with "ktn_step" => ((refine rlist_end (vs := []) (by assumption) (by assumption) (by assumption) (by assumption) (by assumption) (by assumption) List.mem_cons_self IntsAre.nil ?_))
  k_with "ktf_step" => (first | assumption | exact lt_wid (by with_reducible assumption) (by k_dflt (exact rfl)) | k_dflt (exact Nat.le_of_ble_eq_true rfl) | l_fit)
  k_with "exec While Compare cons nil" => ((k_extra "while"))
  k_with "k_ne" => ((refine neN ?_; (try dsimp only); first | exact Apt.use (by assumption) (by k_mem) | exact Ne.symm (Apt.use (by assumption) (by k_mem)) | ((with_reducible rename (@Ne Nat _ _ ∧ _) ∧ _ => q9); first | with_reducible exact q9.1.1 | with_reducible exact Ne.symm q9.1.1 | with_reducible exact q9.1.2.1 | with_reducible exact Ne.symm q9.1.2.1 | with_reducible exact q9.1.2.2 | with_reducible exact Ne.symm q9.1.2.2 | with_reducible exact q9.1 | with_reducible exact Ne.symm q9.1 | with_reducible exact q9.2.1 | with_reducible exact Ne.symm q9.2.1 | with_reducible exact q9.2.2 | with_reducible exact Ne.symm q9.2.2 | with_reducible exact q9.2.1.1 | with_reducible exact Ne.symm q9.2.1.1 | with_reducible exact q9.2.1.2.1 | with_reducible exact Ne.symm q9.2.1.2.1 | with_reducible exact q9.2.1.2.2 | with_reducible exact Ne.symm q9.2.1.2.2 | with_reducible exact q9.2.2.1 | with_reducible exact Ne.symm q9.2.2.1 | with_reducible exact q9.2.2.2 | with_reducible exact Ne.symm q9.2.2.2 | with_reducible exact q9.2.2.1.1 | with_reducible exact Ne.symm q9.2.2.1.1 | with_reducible exact q9.2.2.1.2.1 | with_reducible exact Ne.symm q9.2.2.1.2.1 | with_reducible exact q9.2.2.1.2.2 | with_reducible exact Ne.symm q9.2.2.1.2.2 | with_reducible exact q9.2.2.2.1 | with_reducible exact Ne.symm q9.2.2.2.1 | with_reducible exact q9.2.2.2.2 | with_reducible exact Ne.symm q9.2.2.2.2 | with_reducible exact q9.2.2.2.1.1 | with_reducible exact Ne.symm q9.2.2.2.1.1 | with_reducible exact q9.2.2.2.1.2.1 | with_reducible exact Ne.symm q9.2.2.2.1.2.1 | with_reducible exact q9.2.2.2.1.2.2 | with_reducible exact Ne.symm q9.2.2.2.1.2.2 | with_reducible exact q9.2.2.2.2.1 | with_reducible exact Ne.symm q9.2.2.2.2.1 | with_reducible exact q9.2.2.2.2.2 | with_reducible exact Ne.symm q9.2.2.2.2.2 | with_reducible exact q9.2.2.2.2.1.1 | with_reducible exact Ne.symm q9.2.2.2.2.1.1 | with_reducible exact q9.2.2.2.2.1.2.1 | with_reducible exact Ne.symm q9.2.2.2.2.1.2.1 | with_reducible exact q9.2.2.2.2.1.2.2 | with_reducible exact Ne.symm q9.2.2.2.2.1.2.2 | with_reducible exact q9.2.2.2.2.2.1 | with_reducible exact Ne.symm q9.2.2.2.2.2.1 | with_reducible exact q9.2.2.2.2.2.2 | with_reducible exact Ne.symm q9.2.2.2.2.2.2) | ((with_reducible rename @Ne Nat _ _ ∧ _ => q9); first | with_reducible exact q9.1 | with_reducible exact Ne.symm q9.1 | with_reducible exact q9.2.1 | with_reducible exact Ne.symm q9.2.1 | with_reducible exact q9.2.2 | with_reducible exact Ne.symm q9.2.2)))
  k_with "execs cons" => ((dsimp only))
  k_with "eval BinOp" => ((dsimp only))
  k_with "storeName" => ((dsimp only))
  k_with "ktr_room" => ((first | exact room_of (by with_reducible assumption) (by k_dflt (exact rfl)) | exact room_in (by with_reducible assumption)))
  k_with "ktr_units" => ((exact room_of (by with_reducible assumption) (by k_dflt (exact rfl))))
  k_with "omega" => ((first | (with_reducible assumption) | exact lt_wid (by with_reducible assumption) (by k_dflt (exact rfl)) | exact le_wid (by with_reducible assumption) (by k_dflt (exact rfl)) | (k_dflt (exact Nat.le_of_ble_eq_true rfl)) | exact ilt_wid (And.right (by with_reducible assumption)) (by k_dflt (exact rfl)) | exact igt_wid (And.left (by with_reducible assumption)) (by k_dflt (exact rfl)) | (k_dflt decide) | exact Apt.use (by with_reducible assumption) (by k_mem) | exact Ne.symm (Apt.use (by with_reducible assumption) (by k_mem)) | ((repeat ((with_reducible rename (@Ne Nat _ _ ∧ _) ∧ _ => q9); clear q9)); (repeat ((with_reducible rename @Ne Nat _ _ ∧ _ => q9); clear q9)); (try clear hu); (try clear hd); omega +splitNatSub)))
  k_with "ktf_step" => (first | assumption | exact lt_wid (by with_reducible assumption) (by k_dflt (exact rfl)) | k_dflt (exact Nat.le_of_ble_eq_true rfl) | l_fit | ((simp only [List.length_cons, List.length_nil]); omega) | (simp only [List.length_cons, List.length_nil, List.length_append]; first | done | omega) | exact Nat.le_refl _)
  k_with "ktr_rel" => (first | assumption | exact IsTup.keeps (by assumption) (Fr.keep (by assumption)) | exact News.isTup (by assumption) (by k_mem) | fail "no tuple")
  k_with "subscriptTail Name BinOp ref int" => (((with_reducible show wpAny _ _ (subscriptTail _ _ (Value.ref _) (Value.int _ _)) _ _ _); k_dflt (refine' item_list_ints ?k1_q7 ?k2_q7 ?k3_q7 ?k4_q7 ?k5_q7 ?_; (case k1_q7 => first | exact News.isList (by assumption) (by k_mem) | is_list); (case k2_q7 => assumption); (case k3_q7 => ((repeat ((with_reducible rename (@Ne Nat _ _ ∧ _) ∧ _ => q9); clear q9)); (repeat ((with_reducible rename @Ne Nat _ _ ∧ _ => q9); clear q9)); omega)); (case k4_q7 => ((repeat ((with_reducible rename (@Ne Nat _ _ ∧ _) ∧ _ => q9); clear q9)); (repeat ((with_reducible rename @Ne Nat _ _ ∧ _ => q9); clear q9)); omega)); (case k5_q7 => ((repeat ((with_reducible rename (@Ne Nat _ _ ∧ _) ∧ _ => q9); clear q9)); (repeat ((with_reducible rename @Ne Nat _ _ ∧ _ => q9); clear q9)); omega)); k_whole); intro _))
  k_with "subscriptTail Name Name ref int" => (((with_reducible show wpAny _ _ (subscriptTail _ _ (Value.ref _) (Value.int _ _)) _ _ _); k_dflt (refine' item_list_ints ?k1_q7 ?k2_q7 ?k3_q7 ?k4_q7 ?k5_q7 ?_; (case k1_q7 => first | exact News.isList (by assumption) (by k_mem) | is_list); (case k2_q7 => assumption); (case k3_q7 => ((repeat ((with_reducible rename (@Ne Nat _ _ ∧ _) ∧ _ => q9); clear q9)); (repeat ((with_reducible rename @Ne Nat _ _ ∧ _ => q9); clear q9)); omega)); (case k4_q7 => ((repeat ((with_reducible rename (@Ne Nat _ _ ∧ _) ∧ _ => q9); clear q9)); (repeat ((with_reducible rename @Ne Nat _ _ ∧ _ => q9); clear q9)); omega)); (case k5_q7 => ((repeat ((with_reducible rename (@Ne Nat _ _ ∧ _) ∧ _ => q9); clear q9)); (repeat ((with_reducible rename @Ne Nat _ _ ∧ _ => q9); clear q9)); omega)); k_whole); intro _))
  k_with "l_ints" => (k_dflt (first | assumption | exact IntsAre.nil | exact IntsAre.cons _ _ IntsAre.nil | exact IntsAre.cons _ _ (IntsAre.cons _ _ IntsAre.nil) | exact IntsAre.cons _ _ (IntsAre.cons _ _ (IntsAre.cons _ _ IntsAre.nil)) | exact IntsAre.cons _ _ (IntsAre.cons _ _ (IntsAre.cons _ _ (IntsAre.cons _ _ (IntsAre.cons _ _ (IntsAre.cons _ _ (IntsAre.cons _ _ (IntsAre.cons _ _ IntsAre.nil))))))) | exact IntsAre.append (by l_ints) (IntsAre.cons _ _ IntsAre.nil)))
  k_with "call ref" => ((k_here; k_dflt ((refine' con_use (zgcd_c _ _ _ _ _ ?hok_q7) ?k1_q7 ?k2_q7 ?k3_q7 ?k4_q7 ?k5_q7 ?kK_q7 ?kd_q7 ?ku_q7 ?kp_q7 ?_; (case kp_q7 => exact ⟨hasL_of (by is_list) (by l_ints), hasL_of (by is_list) (by l_ints)⟩); (case hok_q7 => first | assumption | (subst_vars; assumption)); (case k1_q7 => k_asm); (case k2_q7 => k_asm); (case k3_q7 => k_asm); (case k4_q7 => k_asm); (case k5_q7 => k_asm); (case kK_q7 => first | exact rfl | assumption); (case kd_q7 => ktr_room); (case ku_q7 => ktr_units); k_whole); intro l' vs' n' h' tk' F' N' l1 I' e1; (replace l1 := Apt.of l1); (obtain ⟨d9, I9, e9⟩ := ints_hide I'); clear I' e1; (have b9 := le_one e9); (try simp only [List.length_cons, List.length_nil] at b9); (try k_sweep))))
  k_with "call ref" => ((k_here; k_dflt ((refine' con_use (zderive_c _ _ _ ?hz_q7) ?k1_q7 ?k2_q7 ?k3_q7 ?k4_q7 ?k5_q7 ?kK_q7 ?kd_q7 ?ku_q7 ?kp_q7 ?_; (case kp_q7 => exact hasL_of (by is_list) (by l_ints)); (case hz_q7 => ktf_step); (case k1_q7 => k_asm); (case k2_q7 => k_asm); (case k3_q7 => k_asm); (case k4_q7 => k_asm); (case k5_q7 => k_asm); (case kK_q7 => first | exact rfl | assumption); (case kd_q7 => ktr_room); (case ku_q7 => ktr_units); k_whole); intro l' vs' n' h' tk' F' N' l1 I' e1; (replace l1 := Apt.of l1); (obtain ⟨d9, I9, e9⟩ := ints_hide I'); clear I' e1; (have b9 := le_derive e9); (try simp only [List.length_cons, List.length_nil] at b9); (try k_sweep))))
  k_with "call ref" => ((k_here; k_dflt ((refine' con_use (zdegree_c _ _ _ ?hz_q7) ?k1_q7 ?k2_q7 ?k3_q7 ?k4_q7 ?k5_q7 ?kK_q7 ?kd_q7 ?ku_q7 ?kp_q7 ?_; (case kp_q7 => exact hasL_of (by is_list) (by l_ints)); (case hz_q7 => ktf_step); (case k1_q7 => k_asm); (case k2_q7 => k_asm); (case k3_q7 => k_asm); (case k4_q7 => k_asm); (case k5_q7 => k_asm); (case kK_q7 => first | exact rfl | assumption); (case kd_q7 => ktr_room); (case ku_q7 => ktr_units); k_whole); intro t' h' tk' F' N'; (try k_sweep))))
  obtain ⟨ha3, _⟩ := okGcd_of h
  unfold Con
  k_fill
  intro dp un gd cn cs aa ccd cl outer A₀ base h₀ L m news s Q E mean mg mb B F X N T hk hd hu hpre hret
  obtain ⟨vs, hl, hi⟩ := hpre
  refine wpAny_call ?_
  k_dflt ktd_step
  k_steps
  exact hret _ _ (by assumption) (by assumption)

end
section
-- needs: C18 C20 C12
def okSt (f : List Int) : Bool := decide (f.length = 3) && okPs f (deriveP f) && decide (contentP (negP (restP f (deriveP f))) < 2 ^ 30) && decide ((nextP f (deriveP f)).length = 1) &&
  okPs (deriveP f) (nextP f (deriveP f)) && decide (contentP (negP (restP (deriveP f) (nextP f (deriveP f)))) < 2 ^ 30) && decide ((nextP (deriveP f) (nextP f (deriveP f))).length = 0)
theorem okSt_of {f : List Int} (h : okSt f = true) : f.length = 3 ∧ okPs f (deriveP f) = true ∧ contentP (negP (restP f (deriveP f))) < 2 ^ 30 ∧ (nextP f (deriveP f)).length = 1 ∧ okPs (deriveP f) (nextP f (deriveP f)) = true ∧
    contentP (negP (restP (deriveP f) (nextP f (deriveP f)))) < 2 ^ 30 ∧ (nextP (deriveP f) (nextP f (deriveP f))).length = 0 := by
  unfold okSt at h
  simp only [Bool.and_eq_true, decide_eq_true_eq] at h
  exact ⟨h.1.1.1.1.1.1, h.1.1.1.1.1.2, h.1.1.1.1.2, h.1.1.1.2, h.1.1.2, h.1.2, h.2⟩
def RSt (l : Addr) (r1 r2 : List Int) (h₀ : Heap) (L : Addr) (m : Str → Option Value) (news : List (Addr × Obj)) (s : Shared) (Q : Value → Shared → Prop) : Prop :=
  ∀ (R l1 l2 : Addr) (vs1 vs2 : List Value) (n n1 n2 : Nat) (h' : Heap) (tk' : Nat), Fr h₀ L h' m → News h₀ L h' ((R, listOf #[.ref l, .ref l1, .ref l2] n) :: (l1, listOf vs1.toArray n1) :: (l2, listOf vs2.toArray n2) :: news) →
    (∀ p ∈ news, p.1 ≠ R) → (∀ p ∈ news, p.1 ≠ l1) → (∀ p ∈ news, p.1 ≠ l2) → IntsAre vs1 r1 → IntsAre vs2 r2 → Q (.ref R) { s with heap := h', toks := tk' }
theorem st_end {h₀ h' : Heap} {L L' : Addr} {m : Str → Option Value} {news nx : List (Addr × Obj)} {s : Shared} {Q : Value → Shared → Prop} {R l l1 l2 : Addr} {vs1 vs2 : List Value} {n n1 n2 tk : Nat} {r1 r1' r2 r2' : List Int}
    (hret : RSt l r1 r2 h₀ L m news s Q) (N0 : News h₀ L s.heap news) (F : Fr h₀ L h' m) (N1 : News h₀ L h' news) (Nk : News h₀ L h' nx) (Ng : News s.heap L' h' nx)
    (hR : (R, listOf #[.ref l, .ref l1, .ref l2] n) ∈ nx) (h1 : (l1, listOf vs1.toArray n1) ∈ nx) (h2 : (l2, listOf vs2.toArray n2) ∈ nx) (hI1 : IntsAre vs1 r1') (hI2 : IntsAre vs2 r2') (e1 : r1' = r1) (e2 : r2' = r2) : Q (.ref R) { s with heap := h', toks := tk } := by
  subst e1
  subst e2
  refine hret R l1 l2 vs1 vs2 n n1 n2 h' tk F (fun p hp => ?_) (fresh_ne N0 Ng hR) (fresh_ne N0 Ng h1) (fresh_ne N0 Ng h2) hI1 hI2
  rcases List.mem_cons.mp hp with rfl | hp
  · exact Nk _ hR
  rcases List.mem_cons.mp hp with rfl | hp
  · exact Nk _ h1
  rcases List.mem_cons.mp hp with rfl | hp
  · exact Nk _ h2
  · exact N1 p hp
theorem ne_yes {d : List Int} (h : 0 < d.length) : (!decide (d = [])) = true := by
  cases d with
  | nil => cases h
  | cons a r => rfl
theorem ne_no {d : List Int} (h : d.length = 0) : (!decide (d = [])) = false := by
  cases d with
  | nil => rfl
  | cons a r => cases h
section
theorem sturm_c (w : World) (l : Addr) (f : List Int) (h : okSt f = true) : Con w 24 251 [.ref l] (HasL l f) (RSt l (deriveP f) (nextP f (deriveP f))) := by
  w_top off
  k_with_none
  k_with "ktd_step" => (first | (refine' code_defG ?k1_q7 ?k2_q7 ?k3_q7 ?k4_q7 ?k5_q7 ?kA_q7 ?kF_q7 ?kK_q7 ?k6_q7 ?k7_q7 ?k8_q7 ?k9_q7 ?kB_q7 ?_ ?c2_q7 ?c3_q7 ?c4_q7 ?c5_q7; (case kA_q7 => exact rfl); (case kF_q7 => exact rfl); (case kK_q7 => assumption); (case k1_q7 => k_asm); (case k2_q7 => k_asm); (case k3_q7 => k_asm); (case k4_q7 => k_asm); (case k5_q7 => k_asm); (case k6_q7 => k_is); (case k7_q7 => k_is); (case k8_q7 => ktr_room); (case k9_q7 => exact BindsTo.of_eq rfl); (case c5_q7 => decide); (case kB_q7 => exact locs rfl); (case c2_q7 => exact rfl); (case c3_q7 => exact rfl); (case c4_q7 => exact rfl); k_whole; intro L' h' F' N' B' X' T'; (try dsimp only); (try k_fold)) | (refine' code_defGC ?k1_q7 ?k2_q7 ?k3_q7 ?k4_q7 ?k5_q7 ?kA_q7 ?kF_q7 ?kK_q7 ?k6_q7 ?k7_q7 ?k8_q7 ?k9_q7 ?kB_q7 ?kD_q7 ?_ ?c2_q7 ?c3_q7 ?c4_q7; (case kA_q7 => exact rfl); (case kF_q7 => exact rfl); (case kK_q7 => assumption); (case k1_q7 => k_asm); (case k2_q7 => k_asm); (case k3_q7 => k_asm); (case k4_q7 => k_asm); (case k5_q7 => k_asm); (case k6_q7 => k_is); (case k7_q7 => k_is); (case k8_q7 => ktr_room); (case k9_q7 => exact BindsTo.of_eq rfl); (case kB_q7 => exact rfl); (case kD_q7 => decide +kernel); (case c2_q7 => exact rfl); (case c3_q7 => exact rfl); (case c4_q7 => exact rfl); k_whole; intro L' h' tk' cells' F' N' Y' B' X' T'; k_cells Y'; (try dsimp only); (try k_fold)) | fail "step: no entry")
  k_with "ktr_step" => ((refine rlist_end (by assumption) (by assumption) (by assumption) (by assumption) (by assumption) (by assumption) List.mem_cons_self (by assumption) ?_))
  k_with "ktn_step" => ((refine rlist_end (vs := []) (by assumption) (by assumption) (by assumption) (by assumption) (by assumption) (by assumption) List.mem_cons_self IntsAre.nil ?_))
  k_with "ktf_step" => (first | assumption | exact lt_wid (by with_reducible assumption) (by k_dflt (exact rfl)) | k_dflt (exact Nat.le_of_ble_eq_true rfl) | l_fit)
  k_with "exec While Compare cons nil" => ((k_extra "while"))
  k_with "k_ne" => ((refine neN ?_; (try dsimp only); first | exact Apt.use (by assumption) (by k_mem) | exact Ne.symm (Apt.use (by assumption) (by k_mem)) | ((with_reducible rename (@Ne Nat _ _ ∧ _) ∧ _ => q9); first | with_reducible exact q9.1.1 | with_reducible exact Ne.symm q9.1.1 | with_reducible exact q9.1.2.1 | with_reducible exact Ne.symm q9.1.2.1 | with_reducible exact q9.1.2.2 | with_reducible exact Ne.symm q9.1.2.2 | with_reducible exact q9.1 | with_reducible exact Ne.symm q9.1 | with_reducible exact q9.2.1 | with_reducible exact Ne.symm q9.2.1 | with_reducible exact q9.2.2 | with_reducible exact Ne.symm q9.2.2 | with_reducible exact q9.2.1.1 | with_reducible exact Ne.symm q9.2.1.1 | with_reducible exact q9.2.1.2.1 | with_reducible exact Ne.symm q9.2.1.2.1 | with_reducible exact q9.2.1.2.2 | with_reducible exact Ne.symm q9.2.1.2.2 | with_reducible exact q9.2.2.1 | with_reducible exact Ne.symm q9.2.2.1 | with_reducible exact q9.2.2.2 | with_reducible exact Ne.symm q9.2.2.2 | with_reducible exact q9.2.2.1.1 | with_reducible exact Ne.symm q9.2.2.1.1 | with_reducible exact q9.2.2.1.2.1 | with_reducible exact Ne.symm q9.2.2.1.2.1 | with_reducible exact q9.2.2.1.2.2 | with_reducible exact Ne.symm q9.2.2.1.2.2 | with_reducible exact q9.2.2.2.1 | with_reducible exact Ne.symm q9.2.2.2.1 | with_reducible exact q9.2.2.2.2 | with_reducible exact Ne.symm q9.2.2.2.2 | with_reducible exact q9.2.2.2.1.1 | with_reducible exact Ne.symm q9.2.2.2.1.1 | with_reducible exact q9.2.2.2.1.2.1 | with_reducible exact Ne.symm q9.2.2.2.1.2.1 | with_reducible exact q9.2.2.2.1.2.2 | with_reducible exact Ne.symm q9.2.2.2.1.2.2 | with_reducible exact q9.2.2.2.2.1 | with_reducible exact Ne.symm q9.2.2.2.2.1 | with_reducible exact q9.2.2.2.2.2 | with_reducible exact Ne.symm q9.2.2.2.2.2 | with_reducible exact q9.2.2.2.2.1.1 | with_reducible exact Ne.symm q9.2.2.2.2.1.1 | with_reducible exact q9.2.2.2.2.1.2.1 | with_reducible exact Ne.symm q9.2.2.2.2.1.2.1 | with_reducible exact q9.2.2.2.2.1.2.2 | with_reducible exact Ne.symm q9.2.2.2.2.1.2.2 | with_reducible exact q9.2.2.2.2.2.1 | with_reducible exact Ne.symm q9.2.2.2.2.2.1 | with_reducible exact q9.2.2.2.2.2.2 | with_reducible exact Ne.symm q9.2.2.2.2.2.2) | ((with_reducible rename @Ne Nat _ _ ∧ _ => q9); first | with_reducible exact q9.1 | with_reducible exact Ne.symm q9.1 | with_reducible exact q9.2.1 | with_reducible exact Ne.symm q9.2.1 | with_reducible exact q9.2.2 | with_reducible exact Ne.symm q9.2.2)))
  k_with "execs cons" => ((dsimp only))
  k_with "eval BinOp" => ((dsimp only))
  k_with "storeName" => ((dsimp only))
  k_with "ktr_room" => ((first | exact room_of (by with_reducible assumption) (by k_dflt (exact rfl)) | exact room_in (by with_reducible assumption)))
  k_with "ktr_units" => ((exact room_of (by with_reducible assumption) (by k_dflt (exact rfl))))
  k_with "omega" => ((first | (with_reducible assumption) | exact lt_wid (by with_reducible assumption) (by k_dflt (exact rfl)) | exact le_wid (by with_reducible assumption) (by k_dflt (exact rfl)) | (k_dflt (exact Nat.le_of_ble_eq_true rfl)) | exact ilt_wid (And.right (by with_reducible assumption)) (by k_dflt (exact rfl)) | exact igt_wid (And.left (by with_reducible assumption)) (by k_dflt (exact rfl)) | (k_dflt decide) | exact Apt.use (by with_reducible assumption) (by k_mem) | exact Ne.symm (Apt.use (by with_reducible assumption) (by k_mem)) | ((repeat ((with_reducible rename (@Ne Nat _ _ ∧ _) ∧ _ => q9); clear q9)); (repeat ((with_reducible rename @Ne Nat _ _ ∧ _ => q9); clear q9)); (try clear hu); (try clear hd); omega +splitNatSub)))
  k_with "ktf_step" => (first | assumption | exact lt_wid (by with_reducible assumption) (by k_dflt (exact rfl)) | k_dflt (exact Nat.le_of_ble_eq_true rfl) | l_fit | ((simp only [List.length_cons, List.length_nil]); omega) | (simp only [List.length_cons, List.length_nil, List.length_append]; first | done | omega) | exact Nat.le_refl _)
  k_with "ktr_rel" => (first | assumption | exact IsTup.keeps (by assumption) (Fr.keep (by assumption)) | exact News.isTup (by assumption) (by k_mem) | fail "no tuple")
  k_with "subscriptTail Name BinOp ref int" => (((with_reducible show wpAny _ _ (subscriptTail _ _ (Value.ref _) (Value.int _ _)) _ _ _); k_dflt (refine' item_list_ints ?k1_q7 ?k2_q7 ?k3_q7 ?k4_q7 ?k5_q7 ?_; (case k1_q7 => first | exact News.isList (by assumption) (by k_mem) | is_list); (case k2_q7 => assumption); (case k3_q7 => ((repeat ((with_reducible rename (@Ne Nat _ _ ∧ _) ∧ _ => q9); clear q9)); (repeat ((with_reducible rename @Ne Nat _ _ ∧ _ => q9); clear q9)); omega)); (case k4_q7 => ((repeat ((with_reducible rename (@Ne Nat _ _ ∧ _) ∧ _ => q9); clear q9)); (repeat ((with_reducible rename @Ne Nat _ _ ∧ _ => q9); clear q9)); omega)); (case k5_q7 => ((repeat ((with_reducible rename (@Ne Nat _ _ ∧ _) ∧ _ => q9); clear q9)); (repeat ((with_reducible rename @Ne Nat _ _ ∧ _ => q9); clear q9)); omega)); k_whole); intro _))
  k_with "subscriptTail Name Name ref int" => (((with_reducible show wpAny _ _ (subscriptTail _ _ (Value.ref _) (Value.int _ _)) _ _ _); k_dflt (refine' item_list_ints ?k1_q7 ?k2_q7 ?k3_q7 ?k4_q7 ?k5_q7 ?_; (case k1_q7 => first | exact News.isList (by assumption) (by k_mem) | is_list); (case k2_q7 => assumption); (case k3_q7 => ((repeat ((with_reducible rename (@Ne Nat _ _ ∧ _) ∧ _ => q9); clear q9)); (repeat ((with_reducible rename @Ne Nat _ _ ∧ _ => q9); clear q9)); omega)); (case k4_q7 => ((repeat ((with_reducible rename (@Ne Nat _ _ ∧ _) ∧ _ => q9); clear q9)); (repeat ((with_reducible rename @Ne Nat _ _ ∧ _ => q9); clear q9)); omega)); (case k5_q7 => ((repeat ((with_reducible rename (@Ne Nat _ _ ∧ _) ∧ _ => q9); clear q9)); (repeat ((with_reducible rename @Ne Nat _ _ ∧ _ => q9); clear q9)); omega)); k_whole); intro _))
  k_with "l_ints" => (k_dflt (first | assumption | exact IntsAre.nil | exact IntsAre.cons _ _ IntsAre.nil | exact IntsAre.cons _ _ (IntsAre.cons _ _ IntsAre.nil) | exact IntsAre.cons _ _ (IntsAre.cons _ _ (IntsAre.cons _ _ IntsAre.nil)) | exact IntsAre.cons _ _ (IntsAre.cons _ _ (IntsAre.cons _ _ (IntsAre.cons _ _ (IntsAre.cons _ _ (IntsAre.cons _ _ (IntsAre.cons _ _ (IntsAre.cons _ _ IntsAre.nil))))))) | exact IntsAre.append (by l_ints) (IntsAre.cons _ _ IntsAre.nil)))
  k_with "call ref" => ((k_here; k_dflt ((refine' con_use (zderive_c _ _ _ ?hz_q7) ?k1_q7 ?k2_q7 ?k3_q7 ?k4_q7 ?k5_q7 ?kK_q7 ?kd_q7 ?ku_q7 ?kp_q7 ?_; (case kp_q7 => exact hasL_of (by is_list) (by l_ints)); (case hz_q7 => ktf_step); (case k1_q7 => k_asm); (case k2_q7 => k_asm); (case k3_q7 => k_asm); (case k4_q7 => k_asm); (case k5_q7 => k_asm); (case kK_q7 => first | exact rfl | assumption); (case kd_q7 => ktr_room); (case ku_q7 => ktr_units); k_whole); intro l' vs' n' h' tk' F' N' l1 I' e1; (replace l1 := Apt.of l1); (obtain ⟨d9, I9, e9⟩ := ints_hide I'); clear I' e1; (have b9 := le_derive e9); (try simp only [List.length_cons, List.length_nil] at b9); (try k_sweep))))
  k_with "call ref" => ((k_here; k_dflt ((refine' con_use (next_c _ _ _ _ _ ?hok_q7 ?hc_q7) ?k1_q7 ?k2_q7 ?k3_q7 ?k4_q7 ?k5_q7 ?kK_q7 ?kd_q7 ?ku_q7 ?kp_q7 ?_; (case kp_q7 => exact ⟨hasL_of (by is_list) (by l_ints), hasL_of (by is_list) (by l_ints)⟩); (case hok_q7 => first | assumption | (subst_vars; assumption)); (case hc_q7 => first | assumption | (subst_vars; assumption)); (case k1_q7 => k_asm); (case k2_q7 => k_asm); (case k3_q7 => k_asm); (case k4_q7 => k_asm); (case k5_q7 => k_asm); (case kK_q7 => first | exact rfl | assumption); (case kd_q7 => ktr_room); (case ku_q7 => ktr_units); k_whole); intro l' vs' n' h' tk' F' N' l1 I' e1; (replace l1 := Apt.of l1); (obtain ⟨d9, I9, e9⟩ := ints_hide I'); clear I' e1; (have b9 := le_next e9); (try simp only [List.length_cons, List.length_nil] at b9); (try k_sweep))))
  k_with "WhlIf" => ((k_extra "whlif"))
  k_with "while" => k_dflt (refine whl_start 4 ?_)
  k_with "whlif" => first | (refine WhlIf.yes (ne_yes (by first | omega | (subst_vars; omega))) ?_) | (refine WhlIf.no (ne_no (by first | omega | (subst_vars; omega))) ?_)
  obtain ⟨h3, hok1, hc1, hl1, hok2, hc2, hl2⟩ := okSt_of h
  unfold Con
  k_fill
  intro dp un gd cn cs aa ccd cl outer A₀ base h₀ L m news s Q E mean mg mb B F X N T hk hd hu hpre hret
  obtain ⟨vs, hl, hi⟩ := hpre
  refine wpAny_call ?_
  k_dflt ktd_step
  k_steps
  rename News h₀ L _ ((_, _) :: (_, _) :: _) => Nk9
  rename News s.heap _ _ ((_, _) :: (_, _) :: _) => Ng9
  refine st_end hret N (by assumption) (by assumption) Nk9 Ng9 (by k_mem) (by k_mem) (by k_mem) (by assumption) (by assumption) ?_ ?_
  · subst_vars; rfl
  · subst_vars; rfl
end

end
section
-- needs: C10
theorem cbr_c (w : World) (r l0 l1 l2 x y : Addr) (p0 p1 p2 : List Int) (a b c e : Int) (hz0 : p0.length < 2 ^ 20) (hz1 : p1.length < 2 ^ 20) (hz2 : p2.length < 2 ^ 20) (hs0 : Small p0) (hs1 : Small p1) (hs2 : Small p2) (ha : -2 ^ 60 < a ∧ a < 2 ^ 60) (hb : -2 ^ 60 < b ∧ b < 2 ^ 60) (hc : -2 ^ 60 < c ∧ c < 2 ^ 60) (he : -2 ^ 60 < e ∧ e < 2 ^ 60) :
    Con w 15 263 [.ref r, .ref x, .ref y] (fun h => Row3 r l0 l1 l2 h ∧ HasL l0 p0 h ∧ HasL l1 p1 h ∧ HasL l2 p2 h ∧ HasT x a b h ∧ HasT y c e h) (RInt (chgP [vsP p0 a b, vsP p1 a b, vsP p2 a b] - chgP [vsP p0 c e, vsP p1 c e, vsP p2 c e])) := by
  w_top off
  k_with_none
  k_with "ktd_step" => (first | (refine' code_defG ?k1_q7 ?k2_q7 ?k3_q7 ?k4_q7 ?k5_q7 ?kA_q7 ?kF_q7 ?kK_q7 ?k6_q7 ?k7_q7 ?k8_q7 ?k9_q7 ?kB_q7 ?_ ?c2_q7 ?c3_q7 ?c4_q7 ?c5_q7; (case kA_q7 => exact rfl); (case kF_q7 => exact rfl); (case kK_q7 => assumption); (case k1_q7 => k_asm); (case k2_q7 => k_asm); (case k3_q7 => k_asm); (case k4_q7 => k_asm); (case k5_q7 => k_asm); (case k6_q7 => k_is); (case k7_q7 => k_is); (case k8_q7 => ktr_room); (case k9_q7 => exact BindsTo.of_eq rfl); (case c5_q7 => decide); (case kB_q7 => exact locs rfl); (case c2_q7 => exact rfl); (case c3_q7 => exact rfl); (case c4_q7 => exact rfl); k_whole; intro L' h' F' N' B' X' T'; (try dsimp only); (try k_fold)) | (refine' code_defGC ?k1_q7 ?k2_q7 ?k3_q7 ?k4_q7 ?k5_q7 ?kA_q7 ?kF_q7 ?kK_q7 ?k6_q7 ?k7_q7 ?k8_q7 ?k9_q7 ?kB_q7 ?kD_q7 ?_ ?c2_q7 ?c3_q7 ?c4_q7; (case kA_q7 => exact rfl); (case kF_q7 => exact rfl); (case kK_q7 => assumption); (case k1_q7 => k_asm); (case k2_q7 => k_asm); (case k3_q7 => k_asm); (case k4_q7 => k_asm); (case k5_q7 => k_asm); (case k6_q7 => k_is); (case k7_q7 => k_is); (case k8_q7 => ktr_room); (case k9_q7 => exact BindsTo.of_eq rfl); (case kB_q7 => exact rfl); (case kD_q7 => decide +kernel); (case c2_q7 => exact rfl); (case c3_q7 => exact rfl); (case c4_q7 => exact rfl); k_whole; intro L' h' tk' cells' F' N' Y' B' X' T'; k_cells Y'; (try dsimp only); (try k_fold)) | fail "step: no entry")
  k_with "ktr_step" => ((refine rlist_end (by assumption) (by assumption) (by assumption) (by assumption) (by assumption) (by assumption) List.mem_cons_self (by assumption) ?_))
  k_with "ktn_step" => ((refine rlist_end (vs := []) (by assumption) (by assumption) (by assumption) (by assumption) (by assumption) (by assumption) List.mem_cons_self IntsAre.nil ?_))
  k_with "ktf_step" => (first | assumption | exact lt_wid (by with_reducible assumption) (by k_dflt (exact rfl)) | k_dflt (exact Nat.le_of_ble_eq_true rfl) | l_fit)
  k_with "exec While Compare cons nil" => ((k_extra "while"))
  k_with "k_ne" => ((refine neN ?_; (try dsimp only); first | exact Apt.use (by assumption) (by k_mem) | exact Ne.symm (Apt.use (by assumption) (by k_mem)) | ((with_reducible rename (@Ne Nat _ _ ∧ _) ∧ _ => q9); first | with_reducible exact q9.1.1 | with_reducible exact Ne.symm q9.1.1 | with_reducible exact q9.1.2.1 | with_reducible exact Ne.symm q9.1.2.1 | with_reducible exact q9.1.2.2 | with_reducible exact Ne.symm q9.1.2.2 | with_reducible exact q9.1 | with_reducible exact Ne.symm q9.1 | with_reducible exact q9.2.1 | with_reducible exact Ne.symm q9.2.1 | with_reducible exact q9.2.2 | with_reducible exact Ne.symm q9.2.2 | with_reducible exact q9.2.1.1 | with_reducible exact Ne.symm q9.2.1.1 | with_reducible exact q9.2.1.2.1 | with_reducible exact Ne.symm q9.2.1.2.1 | with_reducible exact q9.2.1.2.2 | with_reducible exact Ne.symm q9.2.1.2.2 | with_reducible exact q9.2.2.1 | with_reducible exact Ne.symm q9.2.2.1 | with_reducible exact q9.2.2.2 | with_reducible exact Ne.symm q9.2.2.2 | with_reducible exact q9.2.2.1.1 | with_reducible exact Ne.symm q9.2.2.1.1 | with_reducible exact q9.2.2.1.2.1 | with_reducible exact Ne.symm q9.2.2.1.2.1 | with_reducible exact q9.2.2.1.2.2 | with_reducible exact Ne.symm q9.2.2.1.2.2 | with_reducible exact q9.2.2.2.1 | with_reducible exact Ne.symm q9.2.2.2.1 | with_reducible exact q9.2.2.2.2 | with_reducible exact Ne.symm q9.2.2.2.2 | with_reducible exact q9.2.2.2.1.1 | with_reducible exact Ne.symm q9.2.2.2.1.1 | with_reducible exact q9.2.2.2.1.2.1 | with_reducible exact Ne.symm q9.2.2.2.1.2.1 | with_reducible exact q9.2.2.2.1.2.2 | with_reducible exact Ne.symm q9.2.2.2.1.2.2 | with_reducible exact q9.2.2.2.2.1 | with_reducible exact Ne.symm q9.2.2.2.2.1 | with_reducible exact q9.2.2.2.2.2 | with_reducible exact Ne.symm q9.2.2.2.2.2 | with_reducible exact q9.2.2.2.2.1.1 | with_reducible exact Ne.symm q9.2.2.2.2.1.1 | with_reducible exact q9.2.2.2.2.1.2.1 | with_reducible exact Ne.symm q9.2.2.2.2.1.2.1 | with_reducible exact q9.2.2.2.2.1.2.2 | with_reducible exact Ne.symm q9.2.2.2.2.1.2.2 | with_reducible exact q9.2.2.2.2.2.1 | with_reducible exact Ne.symm q9.2.2.2.2.2.1 | with_reducible exact q9.2.2.2.2.2.2 | with_reducible exact Ne.symm q9.2.2.2.2.2.2) | ((with_reducible rename @Ne Nat _ _ ∧ _ => q9); first | with_reducible exact q9.1 | with_reducible exact Ne.symm q9.1 | with_reducible exact q9.2.1 | with_reducible exact Ne.symm q9.2.1 | with_reducible exact q9.2.2 | with_reducible exact Ne.symm q9.2.2)))
  k_with "execs cons" => ((dsimp only))
  k_with "eval BinOp" => ((dsimp only))
  k_with "storeName" => ((dsimp only))
  k_with "ktr_room" => ((first | exact room_of (by with_reducible assumption) (by k_dflt (exact rfl)) | exact room_in (by with_reducible assumption)))
  k_with "ktr_units" => ((exact room_of (by with_reducible assumption) (by k_dflt (exact rfl))))
  k_with "omega" => ((first | (with_reducible assumption) | exact lt_wid (by with_reducible assumption) (by k_dflt (exact rfl)) | exact le_wid (by with_reducible assumption) (by k_dflt (exact rfl)) | (k_dflt (exact Nat.le_of_ble_eq_true rfl)) | exact ilt_wid (And.right (by with_reducible assumption)) (by k_dflt (exact rfl)) | exact igt_wid (And.left (by with_reducible assumption)) (by k_dflt (exact rfl)) | (k_dflt decide) | exact Apt.use (by with_reducible assumption) (by k_mem) | exact Ne.symm (Apt.use (by with_reducible assumption) (by k_mem)) | ((repeat ((with_reducible rename (@Ne Nat _ _ ∧ _) ∧ _ => q9); clear q9)); (repeat ((with_reducible rename @Ne Nat _ _ ∧ _ => q9); clear q9)); (try clear hu); (try clear hd); omega +splitNatSub)))
  k_with "ktf_step" => (first | assumption | exact lt_wid (by with_reducible assumption) (by k_dflt (exact rfl)) | k_dflt (exact Nat.le_of_ble_eq_true rfl) | l_fit | ((simp only [List.length_cons, List.length_nil]); omega) | (simp only [List.length_cons, List.length_nil, List.length_append]; first | done | omega) | exact Nat.le_refl _)
  k_with "ktr_rel" => (first | assumption | exact IsTup.keeps (by assumption) (Fr.keep (by assumption)) | exact News.isTup (by assumption) (by k_mem) | fail "no tuple")
  k_with "subscriptTail Name BinOp ref int" => (((with_reducible show wpAny _ _ (subscriptTail _ _ (Value.ref _) (Value.int _ _)) _ _ _); k_dflt (refine' item_list_ints ?k1_q7 ?k2_q7 ?k3_q7 ?k4_q7 ?k5_q7 ?_; (case k1_q7 => first | exact News.isList (by assumption) (by k_mem) | is_list); (case k2_q7 => assumption); (case k3_q7 => ((repeat ((with_reducible rename (@Ne Nat _ _ ∧ _) ∧ _ => q9); clear q9)); (repeat ((with_reducible rename @Ne Nat _ _ ∧ _ => q9); clear q9)); omega)); (case k4_q7 => ((repeat ((with_reducible rename (@Ne Nat _ _ ∧ _) ∧ _ => q9); clear q9)); (repeat ((with_reducible rename @Ne Nat _ _ ∧ _ => q9); clear q9)); omega)); (case k5_q7 => ((repeat ((with_reducible rename (@Ne Nat _ _ ∧ _) ∧ _ => q9); clear q9)); (repeat ((with_reducible rename @Ne Nat _ _ ∧ _ => q9); clear q9)); omega)); k_whole); intro _))
  k_with "subscriptTail Name Name ref int" => (((with_reducible show wpAny _ _ (subscriptTail _ _ (Value.ref _) (Value.int _ _)) _ _ _); k_dflt (refine' item_list_ints ?k1_q7 ?k2_q7 ?k3_q7 ?k4_q7 ?k5_q7 ?_; (case k1_q7 => first | exact News.isList (by assumption) (by k_mem) | is_list); (case k2_q7 => assumption); (case k3_q7 => ((repeat ((with_reducible rename (@Ne Nat _ _ ∧ _) ∧ _ => q9); clear q9)); (repeat ((with_reducible rename @Ne Nat _ _ ∧ _ => q9); clear q9)); omega)); (case k4_q7 => ((repeat ((with_reducible rename (@Ne Nat _ _ ∧ _) ∧ _ => q9); clear q9)); (repeat ((with_reducible rename @Ne Nat _ _ ∧ _ => q9); clear q9)); omega)); (case k5_q7 => ((repeat ((with_reducible rename (@Ne Nat _ _ ∧ _) ∧ _ => q9); clear q9)); (repeat ((with_reducible rename @Ne Nat _ _ ∧ _ => q9); clear q9)); omega)); k_whole); intro _))
  k_with "l_ints" => (k_dflt (first | assumption | exact IntsAre.nil | exact IntsAre.cons _ _ IntsAre.nil | exact IntsAre.cons _ _ (IntsAre.cons _ _ IntsAre.nil) | exact IntsAre.cons _ _ (IntsAre.cons _ _ (IntsAre.cons _ _ IntsAre.nil)) | exact IntsAre.cons _ _ (IntsAre.cons _ _ (IntsAre.cons _ _ (IntsAre.cons _ _ (IntsAre.cons _ _ (IntsAre.cons _ _ (IntsAre.cons _ _ (IntsAre.cons _ _ IntsAre.nil))))))) | exact IntsAre.append (by l_ints) (IntsAre.cons _ _ IntsAre.nil)))
  k_with "call ref" => ((k_here; k_dflt ((refine' con_use (changes_c _ _ _ _ _ _ _ _ _ _ _ ?h0_q7 ?h1_q7 ?h2_q7 ?s0_q7 ?s1_q7 ?s2_q7 ?ha_q7 ?hb_q7) ?k1_q7 ?k2_q7 ?k3_q7 ?k4_q7 ?k5_q7 ?kK_q7 ?kd_q7 ?ku_q7 ?kp_q7 ?_; (case kp_q7 => exact ⟨(by is_list : Heap.IsList _ _ _), hasL_of (by is_list) (by l_ints), hasL_of (by is_list) (by l_ints), hasL_of (by is_list) (by l_ints), ⟨_, _, by ktr_rel⟩⟩); (case h0_q7 => ktf_step); (case h1_q7 => ktf_step); (case h2_q7 => ktf_step); (case s0_q7 => assumption); (case s1_q7 => assumption); (case s2_q7 => assumption); (case ha_q7 => assumption); (case hb_q7 => assumption); (case k1_q7 => k_asm); (case k2_q7 => k_asm); (case k3_q7 => k_asm); (case k4_q7 => k_asm); (case k5_q7 => k_asm); (case kK_q7 => first | exact rfl | assumption); (case kd_q7 => ktr_room); (case ku_q7 => ktr_units); k_whole); intro t' h' tk' F' N'; (try k_sweep))))
  unfold Con
  k_fill
  intro dp un gd cn cs aa ccd cl outer A₀ base h₀ L m news s Q E mean mg mb B F X N T hk hd hu hpre hret
  obtain ⟨hr, ⟨vs0, hl0, hi0⟩, ⟨vs1, hl1, hi1⟩, ⟨vs2, hl2, hi2⟩, ⟨t9, u9, hx⟩, ⟨t8, u8, hy⟩⟩ := hpre
  refine wpAny_call ?_
  k_dflt ktd_step
  k_steps
  exact rint_end hret (by assumption) (by assumption) rfl

end
section
-- needs: C24 C22 C23
def cntP (f : List Int) (a b c e : Int) : Int := chgP [vsP f a b, vsP (deriveP f) a b, vsP (nextP f (deriveP f)) a b] - chgP [vsP f c e, vsP (deriveP f) c e, vsP (nextP f (deriveP f)) c e]
theorem roots_c (w : World) (l x y : Addr) (f : List Int) (a b c e : Int) (hg : okGcd f (deriveP f) = true) (hst : okSt f = true) (hs0 : Small f) (hs1 : Small (deriveP f)) (hs2 : Small (nextP f (deriveP f))) (ha : -2 ^ 60 < a ∧ a < 2 ^ 60) (hb : -2 ^ 60 < b ∧ b < 2 ^ 60) (hc : -2 ^ 60 < c ∧ c < 2 ^ 60) (he : -2 ^ 60 < e ∧ e < 2 ^ 60) :
    Con w 39 270 [.ref l, .ref x, .ref y] (fun h => HasL l f h ∧ HasT x a b h ∧ HasT y c e h) (RInt (cntP f a b c e)) := by
  w_top off
  k_with_none
  k_with "ktd_step" => (first | (refine' code_defG ?k1_q7 ?k2_q7 ?k3_q7 ?k4_q7 ?k5_q7 ?kA_q7 ?kF_q7 ?kK_q7 ?k6_q7 ?k7_q7 ?k8_q7 ?k9_q7 ?kB_q7 ?_ ?c2_q7 ?c3_q7 ?c4_q7 ?c5_q7; (case kA_q7 => exact rfl); (case kF_q7 => exact rfl); (case kK_q7 => assumption); (case k1_q7 => k_asm); (case k2_q7 => k_asm); (case k3_q7 => k_asm); (case k4_q7 => k_asm); (case k5_q7 => k_asm); (case k6_q7 => k_is); (case k7_q7 => k_is); (case k8_q7 => ktr_room); (case k9_q7 => exact BindsTo.of_eq rfl); (case c5_q7 => decide); (case kB_q7 => exact locs rfl); (case c2_q7 => exact rfl); (case c3_q7 => exact rfl); (case c4_q7 => exact rfl); k_whole; intro L' h' F' N' B' X' T'; (try dsimp only); (try k_fold)) | (refine' code_defGC ?k1_q7 ?k2_q7 ?k3_q7 ?k4_q7 ?k5_q7 ?kA_q7 ?kF_q7 ?kK_q7 ?k6_q7 ?k7_q7 ?k8_q7 ?k9_q7 ?kB_q7 ?kD_q7 ?_ ?c2_q7 ?c3_q7 ?c4_q7; (case kA_q7 => exact rfl); (case kF_q7 => exact rfl); (case kK_q7 => assumption); (case k1_q7 => k_asm); (case k2_q7 => k_asm); (case k3_q7 => k_asm); (case k4_q7 => k_asm); (case k5_q7 => k_asm); (case k6_q7 => k_is); (case k7_q7 => k_is); (case k8_q7 => ktr_room); (case k9_q7 => exact BindsTo.of_eq rfl); (case kB_q7 => exact rfl); (case kD_q7 => decide +kernel); (case c2_q7 => exact rfl); (case c3_q7 => exact rfl); (case c4_q7 => exact rfl); k_whole; intro L' h' tk' cells' F' N' Y' B' X' T'; k_cells Y'; (try dsimp only); (try k_fold)) | fail "step: no entry")
  k_with "ktr_step" => ((refine rlist_end (by assumption) (by assumption) (by assumption) (by assumption) (by assumption) (by assumption) List.mem_cons_self (by assumption) ?_))
  k_with "ktn_step" => ((refine rlist_end (vs := []) (by assumption) (by assumption) (by assumption) (by assumption) (by assumption) (by assumption) List.mem_cons_self IntsAre.nil ?_))
  k_with "ktf_step" => (first | assumption | exact lt_wid (by with_reducible assumption) (by k_dflt (exact rfl)) | k_dflt (exact Nat.le_of_ble_eq_true rfl) | l_fit)
  k_with "exec While Compare cons nil" => ((k_extra "while"))
  k_with "k_ne" => ((refine neN ?_; (try dsimp only); first | exact Apt.use (by assumption) (by k_mem) | exact Ne.symm (Apt.use (by assumption) (by k_mem)) | ((with_reducible rename (@Ne Nat _ _ ∧ _) ∧ _ => q9); first | with_reducible exact q9.1.1 | with_reducible exact Ne.symm q9.1.1 | with_reducible exact q9.1.2.1 | with_reducible exact Ne.symm q9.1.2.1 | with_reducible exact q9.1.2.2 | with_reducible exact Ne.symm q9.1.2.2 | with_reducible exact q9.1 | with_reducible exact Ne.symm q9.1 | with_reducible exact q9.2.1 | with_reducible exact Ne.symm q9.2.1 | with_reducible exact q9.2.2 | with_reducible exact Ne.symm q9.2.2 | with_reducible exact q9.2.1.1 | with_reducible exact Ne.symm q9.2.1.1 | with_reducible exact q9.2.1.2.1 | with_reducible exact Ne.symm q9.2.1.2.1 | with_reducible exact q9.2.1.2.2 | with_reducible exact Ne.symm q9.2.1.2.2 | with_reducible exact q9.2.2.1 | with_reducible exact Ne.symm q9.2.2.1 | with_reducible exact q9.2.2.2 | with_reducible exact Ne.symm q9.2.2.2 | with_reducible exact q9.2.2.1.1 | with_reducible exact Ne.symm q9.2.2.1.1 | with_reducible exact q9.2.2.1.2.1 | with_reducible exact Ne.symm q9.2.2.1.2.1 | with_reducible exact q9.2.2.1.2.2 | with_reducible exact Ne.symm q9.2.2.1.2.2 | with_reducible exact q9.2.2.2.1 | with_reducible exact Ne.symm q9.2.2.2.1 | with_reducible exact q9.2.2.2.2 | with_reducible exact Ne.symm q9.2.2.2.2 | with_reducible exact q9.2.2.2.1.1 | with_reducible exact Ne.symm q9.2.2.2.1.1 | with_reducible exact q9.2.2.2.1.2.1 | with_reducible exact Ne.symm q9.2.2.2.1.2.1 | with_reducible exact q9.2.2.2.1.2.2 | with_reducible exact Ne.symm q9.2.2.2.1.2.2 | with_reducible exact q9.2.2.2.2.1 | with_reducible exact Ne.symm q9.2.2.2.2.1 | with_reducible exact q9.2.2.2.2.2 | with_reducible exact Ne.symm q9.2.2.2.2.2 | with_reducible exact q9.2.2.2.2.1.1 | with_reducible exact Ne.symm q9.2.2.2.2.1.1 | with_reducible exact q9.2.2.2.2.1.2.1 | with_reducible exact Ne.symm q9.2.2.2.2.1.2.1 | with_reducible exact q9.2.2.2.2.1.2.2 | with_reducible exact Ne.symm q9.2.2.2.2.1.2.2 | with_reducible exact q9.2.2.2.2.2.1 | with_reducible exact Ne.symm q9.2.2.2.2.2.1 | with_reducible exact q9.2.2.2.2.2.2 | with_reducible exact Ne.symm q9.2.2.2.2.2.2) | ((with_reducible rename @Ne Nat _ _ ∧ _ => q9); first | with_reducible exact q9.1 | with_reducible exact Ne.symm q9.1 | with_reducible exact q9.2.1 | with_reducible exact Ne.symm q9.2.1 | with_reducible exact q9.2.2 | with_reducible exact Ne.symm q9.2.2)))
  k_with "execs cons" => ((dsimp only))
  k_with "eval BinOp" => ((dsimp only))
  k_with "storeName" => ((dsimp only))
  k_with "ktr_room" => ((first | exact room_of (by with_reducible assumption) (by k_dflt (exact rfl)) | exact room_in (by with_reducible assumption)))
  k_with "ktr_units" => ((exact room_of (by with_reducible assumption) (by k_dflt (exact rfl))))
  k_with "omega" => ((first | (with_reducible assumption) | exact lt_wid (by with_reducible assumption) (by k_dflt (exact rfl)) | exact le_wid (by with_reducible assumption) (by k_dflt (exact rfl)) | (k_dflt (exact Nat.le_of_ble_eq_true rfl)) | exact ilt_wid (And.right (by with_reducible assumption)) (by k_dflt (exact rfl)) | exact igt_wid (And.left (by with_reducible assumption)) (by k_dflt (exact rfl)) | (k_dflt decide) | exact Apt.use (by with_reducible assumption) (by k_mem) | exact Ne.symm (Apt.use (by with_reducible assumption) (by k_mem)) | ((repeat ((with_reducible rename (@Ne Nat _ _ ∧ _) ∧ _ => q9); clear q9)); (repeat ((with_reducible rename @Ne Nat _ _ ∧ _ => q9); clear q9)); (try clear hu); (try clear hd); omega +splitNatSub)))
  k_with "ktf_step" => (first | assumption | exact lt_wid (by with_reducible assumption) (by k_dflt (exact rfl)) | k_dflt (exact Nat.le_of_ble_eq_true rfl) | l_fit | ((simp only [List.length_cons, List.length_nil]); omega) | (simp only [List.length_cons, List.length_nil, List.length_append]; first | done | omega) | exact Nat.le_refl _)
  k_with "ktr_rel" => (first | assumption | exact IsTup.keeps (by assumption) (Fr.keep (by assumption)) | exact News.isTup (by assumption) (by k_mem) | fail "no tuple")
  k_with "subscriptTail Name BinOp ref int" => (((with_reducible show wpAny _ _ (subscriptTail _ _ (Value.ref _) (Value.int _ _)) _ _ _); k_dflt (refine' item_list_ints ?k1_q7 ?k2_q7 ?k3_q7 ?k4_q7 ?k5_q7 ?_; (case k1_q7 => first | exact News.isList (by assumption) (by k_mem) | is_list); (case k2_q7 => assumption); (case k3_q7 => ((repeat ((with_reducible rename (@Ne Nat _ _ ∧ _) ∧ _ => q9); clear q9)); (repeat ((with_reducible rename @Ne Nat _ _ ∧ _ => q9); clear q9)); omega)); (case k4_q7 => ((repeat ((with_reducible rename (@Ne Nat _ _ ∧ _) ∧ _ => q9); clear q9)); (repeat ((with_reducible rename @Ne Nat _ _ ∧ _ => q9); clear q9)); omega)); (case k5_q7 => ((repeat ((with_reducible rename (@Ne Nat _ _ ∧ _) ∧ _ => q9); clear q9)); (repeat ((with_reducible rename @Ne Nat _ _ ∧ _ => q9); clear q9)); omega)); k_whole); intro _))
  k_with "subscriptTail Name Name ref int" => (((with_reducible show wpAny _ _ (subscriptTail _ _ (Value.ref _) (Value.int _ _)) _ _ _); k_dflt (refine' item_list_ints ?k1_q7 ?k2_q7 ?k3_q7 ?k4_q7 ?k5_q7 ?_; (case k1_q7 => first | exact News.isList (by assumption) (by k_mem) | is_list); (case k2_q7 => assumption); (case k3_q7 => ((repeat ((with_reducible rename (@Ne Nat _ _ ∧ _) ∧ _ => q9); clear q9)); (repeat ((with_reducible rename @Ne Nat _ _ ∧ _ => q9); clear q9)); omega)); (case k4_q7 => ((repeat ((with_reducible rename (@Ne Nat _ _ ∧ _) ∧ _ => q9); clear q9)); (repeat ((with_reducible rename @Ne Nat _ _ ∧ _ => q9); clear q9)); omega)); (case k5_q7 => ((repeat ((with_reducible rename (@Ne Nat _ _ ∧ _) ∧ _ => q9); clear q9)); (repeat ((with_reducible rename @Ne Nat _ _ ∧ _ => q9); clear q9)); omega)); k_whole); intro _))
  k_with "l_ints" => (k_dflt (first | assumption | exact IntsAre.nil | exact IntsAre.cons _ _ IntsAre.nil | exact IntsAre.cons _ _ (IntsAre.cons _ _ IntsAre.nil) | exact IntsAre.cons _ _ (IntsAre.cons _ _ (IntsAre.cons _ _ IntsAre.nil)) | exact IntsAre.cons _ _ (IntsAre.cons _ _ (IntsAre.cons _ _ (IntsAre.cons _ _ (IntsAre.cons _ _ (IntsAre.cons _ _ (IntsAre.cons _ _ (IntsAre.cons _ _ IntsAre.nil))))))) | exact IntsAre.append (by l_ints) (IntsAre.cons _ _ IntsAre.nil)))
  k_with "call ref" => ((k_here; k_dflt ((refine' con_use (simple_c _ _ _ ?hg_q7) ?k1_q7 ?k2_q7 ?k3_q7 ?k4_q7 ?k5_q7 ?kK_q7 ?kd_q7 ?ku_q7 ?kp_q7 ?_; (case kp_q7 => exact hasL_of (by is_list) (by l_ints)); (case hg_q7 => assumption); (case k1_q7 => k_asm); (case k2_q7 => k_asm); (case k3_q7 => k_asm); (case k4_q7 => k_asm); (case k5_q7 => k_asm); (case kK_q7 => first | exact rfl | assumption); (case kd_q7 => ktr_room); (case ku_q7 => ktr_units); k_whole); intro h' tk' F' N'; (try k_sweep))))
  k_with "call ref" => ((k_here; k_dflt ((refine' con_use (sturm_c _ _ _ ?hg_q7) ?k1_q7 ?k2_q7 ?k3_q7 ?k4_q7 ?k5_q7 ?kK_q7 ?kd_q7 ?ku_q7 ?kp_q7 ?_; (case kp_q7 => exact hasL_of (by is_list) (by l_ints)); (case hg_q7 => assumption); (case k1_q7 => k_asm); (case k2_q7 => k_asm); (case k3_q7 => k_asm); (case k4_q7 => k_asm); (case k5_q7 => k_asm); (case kK_q7 => first | exact rfl | assumption); (case kd_q7 => ktr_room); (case ku_q7 => ktr_units); k_whole); intro R' x1' x2' vsa' vsb' nr' n1' n2' h' tk' F' N' lR lA lB Ia Ib; (replace lR := Apt.of lR); (replace lA := Apt.of lA); (replace lB := Apt.of lB); (obtain ⟨d9, I9, e9⟩ := ints_hide Ia); (obtain ⟨d8, I8, e8⟩ := ints_hide Ib); clear Ia Ib; (have b9 := le_derive e9); (have b8 := congrArg List.length e8); (try k_sweep))))
  k_with "call ref" => ((k_here; k_dflt ((refine' con_use (cbr_c _ _ _ _ _ _ _ _ _ _ _ _ _ _ ?h0_q7 ?h1_q7 ?h2_q7 ?s0_q7 ?s1_q7 ?s2_q7 ?ha_q7 ?hb_q7 ?hc_q7 ?he_q7) ?k1_q7 ?k2_q7 ?k3_q7 ?k4_q7 ?k5_q7 ?kK_q7 ?kd_q7 ?ku_q7 ?kp_q7 ?_; (case kp_q7 => exact ⟨(by is_list : Heap.IsList _ _ _), hasL_of (by is_list) (by l_ints), hasL_of (by is_list) (by l_ints), hasL_of (by is_list) (by l_ints), ⟨_, _, by ktr_rel⟩, ⟨_, _, by ktr_rel⟩⟩); (case h0_q7 => ktf_step); (case h1_q7 => ktf_step); (case h2_q7 => (first | ktf_step | (subst_vars; omega))); (case s0_q7 => assumption); (case s1_q7 => first | assumption | (subst_vars; assumption)); (case s2_q7 => first | assumption | (subst_vars; assumption)); (case ha_q7 => assumption); (case hb_q7 => assumption); (case hc_q7 => assumption); (case he_q7 => assumption); (case k1_q7 => k_asm); (case k2_q7 => k_asm); (case k3_q7 => k_asm); (case k4_q7 => k_asm); (case k5_q7 => k_asm); (case kK_q7 => first | exact rfl | assumption); (case kd_q7 => ktr_room); (case ku_q7 => ktr_units); k_whole); intro t' h' tk' F' N'; (try k_sweep))))
  obtain ⟨h3, _, _, hn1, _⟩ := okSt_of hst
  unfold Con
  k_fill
  intro dp un gd cn cs aa ccd cl outer A₀ base h₀ L m news s Q E mean mg mb B F X N T hk hd hu hpre hret
  obtain ⟨⟨vs, hl, hi⟩, ⟨t9, u9, hx⟩, ⟨t8, u8, hy⟩⟩ := hpre
  refine wpAny_call ?_
  k_dflt ktd_step
  k_steps
  refine rint_end hret (by assumption) (by assumption) ?_
  subst_vars
  rfl

end
section
-- needs: C12 C5
section
abbrev numG (ns rs : List Int) (i : Nat) : Int := ns.getD i 0 * rs.getD ((rs.length : Int) - 1 - (i : Int)).toNat 0
def numP (ns rs : List Int) : Int := ((List.range ns.length).map (numG ns rs)).sum
theorem nextnum_c (w : World) (la lb : Addr) (ns rs : List Int) (hz : ns.length < 2 ^ 20) (hz2 : rs.length < 2 ^ 20) (hl : ns.length ≤ rs.length) (hS : Small ns) : Con w 3 46 [.ref la, .ref lb] (fun h => HasL la ns h ∧ HasL lb rs h) (RInt (numP ns rs)) := by
  w_top off
  k_with_none
  k_with "ktd_step" => (first | (refine' code_defG ?k1_q7 ?k2_q7 ?k3_q7 ?k4_q7 ?k5_q7 ?kA_q7 ?kF_q7 ?kK_q7 ?k6_q7 ?k7_q7 ?k8_q7 ?k9_q7 ?kB_q7 ?_ ?c2_q7 ?c3_q7 ?c4_q7 ?c5_q7; (case kA_q7 => exact rfl); (case kF_q7 => exact rfl); (case kK_q7 => assumption); (case k1_q7 => k_asm); (case k2_q7 => k_asm); (case k3_q7 => k_asm); (case k4_q7 => k_asm); (case k5_q7 => k_asm); (case k6_q7 => k_is); (case k7_q7 => k_is); (case k8_q7 => ktr_room); (case k9_q7 => exact BindsTo.of_eq rfl); (case c5_q7 => decide); (case kB_q7 => exact locs rfl); (case c2_q7 => exact rfl); (case c3_q7 => exact rfl); (case c4_q7 => exact rfl); k_whole; intro L' h' F' N' B' X' T'; (try dsimp only); (try k_fold)) | (refine' code_defGC ?k1_q7 ?k2_q7 ?k3_q7 ?k4_q7 ?k5_q7 ?kA_q7 ?kF_q7 ?kK_q7 ?k6_q7 ?k7_q7 ?k8_q7 ?k9_q7 ?kB_q7 ?kD_q7 ?_ ?c2_q7 ?c3_q7 ?c4_q7; (case kA_q7 => exact rfl); (case kF_q7 => exact rfl); (case kK_q7 => assumption); (case k1_q7 => k_asm); (case k2_q7 => k_asm); (case k3_q7 => k_asm); (case k4_q7 => k_asm); (case k5_q7 => k_asm); (case k6_q7 => k_is); (case k7_q7 => k_is); (case k8_q7 => ktr_room); (case k9_q7 => exact BindsTo.of_eq rfl); (case kB_q7 => exact rfl); (case kD_q7 => decide +kernel); (case c2_q7 => exact rfl); (case c3_q7 => exact rfl); (case c4_q7 => exact rfl); k_whole; intro L' h' tk' cells' F' N' Y' B' X' T'; k_cells Y'; (try dsimp only); (try k_fold)) | fail "step: no entry")
  k_with "ktr_step" => ((refine rlist_end (by assumption) (by assumption) (by assumption) (by assumption) (by assumption) (by assumption) List.mem_cons_self (by assumption) ?_))
  k_with "ktn_step" => ((refine rlist_end (vs := []) (by assumption) (by assumption) (by assumption) (by assumption) (by assumption) (by assumption) List.mem_cons_self IntsAre.nil ?_))
  k_with "ktf_step" => (first | assumption | exact lt_wid (by with_reducible assumption) (by k_dflt (exact rfl)) | k_dflt (exact Nat.le_of_ble_eq_true rfl) | l_fit)
  k_with "exec While Compare cons nil" => ((k_extra "while"))
  k_with "k_ne" => ((refine neN ?_; (try dsimp only); first | exact Apt.use (by assumption) (by k_mem) | exact Ne.symm (Apt.use (by assumption) (by k_mem)) | ((with_reducible rename (@Ne Nat _ _ ∧ _) ∧ _ => q9); first | with_reducible exact q9.1.1 | with_reducible exact Ne.symm q9.1.1 | with_reducible exact q9.1.2.1 | with_reducible exact Ne.symm q9.1.2.1 | with_reducible exact q9.1.2.2 | with_reducible exact Ne.symm q9.1.2.2 | with_reducible exact q9.1 | with_reducible exact Ne.symm q9.1 | with_reducible exact q9.2.1 | with_reducible exact Ne.symm q9.2.1 | with_reducible exact q9.2.2 | with_reducible exact Ne.symm q9.2.2 | with_reducible exact q9.2.1.1 | with_reducible exact Ne.symm q9.2.1.1 | with_reducible exact q9.2.1.2.1 | with_reducible exact Ne.symm q9.2.1.2.1 | with_reducible exact q9.2.1.2.2 | with_reducible exact Ne.symm q9.2.1.2.2 | with_reducible exact q9.2.2.1 | with_reducible exact Ne.symm q9.2.2.1 | with_reducible exact q9.2.2.2 | with_reducible exact Ne.symm q9.2.2.2 | with_reducible exact q9.2.2.1.1 | with_reducible exact Ne.symm q9.2.2.1.1 | with_reducible exact q9.2.2.1.2.1 | with_reducible exact Ne.symm q9.2.2.1.2.1 | with_reducible exact q9.2.2.1.2.2 | with_reducible exact Ne.symm q9.2.2.1.2.2 | with_reducible exact q9.2.2.2.1 | with_reducible exact Ne.symm q9.2.2.2.1 | with_reducible exact q9.2.2.2.2 | with_reducible exact Ne.symm q9.2.2.2.2 | with_reducible exact q9.2.2.2.1.1 | with_reducible exact Ne.symm q9.2.2.2.1.1 | with_reducible exact q9.2.2.2.1.2.1 | with_reducible exact Ne.symm q9.2.2.2.1.2.1 | with_reducible exact q9.2.2.2.1.2.2 | with_reducible exact Ne.symm q9.2.2.2.1.2.2 | with_reducible exact q9.2.2.2.2.1 | with_reducible exact Ne.symm q9.2.2.2.2.1 | with_reducible exact q9.2.2.2.2.2 | with_reducible exact Ne.symm q9.2.2.2.2.2 | with_reducible exact q9.2.2.2.2.1.1 | with_reducible exact Ne.symm q9.2.2.2.2.1.1 | with_reducible exact q9.2.2.2.2.1.2.1 | with_reducible exact Ne.symm q9.2.2.2.2.1.2.1 | with_reducible exact q9.2.2.2.2.1.2.2 | with_reducible exact Ne.symm q9.2.2.2.2.1.2.2 | with_reducible exact q9.2.2.2.2.2.1 | with_reducible exact Ne.symm q9.2.2.2.2.2.1 | with_reducible exact q9.2.2.2.2.2.2 | with_reducible exact Ne.symm q9.2.2.2.2.2.2) | ((with_reducible rename @Ne Nat _ _ ∧ _ => q9); first | with_reducible exact q9.1 | with_reducible exact Ne.symm q9.1 | with_reducible exact q9.2.1 | with_reducible exact Ne.symm q9.2.1 | with_reducible exact q9.2.2 | with_reducible exact Ne.symm q9.2.2)))
  k_with "execs cons" => ((dsimp only))
  k_with "eval BinOp" => ((dsimp only))
  k_with "storeName" => ((dsimp only))
  k_with "ktr_room" => ((first | exact room_of (by with_reducible assumption) (by k_dflt (exact rfl)) | exact room_in (by with_reducible assumption)))
  k_with "ktr_units" => ((exact room_of (by with_reducible assumption) (by k_dflt (exact rfl))))
  k_with "omega" => ((first | (with_reducible assumption) | exact lt_wid (by with_reducible assumption) (by k_dflt (exact rfl)) | exact le_wid (by with_reducible assumption) (by k_dflt (exact rfl)) | (k_dflt (exact Nat.le_of_ble_eq_true rfl)) | exact ilt_wid (And.right (by with_reducible assumption)) (by k_dflt (exact rfl)) | exact igt_wid (And.left (by with_reducible assumption)) (by k_dflt (exact rfl)) | (k_dflt decide) | exact Apt.use (by with_reducible assumption) (by k_mem) | exact Ne.symm (Apt.use (by with_reducible assumption) (by k_mem)) | ((repeat ((with_reducible rename (@Ne Nat _ _ ∧ _) ∧ _ => q9); clear q9)); (repeat ((with_reducible rename @Ne Nat _ _ ∧ _ => q9); clear q9)); (try clear hu); (try clear hd); omega +splitNatSub)))
  k_with "ktf_step" => (first | assumption | exact lt_wid (by with_reducible assumption) (by k_dflt (exact rfl)) | k_dflt (exact Nat.le_of_ble_eq_true rfl) | l_fit | ((simp only [List.length_cons, List.length_nil]); omega) | (simp only [List.length_cons, List.length_nil, List.length_append]; first | done | omega) | exact Nat.le_refl _)
  k_with "ktr_rel" => (first | assumption | exact IsTup.keeps (by assumption) (Fr.keep (by assumption)) | exact News.isTup (by assumption) (by k_mem) | fail "no tuple")
  k_with "subscriptTail Name BinOp ref int" => (((with_reducible show wpAny _ _ (subscriptTail _ _ (Value.ref _) (Value.int _ _)) _ _ _); k_dflt (refine' item_list_ints ?k1_q7 ?k2_q7 ?k3_q7 ?k4_q7 ?k5_q7 ?_; (case k1_q7 => first | exact News.isList (by assumption) (by k_mem) | is_list); (case k2_q7 => assumption); (case k3_q7 => ((repeat ((with_reducible rename (@Ne Nat _ _ ∧ _) ∧ _ => q9); clear q9)); (repeat ((with_reducible rename @Ne Nat _ _ ∧ _ => q9); clear q9)); omega)); (case k4_q7 => ((repeat ((with_reducible rename (@Ne Nat _ _ ∧ _) ∧ _ => q9); clear q9)); (repeat ((with_reducible rename @Ne Nat _ _ ∧ _ => q9); clear q9)); omega)); (case k5_q7 => ((repeat ((with_reducible rename (@Ne Nat _ _ ∧ _) ∧ _ => q9); clear q9)); (repeat ((with_reducible rename @Ne Nat _ _ ∧ _ => q9); clear q9)); omega)); k_whole); intro _))
  k_with "subscriptTail Name Name ref int" => (((with_reducible show wpAny _ _ (subscriptTail _ _ (Value.ref _) (Value.int _ _)) _ _ _); k_dflt (refine' item_list_ints ?k1_q7 ?k2_q7 ?k3_q7 ?k4_q7 ?k5_q7 ?_; (case k1_q7 => first | exact News.isList (by assumption) (by k_mem) | is_list); (case k2_q7 => assumption); (case k3_q7 => ((repeat ((with_reducible rename (@Ne Nat _ _ ∧ _) ∧ _ => q9); clear q9)); (repeat ((with_reducible rename @Ne Nat _ _ ∧ _ => q9); clear q9)); omega)); (case k4_q7 => ((repeat ((with_reducible rename (@Ne Nat _ _ ∧ _) ∧ _ => q9); clear q9)); (repeat ((with_reducible rename @Ne Nat _ _ ∧ _ => q9); clear q9)); omega)); (case k5_q7 => ((repeat ((with_reducible rename (@Ne Nat _ _ ∧ _) ∧ _ => q9); clear q9)); (repeat ((with_reducible rename @Ne Nat _ _ ∧ _ => q9); clear q9)); omega)); k_whole); intro _))
  k_with "l_ints" => (k_dflt (first | assumption | exact IntsAre.nil | exact IntsAre.cons _ _ IntsAre.nil | exact IntsAre.cons _ _ (IntsAre.cons _ _ IntsAre.nil) | exact IntsAre.cons _ _ (IntsAre.cons _ _ (IntsAre.cons _ _ IntsAre.nil)) | exact IntsAre.cons _ _ (IntsAre.cons _ _ (IntsAre.cons _ _ (IntsAre.cons _ _ (IntsAre.cons _ _ (IntsAre.cons _ _ (IntsAre.cons _ _ (IntsAre.cons _ _ IntsAre.nil))))))) | exact IntsAre.append (by l_ints) (IntsAre.cons _ _ IntsAre.nil)))
  k_with "eval ListComp" => ((k_here; lcp_look; k_dflt (refine ListComp_En (by k_asm) (by with_unfolding_all rfl) (by decide) (by rfl) (by decide) (by rfl) (by rfl) (by decide) ?_)))
  k_with "call type:enumerate" => ((k_dflt (k_extra "enum")))
  k_with "mul_fits" => (first | exact PySem.IntMulOk.of_right (PySem.intBits_le_64 (by omega) (by omega)) | exact PySem.IntMulOk.of_left (PySem.intBits_le_64 (by omega) (by omega)))
  k_with "enum" =>
    k_dflt (refine srcE_of (numG ns rs) (by rfl) (by k_asm) (by k_asm) (by is_list) (by assumption) (by rw [PySem.sizeLine_eq]; omega) ?_ ?_)
    intro i n C oC m₂ h9 tk t u E' hget hC hx hy F' N'
    have hi9 : i < ns.length := (List.getElem?_eq_some_iff.mp hget).1
    have he9 : n = ns.getD i 0 := by simp [List.getD, hget]
    have hs9 := hS n (List.mem_of_getElem? hget)
    clear hget
    rotate_left
    intro D ys h9 tk F' N' o1 hI
    obtain ⟨d9, hI9, e9⟩ := ints_hide hI
    have l9 := congrArg List.length e9
    clear hI
    simp only [List.length_map, List.length_range] at l9
    rotate_left
  unfold Con
  k_fill
  intro dp un gd cn cs aa ccd cl outer A₀ base h₀ L m news s Q E mean mg mb B F X N T hk hd hu hpre hret
  obtain ⟨⟨vs, hl, hi⟩, ⟨vs2, hl2, hi2⟩⟩ := hpre
  refine wpAny_call ?_
  k_dflt ktd_step
  k_steps
  · exact EndI.of (by rw [he9])
  · refine rint_end hret (by assumption) (by assumption) ?_
    rename _ = List.map _ _ => e9
    rw [e9]
    rfl
end

end
section
-- needs: C7 C9
theorem fdiv_bnd {prog : Program} {w : World} {A : Around} {E : Value → Shared → Prop} {s : Shared} {a b x : Int} {t u : Tok} {Q : Value → Shared → Prop} (h : (0 < b ∧ b < 2 ^ 30) ∧ (-2 ^ 60 < x ∧ x < 2 ^ 60)) (k : Q (.int (a.fdiv b) s.toks) { s with toks := s.toks + 1 }) :
    wpAny (model prog w) A (binaryOp .FloorDiv (.int a t) (.int b u)) Q E s := fdiv_small (by omega) ⟨by omega, h.1.2⟩ k
theorem mul_bnd {a b x : Int} (h : (0 < b ∧ b < 2 ^ 30) ∧ (-2 ^ 60 < x ∧ x < 2 ^ 60)) : PySem.IntMulOk a x := PySem.IntMulOk.of_right (PySem.intBits_le_64 (by omega) (by omega))
def Told (l t1 t2 t3 t4 t5 t6 t7 t8 : Addr) (a1 b1 a2 b2 a3 b3 a4 b4 a5 b5 a6 b6 a7 b7 a8 b8 : Int) (h : Heap) : Prop := h.IsList l #[.ref t1, .ref t2, .ref t3, .ref t4, .ref t5, .ref t6, .ref t7, .ref t8] ∧ HasT t1 a1 b1 h ∧ HasT t2 a2 b2 h ∧ HasT t3 a3 b3 h ∧ HasT t4 a4 b4 h ∧ HasT t5 a5 b5 h ∧ HasT t6 a6 b6 h ∧ HasT t7 a7 b7 h ∧ HasT t8 a8 b8 h
def bndB (a b : Int) : Prop := (0 < b ∧ b < 2 ^ 30) ∧ (-2 ^ 60 < a ∧ a < 2 ^ 60)
def takenGo (ps : List (Int × Int)) (n : Int) : Int × Int := ps.foldl (fun s p => (s.1 + Int.fdiv s.2 p.2 * p.1, Int.fmod s.2 p.2)) (1, n)
theorem taken_c (w : World) (l t1 t2 t3 t4 t5 t6 t7 t8 : Addr) (a1 b1 a2 b2 a3 b3 a4 b4 a5 b5 a6 b6 a7 b7 a8 b8 n : Int) (t : Tok) (h1 : (0 < b1 ∧ b1 < 2 ^ 30) ∧ (-2 ^ 60 < a1 ∧ a1 < 2 ^ 60)) (h2 : (0 < b2 ∧ b2 < 2 ^ 30) ∧ (-2 ^ 60 < a2 ∧ a2 < 2 ^ 60)) (h3 : (0 < b3 ∧ b3 < 2 ^ 30) ∧ (-2 ^ 60 < a3 ∧ a3 < 2 ^ 60)) (h4 : (0 < b4 ∧ b4 < 2 ^ 30) ∧ (-2 ^ 60 < a4 ∧ a4 < 2 ^ 60)) (h5 : (0 < b5 ∧ b5 < 2 ^ 30) ∧ (-2 ^ 60 < a5 ∧ a5 < 2 ^ 60)) (h6 : (0 < b6 ∧ b6 < 2 ^ 30) ∧ (-2 ^ 60 < a6 ∧ a6 < 2 ^ 60)) (h7 : (0 < b7 ∧ b7 < 2 ^ 30) ∧ (-2 ^ 60 < a7 ∧ a7 < 2 ^ 60)) (h8 : (0 < b8 ∧ b8 < 2 ^ 30) ∧ (-2 ^ 60 < a8 ∧ a8 < 2 ^ 60)) (hr : (takenGo [(a8, b8), (a7, b7), (a6, b6), (a5, b5), (a4, b4), (a3, b3), (a2, b2), (a1, b1)] n).2 = 0) : Con w 3 284 [.ref l, .int n t] (Told l t1 t2 t3 t4 t5 t6 t7 t8 a1 b1 a2 b2 a3 b3 a4 b4 a5 b5 a6 b6 a7 b7 a8 b8) (RInt (takenGo [(a8, b8), (a7, b7), (a6, b6), (a5, b5), (a4, b4), (a3, b3), (a2, b2), (a1, b1)] n).1) := by
  w_top off
  k_with_none
  k_with "ktd_step" => (first | (refine' code_defG ?k1_q7 ?k2_q7 ?k3_q7 ?k4_q7 ?k5_q7 ?kA_q7 ?kF_q7 ?kK_q7 ?k6_q7 ?k7_q7 ?k8_q7 ?k9_q7 ?kB_q7 ?_ ?c2_q7 ?c3_q7 ?c4_q7 ?c5_q7; (case kA_q7 => exact rfl); (case kF_q7 => exact rfl); (case kK_q7 => assumption); (case k1_q7 => k_asm); (case k2_q7 => k_asm); (case k3_q7 => k_asm); (case k4_q7 => k_asm); (case k5_q7 => k_asm); (case k6_q7 => k_is); (case k7_q7 => k_is); (case k8_q7 => ktr_room); (case k9_q7 => exact BindsTo.of_eq rfl); (case c5_q7 => decide); (case kB_q7 => exact locs rfl); (case c2_q7 => exact rfl); (case c3_q7 => exact rfl); (case c4_q7 => exact rfl); k_whole; intro L' h' F' N' B' X' T'; (try dsimp only); (try k_fold)) | (refine' code_defGC ?k1_q7 ?k2_q7 ?k3_q7 ?k4_q7 ?k5_q7 ?kA_q7 ?kF_q7 ?kK_q7 ?k6_q7 ?k7_q7 ?k8_q7 ?k9_q7 ?kB_q7 ?kD_q7 ?_ ?c2_q7 ?c3_q7 ?c4_q7; (case kA_q7 => exact rfl); (case kF_q7 => exact rfl); (case kK_q7 => assumption); (case k1_q7 => k_asm); (case k2_q7 => k_asm); (case k3_q7 => k_asm); (case k4_q7 => k_asm); (case k5_q7 => k_asm); (case k6_q7 => k_is); (case k7_q7 => k_is); (case k8_q7 => ktr_room); (case k9_q7 => exact BindsTo.of_eq rfl); (case kB_q7 => exact rfl); (case kD_q7 => decide +kernel); (case c2_q7 => exact rfl); (case c3_q7 => exact rfl); (case c4_q7 => exact rfl); k_whole; intro L' h' tk' cells' F' N' Y' B' X' T'; k_cells Y'; (try dsimp only); (try k_fold)) | fail "step: no entry")
  k_with "ktr_step" => ((refine rlist_end (by assumption) (by assumption) (by assumption) (by assumption) (by assumption) (by assumption) List.mem_cons_self (by assumption) ?_))
  k_with "ktn_step" => ((refine rlist_end (vs := []) (by assumption) (by assumption) (by assumption) (by assumption) (by assumption) (by assumption) List.mem_cons_self IntsAre.nil ?_))
  k_with "ktf_step" => (first | assumption | exact lt_wid (by with_reducible assumption) (by k_dflt (exact rfl)) | k_dflt (exact Nat.le_of_ble_eq_true rfl) | l_fit)
  k_with "exec While Compare cons nil" => ((k_extra "while"))
  k_with "k_ne" => ((refine neN ?_; (try dsimp only); first | exact Apt.use (by assumption) (by k_mem) | exact Ne.symm (Apt.use (by assumption) (by k_mem)) | ((with_reducible rename (@Ne Nat _ _ ∧ _) ∧ _ => q9); first | with_reducible exact q9.1.1 | with_reducible exact Ne.symm q9.1.1 | with_reducible exact q9.1.2.1 | with_reducible exact Ne.symm q9.1.2.1 | with_reducible exact q9.1.2.2 | with_reducible exact Ne.symm q9.1.2.2 | with_reducible exact q9.1 | with_reducible exact Ne.symm q9.1 | with_reducible exact q9.2.1 | with_reducible exact Ne.symm q9.2.1 | with_reducible exact q9.2.2 | with_reducible exact Ne.symm q9.2.2 | with_reducible exact q9.2.1.1 | with_reducible exact Ne.symm q9.2.1.1 | with_reducible exact q9.2.1.2.1 | with_reducible exact Ne.symm q9.2.1.2.1 | with_reducible exact q9.2.1.2.2 | with_reducible exact Ne.symm q9.2.1.2.2 | with_reducible exact q9.2.2.1 | with_reducible exact Ne.symm q9.2.2.1 | with_reducible exact q9.2.2.2 | with_reducible exact Ne.symm q9.2.2.2 | with_reducible exact q9.2.2.1.1 | with_reducible exact Ne.symm q9.2.2.1.1 | with_reducible exact q9.2.2.1.2.1 | with_reducible exact Ne.symm q9.2.2.1.2.1 | with_reducible exact q9.2.2.1.2.2 | with_reducible exact Ne.symm q9.2.2.1.2.2 | with_reducible exact q9.2.2.2.1 | with_reducible exact Ne.symm q9.2.2.2.1 | with_reducible exact q9.2.2.2.2 | with_reducible exact Ne.symm q9.2.2.2.2 | with_reducible exact q9.2.2.2.1.1 | with_reducible exact Ne.symm q9.2.2.2.1.1 | with_reducible exact q9.2.2.2.1.2.1 | with_reducible exact Ne.symm q9.2.2.2.1.2.1 | with_reducible exact q9.2.2.2.1.2.2 | with_reducible exact Ne.symm q9.2.2.2.1.2.2 | with_reducible exact q9.2.2.2.2.1 | with_reducible exact Ne.symm q9.2.2.2.2.1 | with_reducible exact q9.2.2.2.2.2 | with_reducible exact Ne.symm q9.2.2.2.2.2 | with_reducible exact q9.2.2.2.2.1.1 | with_reducible exact Ne.symm q9.2.2.2.2.1.1 | with_reducible exact q9.2.2.2.2.1.2.1 | with_reducible exact Ne.symm q9.2.2.2.2.1.2.1 | with_reducible exact q9.2.2.2.2.1.2.2 | with_reducible exact Ne.symm q9.2.2.2.2.1.2.2 | with_reducible exact q9.2.2.2.2.2.1 | with_reducible exact Ne.symm q9.2.2.2.2.2.1 | with_reducible exact q9.2.2.2.2.2.2 | with_reducible exact Ne.symm q9.2.2.2.2.2.2) | ((with_reducible rename @Ne Nat _ _ ∧ _ => q9); first | with_reducible exact q9.1 | with_reducible exact Ne.symm q9.1 | with_reducible exact q9.2.1 | with_reducible exact Ne.symm q9.2.1 | with_reducible exact q9.2.2 | with_reducible exact Ne.symm q9.2.2)))
  k_with "execs cons" => ((dsimp only))
  k_with "eval BinOp" => ((dsimp only))
  k_with "storeName" => ((dsimp only))
  k_with "ktr_room" => ((first | exact room_of (by with_reducible assumption) (by k_dflt (exact rfl)) | exact room_in (by with_reducible assumption)))
  k_with "ktr_units" => ((exact room_of (by with_reducible assumption) (by k_dflt (exact rfl))))
  k_with "omega" => ((first | (with_reducible assumption) | exact lt_wid (by with_reducible assumption) (by k_dflt (exact rfl)) | exact le_wid (by with_reducible assumption) (by k_dflt (exact rfl)) | (k_dflt (exact Nat.le_of_ble_eq_true rfl)) | exact ilt_wid (And.right (by with_reducible assumption)) (by k_dflt (exact rfl)) | exact igt_wid (And.left (by with_reducible assumption)) (by k_dflt (exact rfl)) | (k_dflt decide) | exact Apt.use (by with_reducible assumption) (by k_mem) | exact Ne.symm (Apt.use (by with_reducible assumption) (by k_mem)) | ((repeat ((with_reducible rename (@Ne Nat _ _ ∧ _) ∧ _ => q9); clear q9)); (repeat ((with_reducible rename @Ne Nat _ _ ∧ _ => q9); clear q9)); (try clear hu); (try clear hd); omega +splitNatSub)))
  k_with "ktf_step" => (first | assumption | exact lt_wid (by with_reducible assumption) (by k_dflt (exact rfl)) | k_dflt (exact Nat.le_of_ble_eq_true rfl) | l_fit | ((simp only [List.length_cons, List.length_nil]); omega) | (simp only [List.length_cons, List.length_nil, List.length_append]; first | done | omega) | exact Nat.le_refl _)
  k_with "ktr_rel" => (first | assumption | exact IsTup.keeps (by assumption) (Fr.keep (by assumption)) | exact News.isTup (by assumption) (by k_mem) | fail "no tuple")
  k_with "subscriptTail Name BinOp ref int" => (((with_reducible show wpAny _ _ (subscriptTail _ _ (Value.ref _) (Value.int _ _)) _ _ _); k_dflt (refine' item_list_ints ?k1_q7 ?k2_q7 ?k3_q7 ?k4_q7 ?k5_q7 ?_; (case k1_q7 => first | exact News.isList (by assumption) (by k_mem) | is_list); (case k2_q7 => assumption); (case k3_q7 => ((repeat ((with_reducible rename (@Ne Nat _ _ ∧ _) ∧ _ => q9); clear q9)); (repeat ((with_reducible rename @Ne Nat _ _ ∧ _ => q9); clear q9)); omega)); (case k4_q7 => ((repeat ((with_reducible rename (@Ne Nat _ _ ∧ _) ∧ _ => q9); clear q9)); (repeat ((with_reducible rename @Ne Nat _ _ ∧ _ => q9); clear q9)); omega)); (case k5_q7 => ((repeat ((with_reducible rename (@Ne Nat _ _ ∧ _) ∧ _ => q9); clear q9)); (repeat ((with_reducible rename @Ne Nat _ _ ∧ _ => q9); clear q9)); omega)); k_whole); intro _))
  k_with "subscriptTail Name Name ref int" => (((with_reducible show wpAny _ _ (subscriptTail _ _ (Value.ref _) (Value.int _ _)) _ _ _); k_dflt (refine' item_list_ints ?k1_q7 ?k2_q7 ?k3_q7 ?k4_q7 ?k5_q7 ?_; (case k1_q7 => first | exact News.isList (by assumption) (by k_mem) | is_list); (case k2_q7 => assumption); (case k3_q7 => ((repeat ((with_reducible rename (@Ne Nat _ _ ∧ _) ∧ _ => q9); clear q9)); (repeat ((with_reducible rename @Ne Nat _ _ ∧ _ => q9); clear q9)); omega)); (case k4_q7 => ((repeat ((with_reducible rename (@Ne Nat _ _ ∧ _) ∧ _ => q9); clear q9)); (repeat ((with_reducible rename @Ne Nat _ _ ∧ _ => q9); clear q9)); omega)); (case k5_q7 => ((repeat ((with_reducible rename (@Ne Nat _ _ ∧ _) ∧ _ => q9); clear q9)); (repeat ((with_reducible rename @Ne Nat _ _ ∧ _ => q9); clear q9)); omega)); k_whole); intro _))
  k_with "l_ints" => (k_dflt (first | assumption | exact IntsAre.nil | exact IntsAre.cons _ _ IntsAre.nil | exact IntsAre.cons _ _ (IntsAre.cons _ _ IntsAre.nil) | exact IntsAre.cons _ _ (IntsAre.cons _ _ (IntsAre.cons _ _ IntsAre.nil)) | exact IntsAre.cons _ _ (IntsAre.cons _ _ (IntsAre.cons _ _ (IntsAre.cons _ _ (IntsAre.cons _ _ (IntsAre.cons _ _ (IntsAre.cons _ _ (IntsAre.cons _ _ IntsAre.nil))))))) | exact IntsAre.append (by l_ints) (IntsAre.cons _ _ IntsAre.nil)))
  k_with "binaryOp FloorDiv int int" => ((refine fdiv_bnd (by assumption) ?_))
  k_with "mul_fits" => (exact mul_bnd (by assumption))
  k_with "exec For Tuple Subscript cons nil" => ((k_here; (rename Fr _ _ _ _ => lF'); (with_unfolding_all refine' For_turns lF' ?_; k_whole)))
  unfold Con
  k_fill
  intro dp un gd cn cs aa ccd cl outer A₀ base h₀ L m news s Q E mean mg mb B F X N T hk hd hu hpre hret
  obtain ⟨hl, ⟨_, _, x1⟩, ⟨_, _, x2⟩, ⟨_, _, x3⟩, ⟨_, _, x4⟩, ⟨_, _, x5⟩, ⟨_, _, x6⟩, ⟨_, _, x7⟩, ⟨_, _, x8⟩⟩ := hpre
  refine wpAny_call ?_
  k_dflt ktd_step
  k_steps
  · exact rint_end hret (by assumption) (by assumption) rfl
  · exact absurd hr (by assumption)

end
section
-- needs: C26 C14
def recP (ns : List Int) : Nat → List Int → List Int
  | 0, xs => xs
  | n + 1, xs => recP ns n (xs ++ [numP ns xs])
theorem app_hide {h₀ h' : Heap} {L D : Addr} {vs : List Value} {x : Int} {t : Tok} {n : Nat} {news : List (Addr × Obj)} {d : List Int} (N : News h₀ L h' ((D, listOf (vs.toArray.push (.int x t)) n) :: news)) (I : IntsAre vs d) :
    ∃ (vs' : List Value) (d' : List Int), News h₀ L h' ((D, listOf vs'.toArray n) :: news) ∧ IntsAre vs' d' ∧ d' = d ++ [x] ∧ d'.length = d.length + 1 ∧ vs'.length = d'.length :=
  ⟨vs ++ [.int x t], d ++ [x], by rw [List.push_toArray] at N; exact N, IntsAre.append I (.cons _ _ .nil), rfl, by simp, by simp [I.length]⟩
section
theorem recrow_c (w : World) (la lb : Addr) (p q f0 f1 : Int) (t : Tok) (hS : Small [p, q]) : Con w 9 53 [.ref la, .ref lb, .int 8 t] (fun h => HasL la [p, q] h ∧ HasL lb [f0, f1] h) (RList ((recP [p, q] 6 [f0, f1]).take 8)) := by
  w_top off
  k_with_none
  k_with "ktd_step" => (first | (refine' code_defG ?k1_q7 ?k2_q7 ?k3_q7 ?k4_q7 ?k5_q7 ?kA_q7 ?kF_q7 ?kK_q7 ?k6_q7 ?k7_q7 ?k8_q7 ?k9_q7 ?kB_q7 ?_ ?c2_q7 ?c3_q7 ?c4_q7 ?c5_q7; (case kA_q7 => exact rfl); (case kF_q7 => exact rfl); (case kK_q7 => assumption); (case k1_q7 => k_asm); (case k2_q7 => k_asm); (case k3_q7 => k_asm); (case k4_q7 => k_asm); (case k5_q7 => k_asm); (case k6_q7 => k_is); (case k7_q7 => k_is); (case k8_q7 => ktr_room); (case k9_q7 => exact BindsTo.of_eq rfl); (case c5_q7 => decide); (case kB_q7 => exact locs rfl); (case c2_q7 => exact rfl); (case c3_q7 => exact rfl); (case c4_q7 => exact rfl); k_whole; intro L' h' F' N' B' X' T'; (try dsimp only); (try k_fold)) | (refine' code_defGC ?k1_q7 ?k2_q7 ?k3_q7 ?k4_q7 ?k5_q7 ?kA_q7 ?kF_q7 ?kK_q7 ?k6_q7 ?k7_q7 ?k8_q7 ?k9_q7 ?kB_q7 ?kD_q7 ?_ ?c2_q7 ?c3_q7 ?c4_q7; (case kA_q7 => exact rfl); (case kF_q7 => exact rfl); (case kK_q7 => assumption); (case k1_q7 => k_asm); (case k2_q7 => k_asm); (case k3_q7 => k_asm); (case k4_q7 => k_asm); (case k5_q7 => k_asm); (case k6_q7 => k_is); (case k7_q7 => k_is); (case k8_q7 => ktr_room); (case k9_q7 => exact BindsTo.of_eq rfl); (case kB_q7 => exact rfl); (case kD_q7 => decide +kernel); (case c2_q7 => exact rfl); (case c3_q7 => exact rfl); (case c4_q7 => exact rfl); k_whole; intro L' h' tk' cells' F' N' Y' B' X' T'; k_cells Y'; (try dsimp only); (try k_fold)) | fail "step: no entry")
  k_with "ktr_step" => ((refine rlist_end (by assumption) (by assumption) (by assumption) (by assumption) (by assumption) (by assumption) List.mem_cons_self (by assumption) ?_))
  k_with "ktn_step" => ((refine rlist_end (vs := []) (by assumption) (by assumption) (by assumption) (by assumption) (by assumption) (by assumption) List.mem_cons_self IntsAre.nil ?_))
  k_with "ktf_step" => (first | assumption | exact lt_wid (by with_reducible assumption) (by k_dflt (exact rfl)) | k_dflt (exact Nat.le_of_ble_eq_true rfl) | l_fit)
  k_with "exec While Compare cons nil" => ((k_extra "while"))
  k_with "k_ne" => ((refine neN ?_; (try dsimp only); first | exact Apt.use (by assumption) (by k_mem) | exact Ne.symm (Apt.use (by assumption) (by k_mem)) | ((with_reducible rename (@Ne Nat _ _ ∧ _) ∧ _ => q9); first | with_reducible exact q9.1.1 | with_reducible exact Ne.symm q9.1.1 | with_reducible exact q9.1.2.1 | with_reducible exact Ne.symm q9.1.2.1 | with_reducible exact q9.1.2.2 | with_reducible exact Ne.symm q9.1.2.2 | with_reducible exact q9.1 | with_reducible exact Ne.symm q9.1 | with_reducible exact q9.2.1 | with_reducible exact Ne.symm q9.2.1 | with_reducible exact q9.2.2 | with_reducible exact Ne.symm q9.2.2 | with_reducible exact q9.2.1.1 | with_reducible exact Ne.symm q9.2.1.1 | with_reducible exact q9.2.1.2.1 | with_reducible exact Ne.symm q9.2.1.2.1 | with_reducible exact q9.2.1.2.2 | with_reducible exact Ne.symm q9.2.1.2.2 | with_reducible exact q9.2.2.1 | with_reducible exact Ne.symm q9.2.2.1 | with_reducible exact q9.2.2.2 | with_reducible exact Ne.symm q9.2.2.2 | with_reducible exact q9.2.2.1.1 | with_reducible exact Ne.symm q9.2.2.1.1 | with_reducible exact q9.2.2.1.2.1 | with_reducible exact Ne.symm q9.2.2.1.2.1 | with_reducible exact q9.2.2.1.2.2 | with_reducible exact Ne.symm q9.2.2.1.2.2 | with_reducible exact q9.2.2.2.1 | with_reducible exact Ne.symm q9.2.2.2.1 | with_reducible exact q9.2.2.2.2 | with_reducible exact Ne.symm q9.2.2.2.2 | with_reducible exact q9.2.2.2.1.1 | with_reducible exact Ne.symm q9.2.2.2.1.1 | with_reducible exact q9.2.2.2.1.2.1 | with_reducible exact Ne.symm q9.2.2.2.1.2.1 | with_reducible exact q9.2.2.2.1.2.2 | with_reducible exact Ne.symm q9.2.2.2.1.2.2 | with_reducible exact q9.2.2.2.2.1 | with_reducible exact Ne.symm q9.2.2.2.2.1 | with_reducible exact q9.2.2.2.2.2 | with_reducible exact Ne.symm q9.2.2.2.2.2 | with_reducible exact q9.2.2.2.2.1.1 | with_reducible exact Ne.symm q9.2.2.2.2.1.1 | with_reducible exact q9.2.2.2.2.1.2.1 | with_reducible exact Ne.symm q9.2.2.2.2.1.2.1 | with_reducible exact q9.2.2.2.2.1.2.2 | with_reducible exact Ne.symm q9.2.2.2.2.1.2.2 | with_reducible exact q9.2.2.2.2.2.1 | with_reducible exact Ne.symm q9.2.2.2.2.2.1 | with_reducible exact q9.2.2.2.2.2.2 | with_reducible exact Ne.symm q9.2.2.2.2.2.2) | ((with_reducible rename @Ne Nat _ _ ∧ _ => q9); first | with_reducible exact q9.1 | with_reducible exact Ne.symm q9.1 | with_reducible exact q9.2.1 | with_reducible exact Ne.symm q9.2.1 | with_reducible exact q9.2.2 | with_reducible exact Ne.symm q9.2.2)))
  k_with "execs cons" => ((dsimp only))
  k_with "eval BinOp" => ((dsimp only))
  k_with "storeName" => ((dsimp only))
  k_with "ktr_room" => ((first | exact room_of (by with_reducible assumption) (by k_dflt (exact rfl)) | exact room_in (by with_reducible assumption)))
  k_with "ktr_units" => ((exact room_of (by with_reducible assumption) (by k_dflt (exact rfl))))
  k_with "omega" => ((first | (with_reducible assumption) | exact lt_wid (by with_reducible assumption) (by k_dflt (exact rfl)) | exact le_wid (by with_reducible assumption) (by k_dflt (exact rfl)) | (k_dflt (exact Nat.le_of_ble_eq_true rfl)) | exact ilt_wid (And.right (by with_reducible assumption)) (by k_dflt (exact rfl)) | exact igt_wid (And.left (by with_reducible assumption)) (by k_dflt (exact rfl)) | (k_dflt decide) | exact Apt.use (by with_reducible assumption) (by k_mem) | exact Ne.symm (Apt.use (by with_reducible assumption) (by k_mem)) | ((repeat ((with_reducible rename (@Ne Nat _ _ ∧ _) ∧ _ => q9); clear q9)); (repeat ((with_reducible rename @Ne Nat _ _ ∧ _ => q9); clear q9)); (try clear hu); (try clear hd); omega +splitNatSub)))
  k_with "ktf_step" => (first | assumption | exact lt_wid (by with_reducible assumption) (by k_dflt (exact rfl)) | k_dflt (exact Nat.le_of_ble_eq_true rfl) | l_fit | ((simp only [List.length_cons, List.length_nil]); omega) | (simp only [List.length_cons, List.length_nil, List.length_append]; first | done | omega) | exact Nat.le_refl _)
  k_with "ktr_rel" => (first | assumption | exact IsTup.keeps (by assumption) (Fr.keep (by assumption)) | exact News.isTup (by assumption) (by k_mem) | fail "no tuple")
  k_with "subscriptTail Name BinOp ref int" => (((with_reducible show wpAny _ _ (subscriptTail _ _ (Value.ref _) (Value.int _ _)) _ _ _); k_dflt (refine' item_list_ints ?k1_q7 ?k2_q7 ?k3_q7 ?k4_q7 ?k5_q7 ?_; (case k1_q7 => first | exact News.isList (by assumption) (by k_mem) | is_list); (case k2_q7 => assumption); (case k3_q7 => ((repeat ((with_reducible rename (@Ne Nat _ _ ∧ _) ∧ _ => q9); clear q9)); (repeat ((with_reducible rename @Ne Nat _ _ ∧ _ => q9); clear q9)); omega)); (case k4_q7 => ((repeat ((with_reducible rename (@Ne Nat _ _ ∧ _) ∧ _ => q9); clear q9)); (repeat ((with_reducible rename @Ne Nat _ _ ∧ _ => q9); clear q9)); omega)); (case k5_q7 => ((repeat ((with_reducible rename (@Ne Nat _ _ ∧ _) ∧ _ => q9); clear q9)); (repeat ((with_reducible rename @Ne Nat _ _ ∧ _ => q9); clear q9)); omega)); k_whole); intro _))
  k_with "subscriptTail Name Name ref int" => (((with_reducible show wpAny _ _ (subscriptTail _ _ (Value.ref _) (Value.int _ _)) _ _ _); k_dflt (refine' item_list_ints ?k1_q7 ?k2_q7 ?k3_q7 ?k4_q7 ?k5_q7 ?_; (case k1_q7 => first | exact News.isList (by assumption) (by k_mem) | is_list); (case k2_q7 => assumption); (case k3_q7 => ((repeat ((with_reducible rename (@Ne Nat _ _ ∧ _) ∧ _ => q9); clear q9)); (repeat ((with_reducible rename @Ne Nat _ _ ∧ _ => q9); clear q9)); omega)); (case k4_q7 => ((repeat ((with_reducible rename (@Ne Nat _ _ ∧ _) ∧ _ => q9); clear q9)); (repeat ((with_reducible rename @Ne Nat _ _ ∧ _ => q9); clear q9)); omega)); (case k5_q7 => ((repeat ((with_reducible rename (@Ne Nat _ _ ∧ _) ∧ _ => q9); clear q9)); (repeat ((with_reducible rename @Ne Nat _ _ ∧ _ => q9); clear q9)); omega)); k_whole); intro _))
  k_with "l_ints" => (k_dflt (first | assumption | exact IntsAre.nil | exact IntsAre.cons _ _ IntsAre.nil | exact IntsAre.cons _ _ (IntsAre.cons _ _ IntsAre.nil) | exact IntsAre.cons _ _ (IntsAre.cons _ _ (IntsAre.cons _ _ IntsAre.nil)) | exact IntsAre.cons _ _ (IntsAre.cons _ _ (IntsAre.cons _ _ (IntsAre.cons _ _ (IntsAre.cons _ _ (IntsAre.cons _ _ (IntsAre.cons _ _ (IntsAre.cons _ _ IntsAre.nil))))))) | exact IntsAre.append (by l_ints) (IntsAre.cons _ _ IntsAre.nil)))
  k_with "call ref" => ((k_here; k_dflt ((refine' con_use (nextnum_c _ _ _ _ _ ?hz_q7 ?hz2_q7 ?hl_q7 ?hs_q7) ?k1_q7 ?k2_q7 ?k3_q7 ?k4_q7 ?k5_q7 ?kK_q7 ?kd_q7 ?ku_q7 ?kp_q7 ?_; (case kp_q7 => exact ⟨hasL_of (by is_list) (by l_ints), hasL_of (by is_list) (by l_ints)⟩); (case hz_q7 => ktf_step); (case hz2_q7 => ktf_step); (case hl_q7 => ktf_step); (case hs_q7 => assumption); (case k1_q7 => k_asm); (case k2_q7 => k_asm); (case k3_q7 => k_asm); (case k4_q7 => k_asm); (case k5_q7 => k_asm); (case kK_q7 => first | exact rfl | assumption); (case kd_q7 => ktr_room); (case ku_q7 => ktr_units); k_whole); intro t' h' tk' F' N'; (try k_sweep))))
  k_with "call builtin:list.append" => ((k_dflt (refine' append_K ?k1_q7 ?k2_q7 ?k3_q7 ?_ ?z_q7; (case k1_q7 => k_asm); (case k2_q7 => k_asm); (case k3_q7 => k_upd); (case z_q7 => ((simp only [List.size_toArray]); rw [PySem.sizeLine_eq]; omega)); k_whole); intro h' F' nA9; (obtain ⟨vA9, dA9, N9, I9, e9, b9, c9⟩ := app_hide nA9 (by assumption)); clear nA9; (try simp only [List.length_cons, List.length_nil] at b9); (try k_sweep)))
  k_with "WhlIf" => (first | (refine WhlIf.yes (decide_eq_true (by omega)) ?_) | (refine WhlIf.no (decide_eq_false (by omega)) ?_))
  k_with "while" => k_dflt (refine whl_start 10 ?_)
  unfold Con
  k_fill
  intro dp un gd cn cs aa ccd cl outer A₀ base h₀ L m news s Q E mean mg mb B F X N T hk hd hu hpre hret
  obtain ⟨⟨vs, hl, hi⟩, ⟨vs2, hl2, hi2⟩⟩ := hpre
  have hlen9 : vs2.length = 2 := hi2.length
  refine wpAny_call ?_
  k_dflt ktd_step
  k_steps
  ktr_step
  subst_vars
  rfl
end

end
section
-- needs: C25 C27 C28 C8 C9
def fP (k : Int) : List Int := [0 - k, k - 2, 1]
def gP (k : Int) : List Int := shiftP (0 - k) (k - 2) 1 (0 - k)
def toldP (k : Int) : List (Int × Int) := (cvP [1, k, k, k, k, k, k, k]).2.2
def ta (k : Int) (i : Nat) : Int := ((toldP k).getD i (0, 0)).1
def tb (k : Int) (i : Nat) : Int := ((toldP k).getD i (0, 0)).2
def leastP (c : List Int) : Int := (((List.range (c.length + 1)).map fun (i : Nat) => (i : Int) + 1).find? fun a => !c.contains a).getD 0
def takenAt (k : Int) : Nat → List Int
  | 0 => []
  | i + 1 => takenAt k i ++ [leastP (takenAt k i), leastP (takenAt k i) + k * (1 + (i : Int))]
def smallB (ns : List Int) : Bool := ns.all fun x => decide (-2 ^ 60 < x ∧ x < 2 ^ 60)
theorem small_of {ns : List Int} (h : smallB ns = true) : Small ns := fun x hx => by simpa using List.all_eq_true.mp h x hx
def polyOk (f : List Int) : Bool := okGcd f (deriveP f) && okSt f && smallB f && smallB (deriveP f) && smallB (nextP f (deriveP f))
theorem polyOk_of {f : List Int} (h : polyOk f = true) : okGcd f (deriveP f) = true ∧ okSt f = true ∧ Small f ∧ Small (deriveP f) ∧ Small (nextP f (deriveP f)) := by
  unfold polyOk at h
  simp only [Bool.and_eq_true] at h
  exact ⟨h.1.1.1.1, h.1.1.1.2, small_of h.1.1.2, small_of h.1.2, small_of h.2⟩
def tbOk (k : Int) (i : Nat) : Bool := decide ((0 < tb k i ∧ tb k i < 2 ^ 30) ∧ (-2 ^ 60 < ta k i ∧ ta k i < 2 ^ 60))
def rowsOk (k : Int) : Bool := decide (toldP k = [(ta k 0, tb k 0), (ta k 1, tb k 1), (ta k 2, tb k 2), (ta k 3, tb k 3), (ta k 4, tb k 4), (ta k 5, tb k 5), (ta k 6, tb k 6), (ta k 7, tb k 7)]) &&
  decide ([tb k 0, tb k 1, tb k 2, tb k 3, tb k 4, tb k 5, tb k 6, tb k 7] = (recP [k, 1] 6 [1, k]).take 8) &&
  decide ([vsP (fP k) (ta k 0) (tb k 0), vsP (fP k) (ta k 1) (tb k 1), vsP (fP k) (ta k 2) (tb k 2), vsP (fP k) (ta k 3) (tb k 3), vsP (fP k) (ta k 4) (tb k 4), vsP (fP k) (ta k 5) (tb k 5), vsP (fP k) (ta k 6) (tb k 6), vsP (fP k) (ta k 7) (tb k 7)] = [-1, 1, -1, 1, -1, 1, -1, 1])
def factK (k : Int) : Bool := polyOk (fP k) && polyOk (gP k) && ((List.range 8).all (tbOk k)) && rowsOk k
theorem factK_all {k : Int} (h1 : 1 ≤ k) (h5 : k ≤ 5) : factK k = true := by
  have : k = 1 ∨ k = 2 ∨ k = 3 ∨ k = 4 ∨ k = 5 := by omega
  rcases this with rfl | rfl | rfl | rfl | rfl <;> decide +kernel
abbrev revP (k : Int) : List (Int × Int) := [(ta k 7, tb k 7), (ta k 6, tb k 6), (ta k 5, tb k 5), (ta k 4, tb k 4), (ta k 3, tb k 3), (ta k 2, tb k 2), (ta k 1, tb k 1), (ta k 0, tb k 0)]
def factN (k : Int) (i : Nat) : Bool :=
  let c := takenAt k i
  let a := leastP c
  let n : Int := 1 + (i : Int)
  let b := a + k * n
  decide (1 ≤ a ∧ a < 2 ^ 20) && decide (b < 2 ^ 20) && !c.contains a && !c.contains b && decide (takenGo (revP k) (n - 1) = (a, 0)) && decide (cntP (fP k) a n (a + 1) n = 1) && decide (cntP (gP k) b n (b + 1) n = 1) &&
    ((List.range (a.toNat - 1)).all fun (j : Nat) => c.contains ((j : Int) + 1)) && decide (c.length < 100)
theorem factN_all {k : Int} (h1 : 1 ≤ k) (h5 : k ≤ 5) {i : Nat} (hi : i < 8) : factN k i = true := by
  have : k = 1 ∨ k = 2 ∨ k = 3 ∨ k = 4 ∨ k = 5 := by omega
  have h : ∀ i < 8, factN k i = true := by rcases this with rfl | rfl | rfl | rfl | rfl <;> decide +kernel
  exact h i hi
theorem told_eq {k : Int} (h1 : 1 ≤ k) (h5 : k ≤ 5) : (cvP [1, k, k, k, k, k, k, k]).2.2 = [(ta k 0, tb k 0), (ta k 1, tb k 1), (ta k 2, tb k 2), (ta k 3, tb k 3), (ta k 4, tb k 4), (ta k 5, tb k 5), (ta k 6, tb k 6), (ta k 7, tb k 7)] := by
  have := factK_all h1 h5
  unfold factK rowsOk at this
  simp only [Bool.and_eq_true, decide_eq_true_eq] at this
  exact this.2.1.1
theorem bottoms_eq {k : Int} (h1 : 1 ≤ k) (h5 : k ≤ 5) : [tb k 0, tb k 1, tb k 2, tb k 3, tb k 4, tb k 5, tb k 6, tb k 7] = (recP [k, 1] 6 [1, k]).take 8 := by
  have := factK_all h1 h5
  unfold factK rowsOk at this
  simp only [Bool.and_eq_true, decide_eq_true_eq] at this
  exact this.2.1.2
theorem signs_eq {k : Int} (h1 : 1 ≤ k) (h5 : k ≤ 5) : [vsP [0 - k, k - 2, 1] (ta k 0) (tb k 0), vsP [0 - k, k - 2, 1] (ta k 1) (tb k 1), vsP [0 - k, k - 2, 1] (ta k 2) (tb k 2), vsP [0 - k, k - 2, 1] (ta k 3) (tb k 3), vsP [0 - k, k - 2, 1] (ta k 4) (tb k 4), vsP [0 - k, k - 2, 1] (ta k 5) (tb k 5), vsP [0 - k, k - 2, 1] (ta k 6) (tb k 6), vsP [0 - k, k - 2, 1] (ta k 7) (tb k 7)] = [-1, 1, -1, 1, -1, 1, -1, 1] := by
  have := factK_all h1 h5
  unfold factK rowsOk at this
  simp only [Bool.and_eq_true, decide_eq_true_eq] at this
  exact this.2.2
theorem bnd_of {k : Int} (h1 : 1 ≤ k) (h5 : k ≤ 5) {i : Nat} (hi : i < 8) : (0 < tb k i ∧ tb k i < 2 ^ 30) ∧ (-2 ^ 60 < ta k i ∧ ta k i < 2 ^ 60) := by
  have := factK_all h1 h5
  unfold factK at this
  simp only [Bool.and_eq_true] at this
  have h := List.all_eq_true.mp this.1.2 i (List.mem_range.mpr hi)
  simpa [tbOk] using h
theorem bndb_of {k : Int} (h1 : 1 ≤ k) (h5 : k ≤ 5) {i : Nat} (hi : i < 8) : -2 ^ 60 < tb k i ∧ tb k i < 2 ^ 60 := by
  have := (bnd_of h1 h5 hi).1
  omega
theorem polyF {k : Int} (h1 : 1 ≤ k) (h5 : k ≤ 5) : polyOk [0 - k, k - 2, 1] = true := by
  have := factK_all h1 h5
  unfold factK at this
  simp only [Bool.and_eq_true] at this
  exact this.1.1.1
theorem polyG {k : Int} (h1 : 1 ≤ k) (h5 : k ≤ 5) : polyOk (shiftP (0 - k) (k - 2) 1 (0 - k)) = true := by
  have := factK_all h1 h5
  unfold factK at this
  simp only [Bool.and_eq_true] at this
  exact this.1.1.2
theorem told_small {k : Int} (h1 : 1 ≤ k) (h5 : k ≤ 5) : Small [1, k, k, k, k, k, k, k] := by
  intro x hx
  simp only [List.mem_cons, List.not_mem_nil, or_false] at hx
  omega
theorem told_len {k : Int} : [1, k, k, k, k, k, k, k].length < 2 ^ 16 := by simp
theorem small_k1 {k : Int} (h1 : 1 ≤ k) (h5 : k ≤ 5) : Small [k, 1] := by
  intro x hx
  simp only [List.mem_cons, List.not_mem_nil, or_false] at hx
  omega
theorem le_shift {d : List Int} {a b c n : Int} (e : d = shiftP a b c n) : d.length = 3 := by rw [e]; rfl
theorem le_take8 {d xs : List Int} (e : d = xs.take 8) : d.length ≤ 8 := by rw [e, List.length_take]; omega
structure FactN (k : Int) (i : Nat) (c : List Int) : Prop where
  a1 : 1 ≤ leastP c ∧ leastP c < 2 ^ 20
  b1 : leastP c + k * (1 + (i : Int)) < 2 ^ 20
  na : leastP c ∉ c
  nb : (leastP c + k * (1 + (i : Int))) ∉ c
  tk : takenGo (revP k) (1 + (i : Int) - 1) = (leastP c, 0)
  cf : cntP (fP k) (leastP c) (1 + (i : Int)) (leastP c + 1) (1 + (i : Int)) = 1
  cg : cntP (gP k) (leastP c + k * (1 + (i : Int))) (1 + (i : Int)) (leastP c + k * (1 + (i : Int)) + 1) (1 + (i : Int)) = 1
  mem : ∀ a : Int, 1 ≤ a → a < leastP c → a ∈ c
  len : c.length < 100
theorem factN_of {k : Int} (h1 : 1 ≤ k) (h5 : k ≤ 5) {i : Nat} (hi : i < 8) : FactN k i (takenAt k i) := by
  have h := factN_all h1 h5 hi
  unfold factN at h
  simp only [Bool.and_eq_true, decide_eq_true_eq, Bool.not_eq_true', List.all_eq_true, List.mem_range] at h
  obtain ⟨⟨⟨⟨⟨⟨⟨⟨a1, b1⟩, na⟩, nb⟩, tk⟩, cf⟩, cg⟩, mem⟩, len⟩ := h
  refine ⟨a1, b1, by simpa using na, by simpa using nb, tk, cf, cg, fun a ha hb => ?_, len⟩
  have := mem (a.toNat - 1) (by omega)
  have e : ((a.toNat - 1 : Nat) : Int) + 1 = a := by omega
  rw [e] at this
  simpa using this

end
section
-- needs: C29
section
variable {prog : Program} {w : World} {A : Around} {E : Value → Shared → Prop} {s : Shared} {env : Env} {h₀ : Heap} {x : Str} {body : List Stmt} {Q : Flow → Shared → Prop}
/-- a loop over a range by an invariant over the turn's number, the frame's map and the ledger -/
theorem iter_rangeG {r : Addr} {a₀ b₀ : Int} {t₀ u₀ v₀ : Tok} {n : Nat} {m₀ : Str → Option Value} {news : List (Addr × Obj)} (J : Nat → (Str → Option Value) → List (Addr × Obj) → Prop)
    (hh : A.handled = none) (hr : IsRange s.heap r a₀ b₀ 1 t₀ u₀ v₀) (hsmall : Builtin.Range.small a₀ b₀ 1 = true) (hsz : Builtin.Range.rangeSize a₀ b₀ 1 = (n : Int)) (F : Fr h₀ env.locals s.heap m₀) (N : News h₀ env.locals s.heap news) (hj : J 0 m₀ news)
    (turn : ∀ i t m₁ nx h tk own, i < n → OwnOff own (nx.map (·.1)) → J i m₁ nx → Fr h₀ env.locals h (fun y => if y = x then some (.int (a₀ + (i : Int)) t) else m₁ y) → News h₀ env.locals h (nx ++ own) →
      wpAny (model prog w) A (execs body env) (InvPostG h₀ env.locals (J (i + 1)) own { s with heap := h, toks := tk } Q) E { s with heap := h, toks := tk })
    (done : ∀ m₁ nx h tk, J n m₁ nx → Fr h₀ env.locals h m₁ → News h₀ env.locals h nx → Q .next { s with heap := h, toks := tk }) :
    wpAny (model prog w) A (pyIter (.ref r)) (fun it s₂ => LoopAtV prog w A h₀ env x body Q E it s₂) E s := by
  refine wpAny_pyIter_range hr hsmall ?_
  have W : Walks prog w A s.heap.objs.size [s.heap.objs.size] [s.heap.objs.size] n (fun i v => i < n ∧ ∃ t, v = .int (a₀ + i * 1) t)
      (fun i h => IsRangeIter h s.heap.objs.size (a₀ + (i : Nat) * 1) ((n : Int) - (i : Nat)) 1) := (Walks.range hh _ a₀ 1 n).bound
  refine kdr_loop J W (fun _ h => h) (fun _ h => h) ?_ ?_ ?_ ?_ (by show IsRangeIter _ _ _ _ _; rw [hsz]; simpa using Heap.get?_push_size _ rfl) (F.push _) (fun p hp => ⟨Heap.get?_push_of_some _ (N p hp).1, (N p hp).2⟩) hj ?_ ?_
  · intro i h hi b hb
    rw [List.mem_singleton.mp hb]
    exact ⟨_, hi⟩
  · intro hm
    exact absurd F.ns.lt ((List.mem_singleton.mp hm) ▸ Nat.lt_irrefl _)
  · intro b hb
    rw [List.mem_singleton.mp hb]
    exact next_is_new F
  · intro p hp hI
    exact absurd (Heap.lt_size (N p hp).1) ((List.mem_singleton.mp hI) ▸ Nat.lt_irrefl _)
  · rintro i v m₁ nx h tk own hi ⟨_, t, rfl⟩ hoff hJ F₁ N₁
    have e1 : a₀ + (i : Int) * 1 = a₀ + (i : Int) := by omega
    rw [e1] at F₁
    exact turn i t m₁ nx h tk own hi hoff hJ F₁ N₁
  · exact done
end
/-- what holds between the law's turns -/
def LawJ (k : Int) (C : List (Addr × Obj)) (T G : Value) (tk : Tok) (i : Nat) (m : Str → Option Value) (nx : List (Addr × Obj)) : Prop :=
  ∃ (l : Addr) (vs : List Value) (n : Nat), nx = (l, listOf vs.toArray n) :: C ∧ IntsAre vs (takenAt k i) ∧ m (Str.ofString "taken") = some (.ref l) ∧ m (Str.ofString "told") = some T ∧ m (Str.ofString "further") = some G ∧ m (Str.ofString "k") = some (.int k tk)
theorem m_form {m : Str → Option Value} {v1 v2 v3 v4 : Value} (h1 : m (Str.ofString "taken") = some v1) (h2 : m (Str.ofString "told") = some v2) (h3 : m (Str.ofString "further") = some v3) (h4 : m (Str.ofString "k") = some v4) :
    ∃ u : Str → Option Value, m = fun y => if y = Str.ofString "taken" then some v1 else if y = Str.ofString "told" then some v2 else if y = Str.ofString "further" then some v3 else if y = Str.ofString "k" then some v4 else u y := by
  refine ⟨m, funext fun y => ?_⟩
  by_cases e1 : y = Str.ofString "taken"
  · rw [if_pos e1, e1, h1]
  rw [if_neg e1]
  by_cases e2 : y = Str.ofString "told"
  · rw [if_pos e2, e2, h2]
  rw [if_neg e2]
  by_cases e3 : y = Str.ofString "further"
  · rw [if_pos e3, e3, h3]
  rw [if_neg e3]
  by_cases e4 : y = Str.ofString "k"
  · rw [if_pos e4, e4, h4]
  rw [if_neg e4]
theorem least_turn {c : List Int} {a : Int} (h : 1 ≤ a ∧ a ≤ leastP c) (hm : a ∈ c) (hn : leastP c ∉ c) : 1 ≤ a + 1 ∧ a + 1 ≤ leastP c := by
  have : a ≠ leastP c := fun e => hn (e ▸ hm)
  omega
theorem least_done {c : List Int} {a : Int} (h : 1 ≤ a ∧ a ≤ leastP c) (hm : a ∉ c) (hmem : ∀ a : Int, 1 ≤ a → a < leastP c → a ∈ c) : a = leastP c := by
  have : ¬ a < leastP c := fun q => hm (hmem a h.1 q)
  omega
theorem news_dup {h₀ h : Heap} {L l : Addr} {o : Obj} {nx : List (Addr × Obj)} (N : News h₀ L h nx) (hm : (l, o) ∈ nx) : News h₀ L h ((l, o) :: nx) := fun p hp => by
  rcases List.mem_cons.mp hp with rfl | hp
  · exact N _ hm
  · exact N p hp
theorem law_range {prog : Program} {w : World} {A : Around} {E : Value → Shared → Prop} {s : Shared} {env : Env} {h₀ : Heap} {x : Str} {body : List Stmt} {Q : Flow → Shared → Prop} {r l : Addr} {b₀ : Int} {t₀ u₀ v₀ : Tok} {n n0 : Nat} {m₀ : Str → Option Value} {news : List (Addr × Obj)} {k : Int} {T G : Value} {tk : Tok}
    (F : Fr h₀ env.locals s.heap m₀) (N : News h₀ env.locals s.heap news) (hm1 : m₀ (Str.ofString "taken") = some (.ref l)) (hm2 : m₀ (Str.ofString "told") = some T) (hm3 : m₀ (Str.ofString "further") = some G) (hm4 : m₀ (Str.ofString "k") = some (.int k tk)) (hmem : (l, listOf #[] n0) ∈ news)
    (hh : A.handled = none) (hr : IsRange s.heap r 1 b₀ 1 t₀ u₀ v₀) (hsmall : Builtin.Range.small 1 b₀ 1 = true) (hsz : Builtin.Range.rangeSize 1 b₀ 1 = (n : Int))
    (turn : ∀ (i : Nat) (t : Tok) (l : Addr) (vs : List Value) (cnt : Nat) (u : Str → Option Value) (h : Heap) (tk' : Nat) (own : List (Addr × Obj)), i < n → OwnOff own (l :: news.map (·.1)) → IntsAre vs (takenAt k i) →
      Fr h₀ env.locals h (fun y => if y = x then some (.int (1 + (i : Int)) t) else if y = Str.ofString "taken" then some (.ref l) else if y = Str.ofString "told" then some T else if y = Str.ofString "further" then some G else if y = Str.ofString "k" then some (.int k tk) else u y) →
      News h₀ env.locals h ((l, listOf vs.toArray cnt) :: (news ++ own)) →
      wpAny (model prog w) A (execs body env) (InvPostG h₀ env.locals (LawJ k news T G tk (i + 1)) own { s with heap := h, toks := tk' } Q) E { s with heap := h, toks := tk' })
    (done : ∀ m₁ nx h tk', Fr h₀ env.locals h m₁ → News h₀ env.locals h nx → Q .next { s with heap := h, toks := tk' }) :
    wpAny (model prog w) A (pyIter (.ref r)) (fun it s₂ => LoopAtV prog w A h₀ env x body Q E it s₂) E s := by
  refine iter_rangeG (LawJ k news T G tk) hh hr hsmall hsz F (news_dup N hmem) ⟨l, [], n0, rfl, .nil, hm1, hm2, hm3, hm4⟩ ?_ fun m₁ nx h tk' _ F' N' => done m₁ nx h tk' F' N'
  rintro i t m₁ nx h tk' own hi hoff ⟨l', vs, cnt, rfl, hI, h1, h2, h3, h4⟩ F₁ N₁
  obtain ⟨u, rfl⟩ := m_form h1 h2 h3 h4
  exact turn i t l' vs cnt u h tk' own hi hoff hI F₁ N₁
/-- what a turn's numbers answer, the turn's number a as a letter -/
theorem turn_facts {k : Int} (h1 : 1 ≤ k) (h5 : k ≤ 5) {i : Nat} (hi : i < 8) : ∃ (c : List Int) (a : Int), takenAt k i = c ∧ c.length < 100 ∧ (1 ≤ a ∧ a < 2 ^ 20) ∧ (-2 ^ 21 < a + k * (1 + (i : Int)) ∧ a + k * (1 + (i : Int)) < 2 ^ 20) ∧ a ∉ c ∧ (a + k * (1 + (i : Int))) ∉ c ∧
    (takenGo [(ta k 7, tb k 7), (ta k 6, tb k 6), (ta k 5, tb k 5), (ta k 4, tb k 4), (ta k 3, tb k 3), (ta k 2, tb k 2), (ta k 1, tb k 1), (ta k 0, tb k 0)] (1 + (i : Int) - 1)).2 = 0 ∧
    (takenGo [(ta k 7, tb k 7), (ta k 6, tb k 6), (ta k 5, tb k 5), (ta k 4, tb k 4), (ta k 3, tb k 3), (ta k 2, tb k 2), (ta k 1, tb k 1), (ta k 0, tb k 0)] (1 + (i : Int) - 1)).1 = a ∧
    cntP [0 - k, k - 2, 1] a (1 + (i : Int)) (a + 1) (1 + (i : Int)) = 1 ∧
    cntP (shiftP (0 - k) (k - 2) 1 (0 - k)) (a + k * (1 + (i : Int))) (1 + (i : Int)) (a + k * (1 + (i : Int)) + 1) (1 + (i : Int)) = 1 ∧
    (∀ x : Int, 1 ≤ x → x < a → x ∈ c) ∧ takenAt k (i + 1) = c ++ [a, a + k * (1 + (i : Int))] := by
  have f := factN_of h1 h5 hi
  have hp : 0 ≤ k * (1 + (i : Int)) := Int.mul_nonneg (by omega) (by omega)
  exact ⟨_, _, rfl, f.len, f.a1, ⟨by have := f.a1; omega, f.b1⟩, f.na, f.nb, by rw [f.tk], by rw [f.tk], f.cf, f.cg, f.mem, rfl⟩
/-- while a in taken: a = a + 1 -/
def WhT (h₀ : Heap) (L : Addr) (s : Shared) (m : Str → Option Value) (news : List (Addr × Obj)) (c : List Int) (a : Int) (b : Bool) (s₂ : Shared) : Prop :=
  b = c.any (· == a) ∧ ∃ t h' tk', s₂ = { s with heap := h', toks := tk' } ∧ Fr h₀ L h' (fun y => if y = Str.ofString "a" then some (.int a t) else m y) ∧ News h₀ L h' news
def WhB (h₀ : Heap) (L : Addr) (s : Shared) (m : Str → Option Value) (news : List (Addr × Obj)) (a : Int) (f : Flow) (s₂ : Shared) : Prop :=
  f = .next ∧ ∃ t h' tk', s₂ = { s with heap := h', toks := tk' } ∧ Fr h₀ L h' (fun y => if y = Str.ofString "a" then some (.int (a + 1) t) else m y) ∧ News h₀ L h' news
theorem law_while {prog : Program} {w : World} {A : Around} {E : Value → Shared → Prop} {Q : Flow → Shared → Prop} {s : Shared} {env : Env} {h₀ : Heap} {L : Addr} {test : Expr} {body : List Stmt} {pos : Pos} {m : Str → Option Value} {news : List (Addr × Obj)} {c : List Int} {b : Int} {t₀ : Tok}
    (F : Fr h₀ L s.heap (fun y => if y = Str.ofString "a" then some (.int 1 t₀) else m y)) (N : News h₀ L s.heap news) (hb : 1 ≤ b) (hn : b ∉ c) (hmem : ∀ x : Int, 1 ≤ x → x < b → x ∈ c)
    (ttest : ∀ (a : Int) (t : Tok) (h : Heap) (tk : Nat), 1 ≤ a → a ≤ b → Fr h₀ L h (fun y => if y = Str.ofString "a" then some (.int a t) else m y) → News h₀ L h news →
      wpAny (model prog w) A (isTrue test env (eval test env)) (WhT h₀ L s m news c a) E { s with heap := h, toks := tk })
    (tbody : ∀ (a : Int) (t : Tok) (h : Heap) (tk : Nat), 1 ≤ a → a < b → Fr h₀ L h (fun y => if y = Str.ofString "a" then some (.int a t) else m y) → News h₀ L h news →
      wpAny (model prog w) A (execs body env) (WhB h₀ L s m news a) E { s with heap := h, toks := tk })
    (done : ∀ (t : Tok) (h : Heap) (tk : Nat), Fr h₀ L h (fun y => if y = Str.ofString "a" then some (.int b t) else m y) → News h₀ L h news → Q .next { s with heap := h, toks := tk })
    (hE : PassesOwn (model prog w) A env E := by passes_own) :
    wpAny (model prog w) A (exec (.While test body [] pos) env) Q E s := by
  refine While_inv2 (fun n m' nx => ∃ (a : Int) (t : Tok), nx = news ∧ m' = (fun y => if y = Str.ofString "a" then some (.int a t) else m y) ∧ 1 ≤ a ∧ a ≤ b ∧ n = (b - a).toNat) F N ⟨1, t₀, rfl, rfl, Int.le_refl _, hb, rfl⟩ ?_ hE
  rintro n m₁ nx h tk F₁ N₁ ⟨a, t, rfl, rfl, ha, hab, rfl⟩
  refine wpAny_mono (ttest a t h tk ha hab F₁ N₁) (fun b' s₂ h₂ => ?_) fun _ _ x => x
  obtain ⟨rfl, t', h', tk', rfl, F₂, N₂⟩ := h₂
  cases hc : c.any (· == a) with
  | true =>
    rw [if_pos rfl]
    have hm : a ∈ c := by
      obtain ⟨x, hx, e⟩ := List.any_eq_true.mp hc
      rw [← eq_of_beq e]; exact hx
    have hlt : a < b := by
      have : a ≠ b := fun e => hn (e ▸ hm)
      omega
    refine wpAny_mono (tbody a t' h' tk' ha hlt F₂ N₂) (fun f s₃ h₃ => ?_) fun _ _ x => x
    obtain ⟨rfl, t3, h3, tk3, rfl, F₃, N₃⟩ := h₃
    exact ⟨h3, tk3, _, nx, (b - (a + 1)).toNat, rfl, F₃, N₃, by omega, a + 1, t3, rfl, rfl, by omega, by omega, rfl⟩
  | false =>
    rw [if_neg (by simp)]
    have e : a = b := by
      have : ¬ a < b := fun q => by
        have := List.any_eq_false.mp hc a (hmem a ha q)
        simp at this
      omega
    subst e
    exact done t' h' tk' F₂ N₂
theorem in_no {prog : Program} {w : World} {A : Around} {E : Value → Shared → Prop} {s : Shared} {l : Addr} {vs : List Value} {ns : List Int} {k : Int} {t : Tok} {Q : Value → Shared → Prop} (hl : s.heap.IsList l vs.toArray) (hi : IntsAre vs ns) (hn : k ∉ ns)
    (h : Q (.bool false) s) : wpAny (model prog w) A (compareOp .In (.int k t) (.ref l)) Q E s := by
  refine in_list_ints hl hi ?_
  have : ns.any (· == k) = false := List.any_eq_false.mpr fun x hx e => hn (by rw [← eq_of_beq e]; exact hx)
  rw [this]; exact h
theorem turn_end {h₀ h' : Heap} {L l : Addr} {m' : Str → Option Value} {own nx C : List (Addr × Obj)} {s : Shared} {tk : Nat} {k : Int} {T G : Value} {tkk : Tok} {i : Nat} {vs : List Value} {n : Nat} {ns : List Int}
    (F : Fr h₀ L h' m') (N : News h₀ L h' nx) (hI : IntsAre vs ns) (e : takenAt k (i + 1) = ns) (h1 : m' (Str.ofString "taken") = some (.ref l)) (h2 : m' (Str.ofString "told") = some T) (h3 : m' (Str.ofString "further") = some G) (h4 : m' (Str.ofString "k") = some (.int k tkk))
    (hm : (l, listOf vs.toArray n) ∈ nx) (hC : ∀ p ∈ C, p ∈ nx) (ho : ∀ p ∈ own, p ∈ nx) (hoff : ∀ p ∈ own, p.1 ≠ l) (hoff0 : OwnOff own (C.map (·.1))) :
    InvEndG h₀ L (LawJ k C T G tkk (i + 1)) own s { s with heap := h', toks := tk } := by
  refine InvEndG.intro (nx := (l, listOf vs.toArray n) :: C) F N ⟨l, vs, n, rfl, e ▸ hI, h1, h2, h3, h4⟩ ?_ ?_ ho
  · intro p hp b hb
    rcases List.mem_cons.mp hb with rfl | hb
    · exact hoff p hp
    · exact hoff0 p hp b hb
  · intro p hp
    rcases List.mem_cons.mp hp with rfl | hp
    · exact hm
    · exact hC p hp
theorem Con.eqI {w : World} {D : Nat} {f : Addr} {vs : List Value} {Pre : Heap → Prop} {x y : Int} (C : Con w D f vs Pre (RInt x)) (e : x = y) : Con w D f vs Pre (RInt y) := e ▸ C
theorem ite_bne {a : Int} {P Q : Prop} {d : Decidable ((a != a) = true)} (h : Q) : if (a != a) = true then P else Q := by
  rw [if_neg (by simp)]; exact h
theorem ite_eqd {α : Type} {x y : α} {i : Decidable (x = y)} {d : Decidable ((!decide (x = y)) = true)} {P Q : Prop} (e : x = y) (h : Q) : if (!decide (x = y)) = true then P else Q := by
  rw [if_neg (by simp [e])]; exact h
theorem fr_over {h₀ : Heap} {L : Addr} {h : Heap} {x : Str} {v w : Value} {m : Str → Option Value} (F : Fr h₀ L h (fun y => if y = x then some v else if y = x then some w else m y)) : Fr h₀ L h (fun y => if y = x then some v else m y) := by
  have e : (fun y => if y = x then some v else if y = x then some w else m y) = fun y => if y = x then some v else m y := funext fun y => by
    by_cases h : y = x <;> simp [h]
  rw [← e]; exact F
theorem off_tail {own : List (Addr × Obj)} {l : Addr} {adr : List Addr} (h : OwnOff own (l :: adr)) : OwnOff own adr := fun p hp b hb => h p hp b (List.mem_cons_of_mem _ hb)
theorem fr_swap {h₀ : Heap} {L : Addr} {h : Heap} {x z : Str} {v w : Option Value} {m : Str → Option Value} (hne : x ≠ z) (F : Fr h₀ L h (fun y => if y = x then v else if y = z then w else m y)) : Fr h₀ L h (fun y => if y = z then w else if y = x then v else m y) := by
  have e : (fun y => if y = x then v else if y = z then w else m y) = fun y => if y = z then w else if y = x then v else m y := funext fun y => by
    by_cases h1 : y = x
    · subst h1; simp [hne]
    · simp [h1]
  rw [← e]; exact F
theorem apt_at {news : List (Addr × Obj)} {D : Addr} {p : Addr × Obj} (h : Apt news D) (hp : p ∈ news) : p.1 ≠ D := h p hp

end
section
-- needs: C31
/-- the two draws' end: all ways meet -/
def CutP (h₀ : Heap) (L : Addr) (s : Shared) (o : Obj) (f : Flow) (s' : Shared) : Prop := f = .next ∧ ∃ (k many : Int) (t u : Tok) (g : Str → Option Value) (h' : Heap) (tk' : Nat), s' = { s with heap := h', toks := tk' } ∧ (1 ≤ k ∧ k ≤ 5) ∧ (3 ≤ many ∧ many ≤ 8) ∧
  Fr h₀ L h' (fun y => if y = Str.ofString "many" then some (.int many u) else if y = Str.ofString "k" then some (.int k t) else g y) ∧ News h₀ L h' [(L + 1, o)]
theorem law_cut {prog : Program} {w : World} {A : Around} {E : Value → Shared → Prop} {s : Shared} {h₀ : Heap} {L : Addr} {m : Str → Option Value} {o : Obj} {d : Option Value} {t : Sem Flow} {Q : Flow → Shared → Prop} (_F : Fr h₀ L s.heap m) (_hd : o.data = Data.cell d)
    (h1 : wpAny (model prog w) A t (CutP h₀ L s o) E s)
    (h2 : ∀ (k many : Int) (t u : Tok) (g : Str → Option Value) (h' : Heap) (tk' : Nat), 1 ≤ k → k ≤ 5 → 3 ≤ many → many ≤ 8 → Fr h₀ L h' (fun y => if y = Str.ofString "many" then some (.int many u) else if y = Str.ofString "k" then some (.int k t) else g y) → News h₀ L h' [(L + 1, o)] → Q .next { s with heap := h', toks := tk' }) :
    wpAny (model prog w) A t Q E s :=
  wpAny_mono h1 (fun f s' ⟨e, k, many, t, u, g, h', tk', e2, hk, hm, F, N⟩ => by subst e; subst e2; exact h2 k many t u g h' tk' hk.1 hk.2 hm.1 hm.2 F N) fun _ _ x => x
theorem cut_news {h₀ h : Heap} {L c : Addr} {o : Obj} {nx : List (Addr × Obj)} (N : News h₀ L h nx) (hm : (c, o) ∈ nx) : News h₀ L h [(c, o)] := fun p hp => by
  obtain rfl := List.mem_singleton.mp hp
  exact N _ hm
section
theorem law0 : PySem.Challenge.rw_xm0093_01.Holds := by
  refine hd.2 ?_
  dsimp only [hd]
  w_top off
  k_with_none
  k_with "ktd_step" => (first | (refine' code_defG ?k1_q7 ?k2_q7 ?k3_q7 ?k4_q7 ?k5_q7 ?kA_q7 ?kF_q7 ?kK_q7 ?k6_q7 ?k7_q7 ?k8_q7 ?k9_q7 ?kB_q7 ?_ ?c2_q7 ?c3_q7 ?c4_q7 ?c5_q7; (case kA_q7 => exact rfl); (case kF_q7 => exact rfl); (case kK_q7 => assumption); (case k1_q7 => k_asm); (case k2_q7 => k_asm); (case k3_q7 => k_asm); (case k4_q7 => k_asm); (case k5_q7 => k_asm); (case k6_q7 => k_is); (case k7_q7 => k_is); (case k8_q7 => ktr_room); (case k9_q7 => exact BindsTo.of_eq rfl); (case c5_q7 => decide); (case kB_q7 => exact locs rfl); (case c2_q7 => exact rfl); (case c3_q7 => exact rfl); (case c4_q7 => exact rfl); k_whole; intro L' h' F' N' B' X' T'; (try dsimp only); (try k_fold)) | (refine' code_defGC ?k1_q7 ?k2_q7 ?k3_q7 ?k4_q7 ?k5_q7 ?kA_q7 ?kF_q7 ?kK_q7 ?k6_q7 ?k7_q7 ?k8_q7 ?k9_q7 ?kB_q7 ?kD_q7 ?_ ?c2_q7 ?c3_q7 ?c4_q7; (case kA_q7 => exact rfl); (case kF_q7 => exact rfl); (case kK_q7 => assumption); (case k1_q7 => k_asm); (case k2_q7 => k_asm); (case k3_q7 => k_asm); (case k4_q7 => k_asm); (case k5_q7 => k_asm); (case k6_q7 => k_is); (case k7_q7 => k_is); (case k8_q7 => ktr_room); (case k9_q7 => exact BindsTo.of_eq rfl); (case kB_q7 => exact rfl); (case kD_q7 => decide +kernel); (case c2_q7 => exact rfl); (case c3_q7 => exact rfl); (case c4_q7 => exact rfl); k_whole; intro L' h' tk' cells' F' N' Y' B' X' T'; k_cells Y'; (try dsimp only); (try k_fold)) | fail "step: no entry")
  k_with "ktr_step" => ((refine rlist_end (by assumption) (by assumption) (by assumption) (by assumption) (by assumption) (by assumption) List.mem_cons_self (by assumption) ?_))
  k_with "ktn_step" => ((refine rlist_end (vs := []) (by assumption) (by assumption) (by assumption) (by assumption) (by assumption) (by assumption) List.mem_cons_self IntsAre.nil ?_))
  k_with "ktf_step" => (first | assumption | exact lt_wid (by with_reducible assumption) (by k_dflt (exact rfl)) | k_dflt (exact Nat.le_of_ble_eq_true rfl) | l_fit)
  k_with "exec While Compare cons nil" => ((k_extra "while"))
  k_with "k_ne" => ((refine neN ?_; (try dsimp only); first | exact Apt.use (by assumption) (by k_mem) | exact Ne.symm (Apt.use (by assumption) (by k_mem)) | ((with_reducible rename (@Ne Nat _ _ ∧ _) ∧ _ => q9); first | with_reducible exact q9.1.1 | with_reducible exact Ne.symm q9.1.1 | with_reducible exact q9.1.2.1 | with_reducible exact Ne.symm q9.1.2.1 | with_reducible exact q9.1.2.2 | with_reducible exact Ne.symm q9.1.2.2 | with_reducible exact q9.1 | with_reducible exact Ne.symm q9.1 | with_reducible exact q9.2.1 | with_reducible exact Ne.symm q9.2.1 | with_reducible exact q9.2.2 | with_reducible exact Ne.symm q9.2.2 | with_reducible exact q9.2.1.1 | with_reducible exact Ne.symm q9.2.1.1 | with_reducible exact q9.2.1.2.1 | with_reducible exact Ne.symm q9.2.1.2.1 | with_reducible exact q9.2.1.2.2 | with_reducible exact Ne.symm q9.2.1.2.2 | with_reducible exact q9.2.2.1 | with_reducible exact Ne.symm q9.2.2.1 | with_reducible exact q9.2.2.2 | with_reducible exact Ne.symm q9.2.2.2 | with_reducible exact q9.2.2.1.1 | with_reducible exact Ne.symm q9.2.2.1.1 | with_reducible exact q9.2.2.1.2.1 | with_reducible exact Ne.symm q9.2.2.1.2.1 | with_reducible exact q9.2.2.1.2.2 | with_reducible exact Ne.symm q9.2.2.1.2.2 | with_reducible exact q9.2.2.2.1 | with_reducible exact Ne.symm q9.2.2.2.1 | with_reducible exact q9.2.2.2.2 | with_reducible exact Ne.symm q9.2.2.2.2 | with_reducible exact q9.2.2.2.1.1 | with_reducible exact Ne.symm q9.2.2.2.1.1 | with_reducible exact q9.2.2.2.1.2.1 | with_reducible exact Ne.symm q9.2.2.2.1.2.1 | with_reducible exact q9.2.2.2.1.2.2 | with_reducible exact Ne.symm q9.2.2.2.1.2.2 | with_reducible exact q9.2.2.2.2.1 | with_reducible exact Ne.symm q9.2.2.2.2.1 | with_reducible exact q9.2.2.2.2.2 | with_reducible exact Ne.symm q9.2.2.2.2.2 | with_reducible exact q9.2.2.2.2.1.1 | with_reducible exact Ne.symm q9.2.2.2.2.1.1 | with_reducible exact q9.2.2.2.2.1.2.1 | with_reducible exact Ne.symm q9.2.2.2.2.1.2.1 | with_reducible exact q9.2.2.2.2.1.2.2 | with_reducible exact Ne.symm q9.2.2.2.2.1.2.2 | with_reducible exact q9.2.2.2.2.2.1 | with_reducible exact Ne.symm q9.2.2.2.2.2.1 | with_reducible exact q9.2.2.2.2.2.2 | with_reducible exact Ne.symm q9.2.2.2.2.2.2) | ((with_reducible rename @Ne Nat _ _ ∧ _ => q9); first | with_reducible exact q9.1 | with_reducible exact Ne.symm q9.1 | with_reducible exact q9.2.1 | with_reducible exact Ne.symm q9.2.1 | with_reducible exact q9.2.2 | with_reducible exact Ne.symm q9.2.2)))
  k_with "execs cons" => ((dsimp only))
  k_with "eval BinOp" => ((dsimp only))
  k_with "storeName" => ((dsimp only))
  k_with "ktr_room" => ((first | exact room_of (by with_reducible assumption) (by k_dflt (exact rfl)) | exact room_in (by with_reducible assumption)))
  k_with "ktr_units" => ((exact room_of (by with_reducible assumption) (by k_dflt (exact rfl))))
  k_with "omega" => ((first | (with_reducible assumption) | exact lt_wid (by with_reducible assumption) (by k_dflt (exact rfl)) | exact le_wid (by with_reducible assumption) (by k_dflt (exact rfl)) | (k_dflt (exact Nat.le_of_ble_eq_true rfl)) | exact ilt_wid (And.right (by with_reducible assumption)) (by k_dflt (exact rfl)) | exact igt_wid (And.left (by with_reducible assumption)) (by k_dflt (exact rfl)) | (k_dflt decide) | exact Apt.use (by with_reducible assumption) (by k_mem) | exact Ne.symm (Apt.use (by with_reducible assumption) (by k_mem)) | ((repeat ((with_reducible rename (@Ne Nat _ _ ∧ _) ∧ _ => q9); clear q9)); (repeat ((with_reducible rename @Ne Nat _ _ ∧ _ => q9); clear q9)); (try clear hu); (try clear hd); omega +splitNatSub)))
  k_with "ktf_step" => (first | assumption | exact lt_wid (by with_reducible assumption) (by k_dflt (exact rfl)) | k_dflt (exact Nat.le_of_ble_eq_true rfl) | l_fit | ((simp only [List.length_cons, List.length_nil]); omega) | (simp only [List.length_cons, List.length_nil, List.length_append]; first | done | omega) | exact Nat.le_refl _)
  k_with "ktr_rel" => (first | assumption | exact IsTup.keeps (by assumption) (Fr.keep (by assumption)) | exact News.isTup (by assumption) (by k_mem) | fail "no tuple")
  k_with "subscriptTail Name BinOp ref int" => (((with_reducible show wpAny _ _ (subscriptTail _ _ (Value.ref _) (Value.int _ _)) _ _ _); k_dflt (refine' item_list_ints ?k1_q7 ?k2_q7 ?k3_q7 ?k4_q7 ?k5_q7 ?_; (case k1_q7 => first | exact News.isList (by assumption) (by k_mem) | is_list); (case k2_q7 => assumption); (case k3_q7 => ((repeat ((with_reducible rename (@Ne Nat _ _ ∧ _) ∧ _ => q9); clear q9)); (repeat ((with_reducible rename @Ne Nat _ _ ∧ _ => q9); clear q9)); omega)); (case k4_q7 => ((repeat ((with_reducible rename (@Ne Nat _ _ ∧ _) ∧ _ => q9); clear q9)); (repeat ((with_reducible rename @Ne Nat _ _ ∧ _ => q9); clear q9)); omega)); (case k5_q7 => ((repeat ((with_reducible rename (@Ne Nat _ _ ∧ _) ∧ _ => q9); clear q9)); (repeat ((with_reducible rename @Ne Nat _ _ ∧ _ => q9); clear q9)); omega)); k_whole); intro _))
  k_with "subscriptTail Name Name ref int" => (((with_reducible show wpAny _ _ (subscriptTail _ _ (Value.ref _) (Value.int _ _)) _ _ _); k_dflt (refine' item_list_ints ?k1_q7 ?k2_q7 ?k3_q7 ?k4_q7 ?k5_q7 ?_; (case k1_q7 => first | exact News.isList (by assumption) (by k_mem) | is_list); (case k2_q7 => assumption); (case k3_q7 => ((repeat ((with_reducible rename (@Ne Nat _ _ ∧ _) ∧ _ => q9); clear q9)); (repeat ((with_reducible rename @Ne Nat _ _ ∧ _ => q9); clear q9)); omega)); (case k4_q7 => ((repeat ((with_reducible rename (@Ne Nat _ _ ∧ _) ∧ _ => q9); clear q9)); (repeat ((with_reducible rename @Ne Nat _ _ ∧ _ => q9); clear q9)); omega)); (case k5_q7 => ((repeat ((with_reducible rename (@Ne Nat _ _ ∧ _) ∧ _ => q9); clear q9)); (repeat ((with_reducible rename @Ne Nat _ _ ∧ _ => q9); clear q9)); omega)); k_whole); intro _))
  k_with "l_ints" => (k_dflt (first | assumption | exact IntsAre.nil | exact IntsAre.cons _ _ IntsAre.nil | exact IntsAre.cons _ _ (IntsAre.cons _ _ IntsAre.nil) | exact IntsAre.cons _ _ (IntsAre.cons _ _ (IntsAre.cons _ _ IntsAre.nil)) | exact IntsAre.cons _ _ (IntsAre.cons _ _ (IntsAre.cons _ _ (IntsAre.cons _ _ (IntsAre.cons _ _ (IntsAre.cons _ _ (IntsAre.cons _ _ (IntsAre.cons _ _ IntsAre.nil))))))) | exact IntsAre.append (by l_ints) (IntsAre.cons _ _ IntsAre.nil)))
  k_with "call ref" => ((k_here; k_dflt ((refine' con_use (zshift_c _ _ _ _ _ _ _ ?hn_q7) ?k1_q7 ?k2_q7 ?k3_q7 ?k4_q7 ?k5_q7 ?kK_q7 ?kd_q7 ?ku_q7 ?kp_q7 ?_; (case kp_q7 => exact hasL_of (by is_list) (by l_ints)); (case hn_q7 => exact ⟨by omega, by omega⟩); (case k1_q7 => k_asm); (case k2_q7 => k_asm); (case k3_q7 => k_asm); (case k4_q7 => k_asm); (case k5_q7 => k_asm); (case kK_q7 => first | exact rfl | assumption); (case kd_q7 => ktr_room); (case ku_q7 => ktr_units); k_whole); intro l' vs' n' h' tk' F' N' l1 I' e1; (replace l1 := Apt.of l1); (obtain ⟨d9, I9, e9⟩ := ints_hide I'); clear I' e1; (have b9 := le_shift e9); (try simp only [List.length_cons, List.length_nil] at b9); (try k_sweep))))
  k_with "call ref" => ((k_here; k_dflt ((refine' con_use (convergents_c _ _ _ _ _ _ _ _ _ _ _ _ _ _ _ _ _ _ _ ?hz_q7 ?hS_q7 ?hcv_q7) ?k1_q7 ?k2_q7 ?k3_q7 ?k4_q7 ?k5_q7 ?kK_q7 ?kd_q7 ?ku_q7 ?kp_q7 ?_; (case kp_q7 => exact hasL_of (by is_list) (by l_ints)); (case hcv_q7 => exact told_eq (by assumption) (by assumption)); (case hz_q7 => exact told_len); (case hS_q7 => exact told_small (by assumption) (by assumption)); (case k1_q7 => k_asm); (case k2_q7 => k_asm); (case k3_q7 => k_asm); (case k4_q7 => k_asm); (case k5_q7 => k_asm); (case kK_q7 => first | exact rfl | assumption); (case kd_q7 => ktr_room); (case ku_q7 => ktr_units); k_whole); intro l' t1' t2' t3' t4' t5' t6' t7' t8' u1' v1' u2' v2' u3' v3' u4' v4' u5' v5' u6' v6' u7' v7' u8' v8' n' n1' n2' n3' n4' n5' n6' n7' n8' h' tk' F' N' l1; (replace l1 := Apt.of l1); (try k_sweep))))
  k_with "call ref" => ((k_here; k_dflt ((refine' con_use (recrow_c _ _ _ _ _ _ _ _ ?hS_q7) ?k1_q7 ?k2_q7 ?k3_q7 ?k4_q7 ?k5_q7 ?kK_q7 ?kd_q7 ?ku_q7 ?kp_q7 ?_; (case kp_q7 => exact ⟨hasL_of (by is_list) (by l_ints), hasL_of (by is_list) (by l_ints)⟩); (case hS_q7 => exact small_k1 (by assumption) (by assumption)); (case k1_q7 => k_asm); (case k2_q7 => k_asm); (case k3_q7 => k_asm); (case k4_q7 => k_asm); (case k5_q7 => k_asm); (case kK_q7 => first | exact rfl | assumption); (case kd_q7 => ktr_room); (case ku_q7 => ktr_units); k_whole); intro l' vs' n' h' tk' F' N' l1 I' e1; (replace l1 := Apt.of l1); (obtain ⟨d9, I9, e9⟩ := ints_hide I'); clear I' e1; (have b9 := le_take8 e9); (try simp only [List.length_cons, List.length_nil] at b9); (try k_sweep))))
  k_with "call ref" => ((k_here; k_dflt ((refine' con_use (value_sign_c _ _ _ _ _ _ ?hz_q7 ?hs_q7 ?ha_q7 ?hb_q7) ?k1_q7 ?k2_q7 ?k3_q7 ?k4_q7 ?k5_q7 ?kK_q7 ?kd_q7 ?ku_q7 ?kp_q7 ?_; (case kp_q7 => exact ⟨hasL_of (by is_list) (by l_ints), ⟨_, _, by ktr_rel⟩⟩); (case hz_q7 => ktf_step); (case hs_q7 => first | assumption | exact (polyOk_of (polyF (by assumption) (by assumption))).2.2.1); (case ha_q7 => first | assumption | exact (bnd_of (by assumption) (by assumption) (by decide)).2); (case hb_q7 => first | assumption | exact bndb_of (by assumption) (by assumption) (by decide)); (case k1_q7 => k_asm); (case k2_q7 => k_asm); (case k3_q7 => k_asm); (case k4_q7 => k_asm); (case k5_q7 => k_asm); (case kK_q7 => first | exact rfl | assumption); (case kd_q7 => ktr_room); (case ku_q7 => ktr_units); k_whole); intro t' h' tk' F' N'; (try k_sweep))))
  k_with "call ref" => ((k_here; k_dflt ((refine' con_use (Con.eqI (taken_c _ _ _ _ _ _ _ _ _ _ _ _ _ _ _ _ _ _ _ _ _ _ _ _ _ _ _ _ ?g0_q7 ?g1_q7 ?g2_q7 ?g3_q7 ?g4_q7 ?g5_q7 ?g6_q7 ?g7_q7 ?hr_q7) ?hv_q7) ?k1_q7 ?k2_q7 ?k3_q7 ?k4_q7 ?k5_q7 ?kK_q7 ?kd_q7 ?ku_q7 ?kp_q7 ?_; (case kp_q7 => exact ⟨(by is_list : Heap.IsList _ _ _), ⟨_, _, by ktr_rel⟩, ⟨_, _, by ktr_rel⟩, ⟨_, _, by ktr_rel⟩, ⟨_, _, by ktr_rel⟩, ⟨_, _, by ktr_rel⟩, ⟨_, _, by ktr_rel⟩, ⟨_, _, by ktr_rel⟩, ⟨_, _, by ktr_rel⟩⟩); (case g0_q7 => first | assumption | exact bnd_of (by assumption) (by assumption) (by decide)); (case g1_q7 => first | assumption | exact bnd_of (by assumption) (by assumption) (by decide)); (case g2_q7 => first | assumption | exact bnd_of (by assumption) (by assumption) (by decide)); (case g3_q7 => first | assumption | exact bnd_of (by assumption) (by assumption) (by decide)); (case g4_q7 => first | assumption | exact bnd_of (by assumption) (by assumption) (by decide)); (case g5_q7 => first | assumption | exact bnd_of (by assumption) (by assumption) (by decide)); (case g6_q7 => first | assumption | exact bnd_of (by assumption) (by assumption) (by decide)); (case g7_q7 => first | assumption | exact bnd_of (by assumption) (by assumption) (by decide)); (case hr_q7 => with_reducible assumption); (case hv_q7 => with_reducible assumption); (case k1_q7 => k_asm); (case k2_q7 => k_asm); (case k3_q7 => k_asm); (case k4_q7 => k_asm); (case k5_q7 => k_asm); (case kK_q7 => first | exact rfl | assumption); (case kd_q7 => ktr_room); (case ku_q7 => ktr_units); k_whole); intro t' h' tk' F' N'; (try k_sweep))))
  k_with "call ref" => ((k_here; k_dflt ((refine' con_use (Con.eqI (roots_c _ _ _ _ _ _ _ _ _ ?hg_q7 ?hst_q7 ?s0_q7 ?s1_q7 ?s2_q7 ?ha_q7 ?hb_q7 ?hc_q7 ?he_q7) ?hv_q7) ?k1_q7 ?k2_q7 ?k3_q7 ?k4_q7 ?k5_q7 ?kK_q7 ?kd_q7 ?ku_q7 ?kp_q7 ?_; (case kp_q7 => exact ⟨hasL_of (by is_list) (by l_ints), ⟨_, _, by ktr_rel⟩, ⟨_, _, by ktr_rel⟩⟩); (case hg_q7 => first | with_reducible exact (polyOk_of (polyF (by assumption) (by assumption))).1 | with_reducible exact (polyOk_of (polyG (by assumption) (by assumption))).1); (case hst_q7 => first | with_reducible exact (polyOk_of (polyF (by assumption) (by assumption))).2.1 | with_reducible exact (polyOk_of (polyG (by assumption) (by assumption))).2.1); (case s0_q7 => first | with_reducible exact (polyOk_of (polyF (by assumption) (by assumption))).2.2.1 | with_reducible exact (polyOk_of (polyG (by assumption) (by assumption))).2.2.1); (case s1_q7 => first | with_reducible exact (polyOk_of (polyF (by assumption) (by assumption))).2.2.2.1 | with_reducible exact (polyOk_of (polyG (by assumption) (by assumption))).2.2.2.1); (case s2_q7 => first | with_reducible exact (polyOk_of (polyF (by assumption) (by assumption))).2.2.2.2 | with_reducible exact (polyOk_of (polyG (by assumption) (by assumption))).2.2.2.2); (case ha_q7 => exact ⟨by omega, by omega⟩); (case hb_q7 => exact ⟨by omega, by omega⟩); (case hc_q7 => exact ⟨by omega, by omega⟩); (case he_q7 => exact ⟨by omega, by omega⟩); (case hv_q7 => with_reducible assumption); (case k1_q7 => k_asm); (case k2_q7 => k_asm); (case k3_q7 => k_asm); (case k4_q7 => k_asm); (case k5_q7 => k_asm); (case kK_q7 => first | exact rfl | assumption); (case kd_q7 => ktr_room); (case ku_q7 => ktr_units); k_whole); intro t' h' tk' F' N'; (try k_sweep))))
  k_with "mul_fits" => (first | exact PySem.IntMulOk.of_right (PySem.intBits_le_64 (by omega) (by omega)) | exact PySem.IntMulOk.of_left (PySem.intBits_le_64 (by omega) (by omega)))
  k_with "exec Assign cons Tuple" => (((with_reducible show wpAny _ _ (exec (Stmt.Assign [Expr.Tuple [_, _] _ _] _ _) _) _ _ _); (fail_if_success (with_reducible show wpAny _ _ _ (CutP _ _ _ _) _ _)); k_extra "cut"))
  k_with "CutP" => ((k_dflt (refine ⟨rfl, _, _, _, _, _, _, _, rfl, ⟨?_, ?_⟩, ⟨?_, ?_⟩, (by first | assumption | exact fr_swap (by decide) (by assumption)), cut_news (by assumption) (by k_mem)⟩); all_goals first | omega | l_fact | decide))
  k_with "binaryOp Mult ref int" => ((k_here; (with_reducible show wpAny _ _ (binaryOp Operator.Mult (Value.ref _) (Value.int _ _)) _ _ _); k_dflt (refine' KMa.mul ?xF_q7 ?xN_q7 ?xl_q7 ?xlo_q7 ?xhi_q7 ?xz_q7 ?xe_q7 ?_; (case xF_q7 => k_asm); (case xN_q7 => k_asm); (case xl_q7 => is_list); (case xlo_q7 => first | omega | decide); (case xhi_q7 => first | omega | decide); (case xz_q7 => (simp only [List.length_cons, List.length_nil]; decide)); (case xe_q7 => (simp only [Int.reduceToNat, List.replicate_succ, List.replicate_zero, List.flatten_cons, List.flatten_nil, List.cons_append, List.nil_append, List.append_nil]; first | done | exact rfl)); k_whole); intro D' h' F' N' l1; (try k_lt l1); (try k_sweep)))
  k_with "CompRest" => ((with_unfolding_all first | (refine LCg.CompRest.succ ?_; intro v' I' oI' C' oC' D' m' h' tk' E' hv' hC' hx' F' N' off' ne'; clear ne'; (first | lcg_open hv' | (obtain ⟨t9', hv9'⟩ := hv'; subst hv9'))) | refine LCg.CompRest.zero ?_))
  k_with "CompRestP" => ((with_unfolding_all first | (refine LCp.CompRestP.succ ?_; intro v' hv'; lcg_open hv'; refine ⟨_, _, _, _, _, rfl, by k_mem, rfl, rfl, ?_⟩; intro I' oI' C' oC' D' m' h' tk' E' hC' hx' hy' F' N' off' ne'; clear ne') | refine LCp.CompRestP.zero ?_))
  k_with "lcg_off" => (assumption)
  k_with "FinE" => (((unfold LCg.FinE); intro D' h' tk' F' N' o1'; (replace o1' := apt_of_off1 o1'); (try simp only [List.nil_append, List.cons_append] at N'); (try dsimp only)))
  k_with "pyIter ref" => (((with_reducible show wpAny _ _ (pyIter (Value.ref _)) (fun it s₂ => LoopAtV _ _ _ _ _ _ _ _ _ it s₂) _ _); k_extra "loop"))
  k_with "compareOp In int ref" => ((k_here; (with_reducible show wpAny _ _ (compareOp CmpOp.In (Value.int _ _) (Value.ref _)) _ _ _); k_dflt (first | (refine in_no (News.isList (by assumption) (by k_mem)) (by assumption) (by assumption) ?_) | (refine in_list_ints (News.isList (by assumption) (by k_mem)) (by assumption) ?_))))
  k_with "ite" => (first | (refine ite_bne ?_) | (k_dflt (refine ite_eqd ((bottoms_eq (by assumption) (by assumption)).trans (Eq.symm (by assumption))) ?_)) | (k_dflt (refine ite_eqd (signs_eq (by assumption) (by assumption)) ?_)))
  k_with "WhT" => ((k_dflt (exact ⟨rfl, _, _, _, rfl, by assumption, by assumption⟩)))
  k_with "WhB" => ((k_dflt (exact ⟨rfl, _, _, _, rfl, fr_over (by assumption), by assumption⟩)))
  k_with "binaryOp Add ref ref" => ((k_here; (with_reducible show wpAny _ _ (binaryOp _ (Value.ref _) (Value.ref _)) _ _ _); k_dflt (refine' kmk_add_ints ?F_q7 ?N_q7 ?a_q7 ?b_q7 ?i_q7 ?j_q7 ?_ ?z_q7; (case F_q7 => k_asm); (case N_q7 => k_asm); (case a_q7 => kmk_list); (case b_q7 => kmk_list); (case i_q7 => l_ints); (case j_q7 => l_ints); (case z_q7 => (simp only [List.length_cons, List.length_nil, PySem.sizeLine_eq]; omega))); intro D' ws' h' F' N' qsum hI'; (replace qsum := apt_lt qsum); (try k_sweep)))
  k_with "InvEndG" => ((k_dflt (refine' turn_end ?kF_q7 ?kN_q7 ?kI_q7 ?ke_q7 ?k1_q7 ?k2_q7 ?k3_q7 ?k4_q7 ?km_q7 ?kC_q7 ?ko_q7 ?kf_q7 ?kg_q7; (case kF_q7 => assumption); (case kN_q7 => assumption); (case k1_q7 => exact rfl); (case k2_q7 => exact rfl); (case k3_q7 => exact rfl); (case k4_q7 => exact rfl); (case km_q7 => k_mem); (case kI_q7 => assumption); (case ke_q7 => assumption); (case kC_q7 => (intro p hp; repeat (first | exact List.mem_append_left _ hp | refine List.mem_cons_of_mem _ ?_))); (case ko_q7 => (intro p hp; repeat (first | exact hp | refine List.mem_cons_of_mem _ ?_))); (case kf_q7 => (intro p hp; refine qsum p ?_; repeat (first | with_reducible exact hp | refine List.mem_cons_of_mem _ ?_))); (case kg_q7 => exact off_tail (by assumption)))))
  k_with "cut" =>
    k_dflt (refine law_cut (by assumption) (by assumption) ?cut1 ?cut2)
    case' cut2 => (intro k many t u g h8 tk8 hk1 hk5 hm3 hm8 F8 N8)
  k_with "loop" =>
    (repeat (rename Apt _ _ => q9; clear q9))
    (repeat (rename LCg.Off3 _ _ _ _ => q9; clear q9))
    (repeat (rename LCg.NsObj _ _ => q9; clear q9))
    (repeat (rename InElt _ _ => q9; clear q9))
    (repeat (rename (@LT.lt Nat _ _ _) ∧ _ => q9; clear q9))
    (repeat (rename (_ : Option Value) = some (Value.ref _) => q9; clear q9))
    (rename Fr _ _ _ _ => F9)
    (rename News _ _ _ _ => N9)
    k_dflt (refine law_range (k := k) (n := (many + 1 - 1).toNat) F9 N9 (by rfl) (by rfl) (by rfl) (by rfl) (by k_mem) (by rfl) (by assumption) (small_one (by omega) (by omega) (by omega) (by omega)) (rangeSize_nat _ _) ?turn ?done)
    case' done => (intro m9 nx9 h9 tk9 F' N'; clear F9 N9)
    case' turn => (intro i ti l9 vs9 cnt9 u9 h9 tk9 own9 hi9 ho9 hI9 F' N'; have hi8 : i < 8 := (by omega); clear F9 N9; simp only [List.cons_append, List.nil_append] at N'; obtain ⟨c, a, hc, hlen, ha, hb, na, nb, tk2, tk1, cf, cg, mem, hnx⟩ := turn_facts hk1 hk5 hi8; rw [hc] at hI9; (rename _ = shiftP _ _ _ _ => eG9); subst eG9)
    all_goals (try k_fold)
  k_with "while" =>
    (rename Fr _ _ _ _ => F9)
    (rename News _ _ _ _ => N9)
    k_dflt (refine law_while F9 N9 ha.1 na mem ?ttest ?tbody ?wdone)
    case' ttest => (intro x9 t9 h9 tk9 hx1 hx2 F' N'; clear F9 N9)
    case' tbody => (intro x9 t9 h9 tk9 hx1 hx2 F' N'; clear F9 N9)
    case' wdone => (intro t9 h9 tk9 F' N'; clear F9 N9)
    all_goals (try k_fold)
  k_go0
  all_goals (try k_fold)
  k_steps
end

end
end Mine
set_option maxRecDepth 100000 in
set_option maxHeartbeats 8000000 in
theorem PySem.Challenge.cw_xm0093_01_holds : PySem.Challenge.rw_xm0093_01.Holds := by
  exact Mine.law0
