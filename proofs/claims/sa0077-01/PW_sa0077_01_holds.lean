import PyProof.Rows.All
import Wide.All
import OpenK.AllK
import Wide.FinOn
import Lean
import PySem.Challenge.RW_sa0077_01
open PySem PySem.W PyProof.Rows PySem.Calls PySem.Spec
set_option Elab.async false
set_option maxRecDepth 100000
set_option maxHeartbeats 8000000
set_option linter.unusedVariables false
namespace Mine
open_top lawHd for PySem.Challenge.rw_sa0077_01
local macro_rules | `(tactic| walk_at "mine K") => `(tactic| first | exact lawHd.heap_39 | exact lawHd.heap_38 | exact lawHd.heap_40 | exact lawHd.heap_37 | exact lawHd.heap_41 | exact lawHd.heap_36 | exact lawHd.heap_42 | exact lawHd.heap_35 | exact lawHd.heap_43 | exact lawHd.heap_34 | exact lawHd.heap_44 | exact lawHd.heap_45 | exact lawHd.heap_46 | exact lawHd.heap_47 | exact lawHd.heap_48 | exact lawHd.heap_49 | exact lawHd.heap_50)

section
variable {prog : Program} {w : World} {A₀ A : Around} {s : Shared} {base h₀ : Heap} {outer : List Env} {L : Addr} {m : Str → Option Value} {env : Env} {K : Frag}
  {R : Result → Shared → Prop} {name qual : Str} {params : Arguments} {body : List Stmt} {scope : Scope} {dV kV doc pm cdv ct oc : Value} {an od : Option Addr} {osl : Array (Option Value)} {f : Addr} {args : Args} {binds : List (Str × Value)}
  {p : Program} {loose : List Str} {mean : ExcName → Option Value} {mg mb : Str → Option Value}

theorem enterP (B : Below A₀ base outer h₀) (F : Fr h₀ L s.heap m) (X₀ : K.In h₀) (T : Top p loose mean mg mb h₀) (hA : A.frames = some (env :: outer)) (hf : env.frame = some L) (hke : env.scope.kind = .function)
    (ho : K.lookup f = some ⟨oc, od, .func (fnOf name qual params body scope dV kV doc pm an cdv ct), osl⟩) (hcd : codeIn K cdv qual = true) (hroom : A.depth < recursionLimit)
    (hbind : BindsTo s (fnOf name qual params body scope dV kV doc pm an cdv ct) args binds) (hloc : ∀ y ∈ binds, scope.names.lookup y.1 = some .local)
    (h : ∀ h₁ tk, Fr s.heap s.heap.objs.size h₁ (fun y => binds.reverse.lookup y) → News s.heap s.heap.objs.size h₁ [] → Below A base (env :: outer) s.heap → K.In s.heap → Top p loose mean mg mb s.heap →
      wpAny (model prog w) (A.deeper (envOf qual scope s.heap.objs.size f cdv)) (execs body (envOf qual scope s.heap.objs.size f cdv))
        (fun fl s' => R (.ok (.ret (match fl with | .ret v => v | _ => .none))) s')
        (fun e s' => wpAny (model prog w) (A.deeper (envOf qual scope s.heap.objs.size f cdv)) (leaving (envOf qual scope s.heap.objs.size f cdv) e) (fun _ s'' => R (.error e) s'') (fun e' s'' => R (.error e') s'') s')
        { s with heap := h₁, toks := tk })
    (hco : scope.isCoroutine = false) (hgen : scope.isGenerator = false) (hk : scope.kind = .function)
    (hcell : ∀ x ∈ scope.names, x.2 ≠ .cell) : codeAny (model prog w) A (.call (.ref f) args) R s := by
  have X := X₀.keeps F.keep
  have B₁ := pushX B F hf hke
  refine codeAny_call_def (fd := fnOf name qual params body scope dV kV doc pm an cdv ct) (body := body) (binds := binds) hroom (X _ _ ho) rfl (T.nolimit.keeps F.keep) (codeRec_of X hcd) rfl hbind hcell hloc (fun h₁ hns hk₁ => ?_) hco hgen hk
  exact h h₁ _ ⟨hns, hk₁, Nat.le_refl _⟩ News.nil ⟨hA, B₁.stays, B₁.frames⟩ X (T.keeps F.keep)

theorem enterPC (B : Below A₀ base outer h₀) (F : Fr h₀ L s.heap m) (X₀ : K.In h₀) (T : Top p loose mean mg mb h₀) (hA : A.frames = some (env :: outer)) (hf : env.frame = some L) (hke : env.scope.kind = .function)
    (ho : K.lookup f = some ⟨oc, od, .func (fnOf name qual params body scope dV kV doc pm an cdv ct), osl⟩) (hcd : codeIn K cdv qual = true) (hroom : A.depth < recursionLimit)
    (hbind : BindsTo s (fnOf name qual params body scope dV kV doc pm an cdv ct) args binds) (hkind : (binds.all fun y => scope.names.lookup y.1 == some .local || scope.names.lookup y.1 == some .cell) = true)
    (hnd : ((cellsFrom 0 scope.names []).map (·.1)).Nodup)
    (h : ∀ h₁ tk cells, Fr s.heap s.heap.objs.size h₁ (bindL (envOfC qual scope s.heap.objs.size f cdv).kindOf binds fun _ => none) → News s.heap s.heap.objs.size h₁ cells →
      CellsAre (bindC (envOfC qual scope s.heap.objs.size f cdv).kindOf binds fun _ => none) (cellsFrom (s.heap.objs.size + 1) scope.names []) cells → Below A base (env :: outer) s.heap → K.In s.heap → Top p loose mean mg mb s.heap →
      wpAny (model prog w) (A.deeper (envOfC qual scope s.heap.objs.size f cdv)) (execs body (envOfC qual scope s.heap.objs.size f cdv))
        (fun fl s' => R (.ok (.ret (match fl with | .ret v => v | _ => .none))) s')
        (fun e s' => wpAny (model prog w) (A.deeper (envOfC qual scope s.heap.objs.size f cdv)) (leaving (envOfC qual scope s.heap.objs.size f cdv) e) (fun _ s'' => R (.error e) s'') (fun e' s'' => R (.error e') s'') s')
        { s with heap := h₁, toks := tk })
    (hco : scope.isCoroutine = false) (hgen : scope.isGenerator = false) (hk : scope.kind = .function) : codeAny (model prog w) A (.call (.ref f) args) R s := by
  have X := X₀.keeps F.keep
  have B₁ := pushX B F hf hke
  refine codeAny_call_function hroom (X _ _ ho) rfl hco hgen rfl (codeRec_of X hcd) (hbind _ _ _ _ ?_)
  refine wpAny_newFunctionEnv_cells hk (kindsX hkind _) fun env' he s' x => ?_
  subst he
  refine ⟨(T.nolimit.keeps F.keep).keeps x.toInCall.keep, codeAny_func ?_⟩
  obtain ⟨h₁, tk, rfl, _⟩ := x.done
  obtain ⟨cells, NC, Y⟩ := Cl.news (h₀ := s.heap) (Nat.le_refl _) fun n c hm => ⟨x.cell n c (lookup_of_mem_nodup (cellsFrom_names scope.names 0 (s.heap.objs.size + 1) [] [] rfl ▸ hnd) hm), x.above n c hm⟩
  exact h h₁ tk cells ⟨x.toInCall.ns, x.toInCall.keep, Nat.le_refl _⟩ NC Y ⟨hA, B₁.stays, B₁.frames⟩ X (T.keeps F.keep)
end

/-- what a call that only reads what stands, and hands back something new, tells -/
def Pure (prog : Program) (w : World) (K : Frag) (p : Program) (loose : List Str) (mean : ExcName → Option Value) (mg mb : Str → Option Value) (f : Addr) (dep : Nat) (vs : List Value) (pre : Heap → Prop) (post : Heap → Heap → Value → Prop) : Prop :=
  ∀ (dp un : Nat) (gd : Option (List Code)) (cn : Str) (cs : Scope) (a : Addr) (ccd : Value) (cl : List (Str × Addr)) (outer : List Env) (A₀ : Around) (base h₀ : Heap) (L : Addr) (m : Str → Option Value) (s : Shared) (Q E : Value → Shared → Prop),
    Below A₀ base outer h₀ → Fr h₀ L s.heap m → K.In h₀ → Top p loose mean mg mb h₀ → cs.kind = .function → dp + dep < recursionLimit → un + 8 * dep < cLine → pre s.heap →
    (∀ r h' tk', (∀ b o, s.heap.get? b = some o → h'.get? b = some o) → post s.heap h' r → Q r { s with heap := h', toks := tk' }) →
    wpAny (model prog w) (ktrTop dp un gd cn cs L a ccd cl outer) (call (.ref f) vs) Q E s

/-- another place than all of these -/
def NeAll (l : Addr) (news : List (Addr × Obj)) : Prop := ∀ p ∈ news, p.1 ≠ l
theorem NeAll.ne {l d : Addr} {o : Obj} {news : List (Addr × Obj)} (h : NeAll l news) (hm : (d, o) ∈ news) : @Ne Nat l d := fun e => h _ hm e.symm
theorem NeAll.ne' {l d : Addr} {o : Obj} {news : List (Addr × Obj)} (h : NeAll l news) (hm : (d, o) ∈ news) : @Ne Nat d l := h _ hm
theorem NeAll.sub {l : Addr} {own news : List (Addr × Obj)} (h : NeAll l news) (hs : ∀ p ∈ own, p ∈ news) : ∀ p ∈ own, p.1 ≠ l := fun p hp => h p (hs p hp)
/-- a new list of these ints -/
def NewL (g h : Heap) (r : Value) (ns : List Int) : Prop := ∃ l vs n, r = .ref l ∧ g.get? l = none ∧ h.get? l = some (listOf vs.toArray n) ∧ IntsAre vs ns

section
variable {h : Heap} {L l : Addr} {m : Str → Option Value} {news : List (Addr × Obj)} {vs : List Value} {n : Nat} {ns ms : List Int} {s : Shared} {Q : Value → Shared → Prop} {tk : Nat}
theorem endL (hret : ∀ r h' tk', (∀ b o, s.heap.get? b = some o → h'.get? b = some o) → NewL s.heap h' r ns → Q r { s with heap := h', toks := tk' }) (F : Fr s.heap L h m) (N : News s.heap L h news)
    (hm : (l, listOf vs.toArray n) ∈ news) (hi : IntsAre vs ms) (e : ms = ns) : Q (.ref l) { s with heap := h, toks := tk } :=
  hret _ _ _ F.keep ⟨l, vs, n, rfl, N.fresh hm, N.get hm, e ▸ hi⟩
end
theorem endG {h : Heap} {L l : Addr} {m : Str → Option Value} {news : List (Addr × Obj)} {vs : List Value} {ns ms : List Int} {s : Shared} {Q : Value → Shared → Prop} {tk : Nat}
    (hret : ∀ r h' tk', (∀ b o, s.heap.get? b = some o → h'.get? b = some o) → NewL s.heap h' r ns → Q r { s with heap := h', toks := tk' }) (F : Fr s.heap L h m) (hn : s.heap.get? l = none)
    (P : NewPlain h news l vs.toArray) (hi : IntsAre vs ms) (e : ms = ns) : Q (.ref l) { s with heap := h, toks := tk } := by
  obtain ⟨n, x⟩ := P.1
  exact hret _ _ _ F.keep ⟨l, vs, n, rfl, hn, x, e ▸ hi⟩
section
variable {prog : Program} {w : World} {K : Frag} {p : Program} {loose : List Str} {mean : ExcName → Option Value} {mg mb : Str → Option Value} {f : Addr} {dep : Nat} {vs : List Value} {pre : Heap → Prop} {post : Heap → Heap → Value → Prop}
  {dp un : Nat} {gd : Option (List Code)} {cn : Str} {cs : Scope} {a : Addr} {ccd : Value} {cl : List (Str × Addr)} {outer : List Env} {A₀ : Around} {base h₀ : Heap} {L : Addr} {m : Str → Option Value} {s : Shared} {Q E : Value → Shared → Prop} {news : List (Addr × Obj)} {ns : List Int}
theorem useP (C : Pure prog w K p loose mean mg mb f dep vs pre post) (B : Below A₀ base outer h₀) (F : Fr h₀ L s.heap m) (X : K.In h₀) (T : Top p loose mean mg mb h₀) (N : News h₀ L s.heap news) (hk : cs.kind = .function) (hd : dp + dep < recursionLimit) (hu : un + 8 * dep < cLine) (hp : pre s.heap)
    (ret : ∀ r h' tk', Fr h₀ L h' m → News h₀ L h' news → (∀ b o, s.heap.get? b = some o → h'.get? b = some o) → post s.heap h' r → Q r { s with heap := h', toks := tk' }) :
    wpAny (model prog w) (ktrTop dp un gd cn cs L a ccd cl outer) (call (.ref f) vs) Q E s :=
  C dp un gd cn cs a ccd cl outer A₀ base h₀ L m s Q E B F X T hk hd hu hp fun r h' tk' k q => ret r h' tk' (F.keeps k) (N.grown k) k q
theorem useL (C : Pure prog w K p loose mean mg mb f dep vs pre (fun g h r => NewL g h r ns)) (B : Below A₀ base outer h₀) (F : Fr h₀ L s.heap m) (X : K.In h₀) (T : Top p loose mean mg mb h₀) (N : News h₀ L s.heap news) (hk : cs.kind = .function) (hd : dp + dep < recursionLimit) (hu : un + 8 * dep < cLine) (hp : pre s.heap)
    (ret : ∀ l vs n h' tk', Fr h₀ L h' m → News h₀ L h' ((l, listOf vs.toArray n) :: news) → NeAll l news → IntsAre vs ns → Q (.ref l) { s with heap := h', toks := tk' }) :
    wpAny (model prog w) (ktrTop dp un gd cn cs L a ccd cl outer) (call (.ref f) vs) Q E s := by
  refine useP C B F X T N hk hd hu hp fun r h' tk' F' N' k q => ?_
  obtain ⟨l, vs, n, rfl, h1, h2, h3⟩ := q
  refine ret l vs n h' tk' F' (fun p hp => ?_) (fun p hp e => ?_) h3
  · rcases List.mem_cons.mp hp with rfl | hp
    · refine ⟨h2, fun e => ?_, ?_⟩
      · obtain ⟨o, _, _, ho, _⟩ := F.ns
        rw [← e, h1] at ho
        cases ho
      · cases q : h₀.get? l with
        | none => rfl
        | some o =>
          rw [F.keep _ _ q] at h1
          cases h1
    · exact N' p hp
  · have := (N p hp).1
    rw [e, h1] at this
    cases this
end

local macro_rules | `(tactic| walk_at "mine enter") => `(tactic| (
  refine' enterP ?k1 ?k2 ?k3 ?k5 ?kA ?kF ?kK ?k6 ?k7 ?k8 ?k9 ?kB ?_ ?c2 ?c3 ?c4 ?c5
  (case kA => exact rfl)
  (case kF => exact rfl)
  (case kK => assumption)
  (case k1 => k_asm)
  (case k2 => k_asm)
  (case k3 => k_asm)
  (case k5 => k_asm)
  (case k6 => k_is)
  (case k7 => k_is)
  (case k8 => ktr_room)
  (case k9 => exact BindsTo.of_eq rfl)
  (case c5 => decide)
  (case kB => exact locs rfl)
  (case c2 => exact rfl)
  (case c3 => exact rfl)
  (case c4 => exact rfl)))
local macro_rules | `(tactic| walk_at "mine enterC") => `(tactic| (
  refine' enterPC ?k1 ?k2 ?k3 ?k5 ?kA ?kF ?kK ?k6 ?k7 ?k8 ?k9 ?kB ?kN ?_ ?c2 ?c3 ?c4
  (case kA => exact rfl)
  (case kF => exact rfl)
  (case kK => assumption)
  (case k1 => k_asm)
  (case k2 => k_asm)
  (case k3 => k_asm)
  (case k5 => k_asm)
  (case k6 => k_is)
  (case k7 => k_is)
  (case k8 => ktr_room)
  (case k9 => exact BindsTo.of_eq rfl)
  (case kB => exact rfl)
  (case kN => decide)
  (case c2 => exact rfl)
  (case c3 => exact rfl)
  (case c4 => exact rfl)))
local macro_rules | `(tactic| walk_at "mine list") => `(tactic| first | (with_reducible assumption) | exact News.isList (by k_asm) (by k_mem) | exact Fr.lst (by k_asm) (by assumption) | is_list)

section
def trimTo (ns : List Int) : Nat → Nat
  | 0 => 0
  | n + 1 => if ns.getD n 0 == 0 then trimTo ns n else n + 1
def trimF (ns : List Int) : List Int := ns.take (trimTo ns ns.length)
theorem trimTo_of (ns : List Int) (k : Int) (hk0 : 0 ≤ k) : ∀ n : Nat, k ≤ n → (∀ j : Int, k < j → j ≤ n → ns.getD (j - 1).toNat 0 = 0) → (0 < k → ns.getD (k - 1).toNat 0 ≠ 0) → trimTo ns n = k.toNat := by
  intro n
  induction n with
  | zero =>
    intro h _ _
    have : k = 0 := by omega
    subst this; rfl
  | succ n ih =>
    intro h hall hne
    rw [trimTo]
    by_cases e : k = n + 1
    · subst e
      have h1 := hne (by omega)
      have e1 : ((n : Int) + 1 - 1).toNat = n := by omega
      rw [e1] at h1
      rw [if_neg (by simpa using h1)]
      omega
    · have h1 := hall (n + 1) (by omega) (by omega)
      have e1 : ((n : Int) + 1 - 1).toNat = n := by omega
      rw [e1] at h1
      rw [if_pos (by simpa using h1)]
      exact ih (by omega) (fun j h2 h3 => hall j h2 (by omega)) hne
theorem trimF_of (ns : List Int) (k : Int) (h1 : k ≤ ns.length) (h2 : min (ns.length : Int) 0 ≤ k) (h3 : ∀ j : Int, k < j → j ≤ ns.length → (if 0 < j then if (ns.getD (j - 1).toNat 0 == 0) = true then true else false else false) = true)
    (h4 : (if 0 < k then if (ns.getD (k - 1).toNat 0 == 0) = true then true else false else false) = false) : ns.take k.toNat = trimF ns := by
  unfold trimF
  rw [trimTo_of ns k (by omega) ns.length h1 (fun j a b => ?_) fun a => ?_]
  · have := h3 j a b
    rw [if_pos (by omega)] at this
    simpa using this
  · rw [if_pos a] at h4
    simpa using h4

theorem ztrim_ok (w : World) (p : Program) (loose : List Str) (mean : ExcName → Option Value) (mg mb : Str → Option Value) (a : Addr) (va : List Value) (na : List Int) (hi : IntsAre va na) (hlen : na.length ≤ 1000) :
    Pure PySem.Challenge.rw_sa0077_01.row.prog w ((by walk_at "mine K" : Params → Frag) w.params) p loose mean mg mb 41 1 [.ref a] (fun h => h.IsList a va.toArray) (fun g h r => NewL g h r (trimF na)) := by
  k_fill
  unfold Pure
  intro dp un gd cn cs a' ccd cl outer A₀ base h₀ L m s Q E B0 F0 X0 T0 hk hd hu hpre hret
  refine wpAny_call ?_
  k_dflt (walk_at "mine enter")
  intro h₁ tk F N B X T
  replace F : Fr s.heap s.heap.objs.size h₁ (fun y => List.lookup y [(Str.ofString "row", Value.ref a)]) := F
  (try dsimp only)
  (try k_fold)
  clear B0 F0 X0 T0
  k_steps
  rename Fr _ _ _ _ => F9
  rename News _ _ _ _ => N9
  exact endL (s := s) hret F9 N9 (List.Mem.head _) (by assumption) (trimF_of na _ (by assumption) (by assumption) (by assumption) (by assumption))
end

section
theorem zneg_ok (w : World) (p : Program) (loose : List Str) (mean : ExcName → Option Value) (mg mb : Str → Option Value) (a : Addr) (va : List Value) (na : List Int) (hi : IntsAre va na) (hlen : na.length ≤ 1000) :
    Pure PySem.Challenge.rw_sa0077_01.row.prog w ((by walk_at "mine K" : Params → Frag) w.params) p loose mean mg mb 51 1 [.ref a] (fun h => h.IsList a va.toArray) (fun g h r => NewL g h r (na.map fun x => -x)) := by
  k_fill
  unfold Pure
  intro dp un gd cn cs a' ccd cl outer A₀ base h₀ L m s Q E B0 F0 X0 T0 hk hd hu hpre hret
  refine wpAny_call ?_
  k_dflt (walk_at "mine enter")
  intro h₁ tk F N B X T
  replace F : Fr s.heap s.heap.objs.size h₁ (fun y => List.lookup y [(Str.ofString "p", Value.ref a)]) := F
  (try dsimp only)
  (try k_fold)
  clear B0 F0 X0 T0
  k_steps
  rename Fr _ _ _ _ => F9
  rename CarriedAll _ _ => C9
  rename NewPlain _ _ _ _ => P9
  exact endG (s := s) hret F9 (by assumption) P9 (gn_ints P9 C9 fun _ => rfl) rfl
end

section
def scaleF (na : List Int) (k : Int) : List Int := if k = 0 then [] else na.map fun x => x * k
theorem scaleF_len (na : List Int) (k : Int) : (scaleF na k).length ≤ na.length := by
  unfold scaleF
  split
  · exact Nat.zero_le _
  · rw [List.length_map]; exact Nat.le_refl _
theorem zscale_ok (w : World) (p : Program) (loose : List Str) (mean : ExcName → Option Value) (mg mb : Str → Option Value) (a : Addr) (va : List Value) (na : List Int) (k : Int) (t : Tok) (hi : IntsAre va na) (hlen : na.length ≤ 1000) (hk1 : -1000000000000000 ≤ k) (hk2 : k ≤ 1000000000000000) :
    Pure PySem.Challenge.rw_sa0077_01.row.prog w ((by walk_at "mine K" : Params → Frag) w.params) p loose mean mg mb 63 1 [.ref a, .int k t] (fun h => h.IsList a va.toArray) (fun g h r => NewL g h r (scaleF na k)) := by
  k_fill
  unfold Pure
  intro dp un gd cn cs a' ccd cl outer A₀ base h₀ L m s Q E B0 F0 X0 T0 hk hd hu hpre hret
  refine wpAny_call ?_
  k_dflt (walk_at "mine enterC")
  intro h₁ tk cells F N hC B X T
  k_cells hC
  (try dsimp only)
  (try k_fold)
  clear B0 F0 X0 T0
  k_steps
  · rename Fr _ _ _ _ => F9
    rename News _ _ _ _ => N9
    exact endL (s := s) hret F9 N9 (List.Mem.head _) (by assumption) (by rw [scaleF, if_neg (by assumption)])
  · rename Fr _ _ _ _ => F9
    rename News _ _ _ _ => N9
    exact endL (vs := []) (s := s) hret F9 N9 (List.Mem.head _) IntsAre.nil (by rw [scaleF, if_pos (by assumption)])
end

section
def raiseF (na : List Int) (k : Int) : List Int := if na.length = 0 then [] else List.replicate k.toNat 0 ++ na
theorem flat_one {α : Type} (x : α) : ∀ n : Nat, (List.replicate n [x]).flatten = List.replicate n x
  | 0 => rfl
  | n + 1 => by rw [List.replicate_succ, List.flatten_cons, flat_one x n, List.replicate_succ]; rfl
theorem raiseF_len (na : List Int) (k : Int) : (raiseF na k).length ≤ k.toNat + na.length := by
  unfold raiseF
  split
  · exact Nat.zero_le _
  · rw [List.length_append, List.length_replicate]; exact Nat.le_refl _
theorem zraise_ok (w : World) (p : Program) (loose : List Str) (mean : ExcName → Option Value) (mg mb : Str → Option Value) (a : Addr) (va : List Value) (na : List Int) (k : Int) (t : Tok) (hi : IntsAre va na) (hlen : na.length ≤ 1000) (hk1 : 0 ≤ k) (hk2 : k ≤ 1000) :
    Pure PySem.Challenge.rw_sa0077_01.row.prog w ((by walk_at "mine K" : Params → Frag) w.params) p loose mean mg mb 70 1 [.ref a, .int k t] (fun h => h.IsList a va.toArray) (fun g h r => NewL g h r (raiseF na k)) := by
  k_fill
  unfold Pure
  intro dp un gd cn cs a' ccd cl outer A₀ base h₀ L m s Q E B0 F0 X0 T0 hk hd hu hpre hret
  refine wpAny_call ?_
  k_dflt (walk_at "mine enter")
  intro h₁ tk F N B X T
  replace F : Fr s.heap s.heap.objs.size h₁ (fun y => List.lookup y [(Str.ofString "many", Value.int k t), (Str.ofString "p", Value.ref a)]) := F
  (try dsimp only)
  (try k_fold)
  clear B0 F0 X0 T0
  k_steps
  · rename Fr _ _ _ _ => F9
    rename News _ _ _ _ => N9
    exact endL (s := s) hret F9 N9 (List.Mem.head _) (by assumption) (by rw [raiseF, if_neg (by omega), flat_one])
  · rename Fr _ _ _ _ => F9
    rename News _ _ _ _ => N9
    exact endL (vs := []) (s := s) hret F9 N9 (List.Mem.head _) IntsAre.nil (by rw [raiseF, if_pos (by omega)])
end

section
local macro_rules | `(tactic| walk_at "mine fit") => `(tactic| first | assumption | omega | (simp only [List.length_map, List.length_append, List.length_replicate, List.length_range, List.length_reverse, List.length_cons, List.length_nil, rangeKs_length]; omega) | fail "mine fit")
local macro_rules | `(tactic| walk_at "call ref") => `(tactic| (k_here; (with_reducible show wpAny _ _ (call (Value.ref 41) [Value.ref _]) _ _ _); k_dflt (refine' useL (ztrim_ok _ _ _ _ _ _ _ _ _ ?hi ?hl) ?B ?F ?X ?T ?N ?hk ?hd ?hu ?hp ?_; (case B => k_asm); (case F => k_asm); (case X => k_asm); (case T => k_asm); (case N => k_asm); (case hk => first | exact rfl | assumption); (case hd => ktr_room); (case hu => ktr_units); (case hp => (try dsimp only); walk_at "mine list"); (case hi => l_ints); (case hl => walk_at "mine fit"); k_whole); intro l' ws' n' h' tk' F' N' hA' hI'))
def addF (na nb : List Int) : List Int := trimF ((List.range (max na.length nb.length)).map fun i => na.getD i 0 + nb.getD i 0)
theorem add_eq (na nb : List Int) : trimF (List.map (fun k' : Int => if k' < (na.length : Int) ∧ k' < (nb.length : Int) then na.getD k'.toNat 0 + nb.getD k'.toNat 0 else if k' < (na.length : Int) ∧ ¬k' < (nb.length : Int) then na.getD k'.toNat 0 + 0 else 0 + nb.getD k'.toNat 0) (rangeKs 0 ((if (nb.length : Int) > (na.length : Int) then (nb.length : Int) else (na.length : Int)) - 0).toNat)) = addF na nb := by
  unfold addF
  congr 1
  have e : ((if (nb.length : Int) > (na.length : Int) then (nb.length : Int) else (na.length : Int)) - 0).toNat = max na.length nb.length := by
    split <;> omega
  rw [e, rangeKs, List.map_map]
  refine List.map_congr_left fun i _ => ?_
  simp only [Function.comp, Int.zero_add, Int.toNat_natCast, Int.ofNat_lt]
  by_cases h1 : i < na.length
  · by_cases h2 : i < nb.length
    · simp [h1, h2]
    · have : nb.getD i 0 = 0 := by simp [List.getD, Nat.not_lt.mp h2]
      simp [h1, h2, this]
  · have : na.getD i 0 = 0 := by simp [List.getD, Nat.not_lt.mp h1]
    simp [h1, this]
theorem zadd_ok (w : World) (p : Program) (loose : List Str) (mean : ExcName → Option Value) (mg mb : Str → Option Value) (a b : Addr) (va vb : List Value) (na nb : List Int) (hia : IntsAre va na) (hib : IntsAre vb nb) (hlena : na.length ≤ 1000) (hlenb : nb.length ≤ 1000) :
    Pure PySem.Challenge.rw_sa0077_01.row.prog w ((by walk_at "mine K" : Params → Frag) w.params) p loose mean mg mb 46 2 [.ref a, .ref b] (fun h => h.IsList a va.toArray ∧ h.IsList b vb.toArray) (fun g h r => NewL g h r (addF na nb)) := by
  k_fill
  unfold Pure
  intro dp un gd cn cs a' ccd cl outer A₀ base h₀ L m s Q E B0 F0 X0 T0 hk hd hu hpre hret
  obtain ⟨hpa, hpb⟩ := hpre
  refine wpAny_call ?_
  k_dflt (walk_at "mine enterC")
  intro h₁ tk cells F N hC B X T
  k_cells hC
  (try dsimp only)
  (try k_fold)
  clear B0 F0 X0 T0
  k_steps
  rename Fr _ _ _ _ => F9
  rename News _ _ _ _ => N9
  exact endL (s := s) hret F9 N9 (List.Mem.head _) (by assumption) (add_eq na nb)
end

section
local macro_rules | `(tactic| walk_at "mine fit") => `(tactic| first | assumption | omega | (simp only [List.length_map, List.length_append, List.length_replicate, List.length_range, List.length_reverse, List.length_cons, List.length_nil, rangeKs_length]; omega) | fail "mine fit")
local macro_rules | `(tactic| walk_at "call ref") => `(tactic| (k_here; (with_reducible show wpAny _ _ (call (Value.ref 51) [Value.ref _]) _ _ _); k_dflt (refine' useL (zneg_ok _ _ _ _ _ _ _ _ _ ?hi ?hl) ?B ?F ?X ?T ?N ?hk ?hd ?hu ?hp ?_; (case B => k_asm); (case F => k_asm); (case X => k_asm); (case T => k_asm); (case N => k_asm); (case hk => first | exact rfl | assumption); (case hd => ktr_room); (case hu => ktr_units); (case hp => (try dsimp only); walk_at "mine list"); (case hi => l_ints); (case hl => walk_at "mine fit"); k_whole); intro l' ws' n' h' tk' F' N' hA' hI'))
local macro_rules | `(tactic| walk_at "call ref") => `(tactic| (k_here; (with_reducible show wpAny _ _ (call (Value.ref 46) [Value.ref _, Value.ref _]) _ _ _); k_dflt (refine' useL (zadd_ok _ _ _ _ _ _ _ _ _ _ _ _ ?hi ?hj ?hl ?hm) ?B ?F ?X ?T ?N ?hk ?hd ?hu ?hp ?_; (case B => k_asm); (case F => k_asm); (case X => k_asm); (case T => k_asm); (case N => k_asm); (case hk => first | exact rfl | assumption); (case hd => ktr_room); (case hu => ktr_units); (case hp => (try dsimp only); refine And.intro ?_ ?_ <;> walk_at "mine list"); (case hi => l_ints); (case hj => l_ints); (case hl => walk_at "mine fit"); (case hm => walk_at "mine fit"); k_whole); intro l' ws' n' h' tk' F' N' hA' hI'))
def subF (na nb : List Int) : List Int := addF na (nb.map fun x => -x)
theorem zsub_ok (w : World) (p : Program) (loose : List Str) (mean : ExcName → Option Value) (mg mb : Str → Option Value) (a b : Addr) (va vb : List Value) (na nb : List Int) (hia : IntsAre va na) (hib : IntsAre vb nb) (hlena : na.length ≤ 1000) (hlenb : nb.length ≤ 1000) :
    Pure PySem.Challenge.rw_sa0077_01.row.prog w ((by walk_at "mine K" : Params → Frag) w.params) p loose mean mg mb 58 3 [.ref a, .ref b] (fun h => h.IsList a va.toArray ∧ h.IsList b vb.toArray) (fun g h r => NewL g h r (subF na nb)) := by
  k_fill
  unfold Pure
  intro dp un gd cn cs a' ccd cl outer A₀ base h₀ L m s Q E B0 F0 X0 T0 hk hd hu hpre hret
  obtain ⟨hpa, hpb⟩ := hpre
  refine wpAny_call ?_
  k_dflt (walk_at "mine enter")
  intro h₁ tk F N B X T
  replace F : Fr s.heap s.heap.objs.size h₁ (fun y => List.lookup y [(Str.ofString "b", Value.ref b), (Str.ofString "a", Value.ref a)]) := F
  (try dsimp only)
  (try k_fold)
  clear B0 F0 X0 T0
  k_steps
  rename Fr _ _ _ _ => F9
  rename News _ _ _ _ => N9
  exact endL (s := s) hret F9 N9 (List.Mem.head _) (by assumption) rfl
end

section
theorem lri_no_len : typeLookup (.type "list_reverseiterator") "__len__" = pure none := by rw [typeLookup_type, builtinLookup_eq_fast]; kernel_rfl
theorem lri_hint : typeLookup (.type "list_reverseiterator") "__length_hint__" = pure (some (.builtin "list_reverseiterator.__length_hint__")) := by rw [typeLookup_type, builtinLookup_eq_fast]; kernel_rfl
section
variable {prog : Program} {w : World} {A : Around} {E : Value → Shared → Prop} {s : Shared}
theorem hint_rev {r : Addr} {Q : Bool → Shared → Prop} (hT : s.TypeIs (.ref r) "list_reverseiterator") (h : Q false s) : wpAny (model prog w) A (Builtin.List.listLengthHint (.ref r)) Q E s := by
  unfold Builtin.List.listLengthHint
  refine wpAny_bind (wpAny_specialOf hT lri_no_len ?_)
  show wpAny _ _ (specialOf (Value.ref r) (Str.ofString "__length_hint__") >>= _) _ _ _
  refine wpAny_bind (wpAny_specialOf hT lri_hint ?_)
  generalize hid : ("list_reverseiterator.__length_hint__" : String) = id0
  wp_delta
  rw [show splitId id0 = some ("list_reverseiterator", "__length_hint__") from by subst hid; decide +kernel]
  subst hid
  refine wpAny_bind (wpAny_isInstance (T := "list_reverseiterator") (b := true) hT (by rw [isSubtype_type]; kernel_rfl) ?_)
  refine wpAny_ite_split (fun hab => absurd hab (by decide)) (fun _ => ?_)
  refine wpAny_ite_split (fun _ => ?_) (fun hab => absurd (by decide +kernel) hab)
  refine wpAny_ite_split (fun hab => absurd hab (by decide +kernel)) (fun _ => ?_)
  exact wpAny_pure h
end
section
variable {prog : Program} {w : World} {A : Around} {E : Value → Shared → Prop} {s : Shared} {I l : Addr} {items : Array Value}
theorem extend_rev {R : Result → Shared → Prop} (hh : A.handled = none) (hne : l ≠ I) (hit : s.heap.IsRevIter I l ((items.size : Int) - 1)) (hl : s.heap.IsList l items) (S : Addr) (hSI : S ≠ I) (hSl : S ≠ l) (res : Value) (c₀ : Nat)
    (hS : s.heap.get? S = some { cls := .type "list", data := .seq #[] c₀ })
    (hR : ∀ h' tk acc' c', (∀ b o, b ≠ S → b ≠ I → s.heap.get? b = some o → h'.get? b = some o) → h'.get? S = some { cls := .type "list", dict := none, data := .seq acc' c', slots := #[] } → ItemsOf (fun i v => items[items.size - 1 - i]? = some v) acc' items.size → R (.ok (.ret res)) { s with heap := h', toks := tk }) (hn : items.size ≤ sizeLine) :
    wpAny (model prog w) A.in1 (Builtin.List.listExtendWith (.ref S) (.ref I) res)
      (fun fin s' => match fin with | .done f => R (.ok f) s' | .again c' => c'.quiet = true ∧ codeAny (model prog w) A c' R s') (fun e s' => R (.error e) s') s := by
  have W := Walks.listRev (prog := prog) (w := w) (A := A.in1) hh I l hne items
  have hSf : S ∉ [I, l] := by simp only [List.mem_cons, List.not_mem_nil, or_false, not_or]; exact ⟨hSI, hSl⟩
  unfold Builtin.List.listExtendWith
  refine wpAny_bind (wpAny_typeOf hit.typeIs ?_)
  have h1 : Builtin.List.listSameRef (.ref S) (.ref I) = false := by simp [Builtin.List.listSameRef, hSI]
  have h2 : (Value.type "list_reverseiterator" == Value.type "list") = false := by decide
  have h3 : (Value.type "list_reverseiterator" == Value.type "tuple") = false := by decide
  simp only [h1, h2, h3, Bool.or_false, Bool.false_eq_true, if_false]
  refine wpAny_bind (wpAny_pyIter_revIter hit ?_)
  refine wpAny_bind (wpAny_holding (hint_rev hit.typeIs ?_))
  refine wpAny_ite_split (fun hab => absurd hab (by decide +kernel)) (fun _ => ?_)
  refine wpAny_pure ⟨plainId_quiet PySem.F.plain_extend_loop _, ?_⟩
  refine codeAny_extend_loopS W.toS hn S hSf res items.size 0 s #[] c₀ rfl (Nat.zero_le _) ⟨Nat.zero_le _, by simpa using hit, hl⟩ hS (ItemsOf.nil _) fun s' acc' c' hm hS' hacc => ?_
  rw [Moved.eq_with hm]
  refine hR s'.heap s'.toks acc' c' (fun b o hb hb2 e => hm.heap b o (fun hmem => ?_) e) hS' hacc
  rcases List.mem_cons.mp hmem with e' | hmem
  · exact hb e'
  · exact hb2 (List.mem_singleton.mp hmem)
theorem init_rev {R : Result → Shared → Prop} (hh : A.handled = none) (hne : l ≠ I) (hit : s.heap.IsRevIter I l ((items.size : Int) - 1)) (hl : s.heap.IsList l items) (S : Addr) (hSI : S ≠ I) (hSl : S ≠ l)
    (hS : s.heap.get? S = some { cls := .type "list", data := .seq #[] })
    (hR : ∀ h' tk acc' c', (∀ b o, b ≠ S → b ≠ I → s.heap.get? b = some o → h'.get? b = some o) → h'.get? S = some { cls := .type "list", dict := none, data := .seq acc' c', slots := #[] } → ItemsOf (fun i v => items[items.size - 1 - i]? = some v) acc' items.size → R (.ok (.ret .none)) { s with heap := h', toks := tk }) (hn : items.size ≤ sizeLine) :
    wpAny (model prog w) A.in1 (Builtin.«list.__init__» ⟨[.ref S, .ref I], []⟩)
      (fun fin s' => match fin with | .done f => R (.ok f) s' | .again c' => c'.quiet = true ∧ codeAny (model prog w) A c' R s') (fun e s' => R (.error e) s') s := by
  show wpAny _ _ (do let old ← Builtin.List.listItems (.ref S); Builtin.List.listUpdate (.ref S) (fun _ => #[]); letGo old.toList.reverse; Builtin.List.listExtendWith (.ref S) (.ref I) .none) _ _ s
  refine wpAny_bind ?_
  unfold Builtin.List.listItems
  refine wpAny_bind (wpAny_seqItems hS rfl (wpAny_pure ?_))
  show wpAny _ _ (updateSeq S (fun _ => #[]) >>= fun _ => letGo (#[] : Array Value).toList.reverse >>= fun _ => Builtin.List.listExtendWith (.ref S) (.ref I) .none) _ _ s
  refine wpAny_bind (wpAny_updateSeq hS rfl ?_)
  have hS₂ := Heap.get?_update_self (Obj.mapSeq (fun _ => (#[] : Array Value))) hS rfl
  have oth : ∀ b o, b ≠ S → s.heap.get? b = some o → (s.heap.update S (Obj.mapSeq (fun _ => (#[] : Array Value)))).get? b = some o :=
    fun b o hb e => (Heap.get?_update_other _ _ (Ne.symm hb)).trans e
  refine wpAny_bind (wpAny_letGo ?_)
  refine extend_rev hh hne (hit.at fun o e => oth I o hSI.symm e) (hl.at fun o e => oth l o hSl.symm e) S hSI hSl .none _ hS₂ (fun h' tk acc' c' hk hS' hacc => ?_) hn
  exact hR h' tk acc' c' (fun b o hb hb2 e => hk b o hb hb2 (oth b o hb e)) hS' hacc
theorem call_rev {Q : Value → Shared → Prop} (hh : A.handled = none) (hne : l ≠ I) (hit : s.heap.IsRevIter I l ((items.size : Int) - 1)) (hl : s.heap.IsList l items) (hn : items.size ≤ sizeLine)
    (hQ : ∀ h' tk acc' c', (∀ b o, b ≠ I → s.heap.get? b = some o → h'.get? b = some o) → h'.get? s.heap.objs.size = some { cls := .type "list", dict := none, data := .seq acc' c', slots := #[] } → ItemsOf (fun i v => items[items.size - 1 - i]? = some v) acc' items.size → Q (.ref s.heap.objs.size) { s with heap := h', toks := tk }) :
    wpAny (model prog w) A (call (.type "list") [.ref I]) Q E s := by
  refine callType_codes (Q₁ := fun obj s₁ => obj = .ref s.heap.objs.size ∧ s₁ = { s with heap := s.heap.push { cls := .type "list", data := .seq #[] } }) PySem.F.called_list (PySem.F.typeCall_list_1 _) PySem.F.entry_list_init
    (code_list_new _ ⟨rfl, rfl⟩) fun obj s₁ h₁ => ?_
  obtain ⟨rfl, rfl⟩ := h₁
  have hS : (s.heap.push { cls := .type "list", data := .seq #[] }).get? s.heap.objs.size = some { cls := .type "list", data := .seq #[] } := Heap.get?_push_size _ rfl
  have hI : I < s.heap.objs.size := let ⟨_, ho, _⟩ := hit; Heap.lt_size ho
  have hl' : l < s.heap.objs.size := let ⟨_, ho, _⟩ := hl; Heap.lt_size ho
  refine ⟨⟨_, hS, rfl⟩, PySem.F.args_list_init_2 _ _, init_rev (A := A.in1) hh hne (hit.at fun o e => Heap.get?_push_of_some _ e) (hl.at fun o e => Heap.get?_push_of_some _ e) _ (Nat.ne_of_gt hI) (Nat.ne_of_gt hl') hS (fun h' tk acc' c' hk hS' hacc => ?_) hn⟩
  exact ⟨rfl, hQ h' tk acc' c' (fun b o hb e => hk b o (Nat.ne_of_lt (Heap.lt_size e)) hb (Heap.get?_push_of_some _ e)) hS' hacc⟩
theorem list_rev {h₀ : Heap} {L : Addr} {m : Str → Option Value} {news : List (Addr × Obj)} {vs : List Value} {ns : List Int} {Q : Value → Shared → Prop} (hh : A.handled = none) (F : Fr h₀ L s.heap m) (N : News h₀ L s.heap ((I, revObj l ((vs.length : Int) - 1)) :: news)) (hd : ∀ p ∈ news, p.1 ≠ I) (hl : s.heap.IsList l vs.toArray) (hne : l ≠ I) (hi : IntsAre vs ns) (hz : ns.length ≤ 1000)
    (h : ∀ D us c h' tk, Fr h₀ L h' m → News h₀ L h' ((D, listOf us.toArray c) :: news) → (∀ p ∈ news, p.1 < D) → IntsAre us ns.reverse → Q (.ref D) { s with heap := h', toks := tk }) :
    wpAny (model prog w) A (call (.type "list") [.ref I]) Q E s := by
  have hI := N _ (List.Mem.head _)
  have hlen := hi.length
  refine call_rev (items := vs.toArray) hh hne ⟨_, hI.1, rfl, by simp [revObj]⟩ hl (by rw [List.size_toArray, hlen, sizeLine_eq]; omega) fun h' tk acc' c' hk hD hacc => ?_
  have hu : acc'.toList = vs.reverse := by
    refine List.ext_getElem? fun j => ?_
    by_cases hj : j < vs.length
    · have hsz : acc'.size = vs.length := by rw [hacc.1, List.size_toArray]
      have h1 : acc'[j]? = some (acc'[j]'(by omega)) := Array.getElem?_eq_getElem (by omega)
      have h2 := hacc.2 j _ h1
      rw [Array.getElem?_toList, h1, ← h2, List.getElem?_reverse hj]
      simp
    · rw [List.getElem?_eq_none (by rw [Array.length_toList, hacc.1, List.size_toArray]; omega), List.getElem?_eq_none (by rw [List.length_reverse]; omega)]
  have F' : Fr h₀ L h' m := ⟨F.ns.at' fun o e => hk L o hI.2.1.symm e, fun b o e => hk b o (fun q => by have := hI.2.2; rw [← q, e] at this; cases this) (F.keep b o e), F.above⟩
  refine h _ acc'.toList c' h' tk F' (fun p hp => ?_) (fun p hp => Heap.lt_size (N p (.tail _ hp)).1) (by rw [hu]; exact IntsAre.reverse hi)
  rcases List.mem_cons.mp hp with rfl | hp
  · refine ⟨by rw [Array.toArray_toList]; exact hD, Nat.ne_of_gt F.ns.lt, none_at_size F⟩
  · exact ⟨hk _ _ (hd p hp) (N p (.tail _ hp)).1, (N p (.tail _ hp)).2⟩
end
section
variable {prog : Program} {w : World} {A : Around} {E : Value → Shared → Prop} {s : Shared} {env : Env} {h₀ : Heap} {x : Str} {body : List Stmt} {Q : Flow → Shared → Prop}
theorem iter_rev1 {I l : Addr} {vs : List Value} {ns : List Int} {m₀ : Str → Option Value} {y : Str} {a₀ : Int} {t₀ : Tok} (g : Int → Int → Int)
    (hh : A.handled = none) (hl : h₀.IsList l vs.toArray) (hi : IntsAre vs ns) (F : Fr h₀ env.locals s.heap m₀) (N : News h₀ env.locals s.heap [(I, revObj l ((vs.length : Int) - 1))]) (hy : m₀ y = some (.int a₀ t₀))
    (turn : ∀ k t a ta h tk own, k ∈ ns → Fr h₀ env.locals h (fun z => if z = x then some (.int k t) else if z = y then some (.int a ta) else m₀ z) → News h₀ env.locals h own →
      wpAny (model prog w) A (execs body env) (InvPostN h₀ env.locals (fun m' nx => nx = [] ∧ (∃ t', m' y = some (.int (g a k) t')) ∧ ∀ z, z ≠ x → z ≠ y → m' z = m₀ z) own [] { s with heap := h, toks := tk } Q) E { s with heap := h, toks := tk })
    (done : ∀ (u : Str → Option Value) t h tk, Fr h₀ env.locals h (fun z => if z = x then u z else if z = y then some (.int (ns.reverse.foldl g a₀) t) else m₀ z) → News h₀ env.locals h [] → Q .next { s with heap := h, toks := tk }) :
    wpAny (model prog w) A (pyIter (.ref I)) (fun it s₂ => LoopAtV prog w A h₀ env x body Q E it s₂) E s := by
  have hI := N _ (List.Mem.head _)
  obtain ⟨ol, hol, _⟩ := id hl
  have hne : l ≠ I := fun e => by have := hI.2.2; rw [← e, hol] at this; cases this
  have hls : s.heap.IsList l vs.toArray := hl.at fun o e => F.keep l o e
  have hit : s.heap.IsRevIter I l ((vs.toArray.size : Int) - 1) := ⟨_, hI.1, rfl, by simp [revObj]⟩
  refine wpAny_pyIter_revIter hit ?_
  have W := Walks.listRev (prog := prog) (w := w) hh I l hne vs.toArray
  have hlen : ns.length = vs.length := hi.length.symm
  refine loop_accS (ks := ns.reverse) (news := []) (m₀ := m₀) (fun a m nx => nx = [] ∧ (∃ t, m y = some (.int a t)) ∧ ∀ z, z ≠ x → z ≠ y → m z = m₀ z) g a₀ W ⟨by simp [hlen], ?_⟩ ?_ ?_ ?_ ?_ ⟨Nat.zero_le _, by simpa using hit, hls⟩ F News.nil ⟨rfl, ⟨t₀, hy⟩, fun _ _ _ => rfl⟩ ?_ ?_
  · intro i v hi' hv
    have hi2 : i < vs.length := by simpa using hi'
    have hv' : vs.reverse[i]? = some v := by
      rw [List.getElem?_reverse hi2]
      simpa using hv
    obtain ⟨k, t, e, hk⟩ := IntsAre.at (IntsAre.reverse hi) i v hv'
    exact ⟨k, t, hk, e⟩
  · intro hm
    rcases List.mem_cons.mp hm with e | hm
    · exact hI.2.1 e.symm
    · exact absurd (Nat.lt_of_lt_of_le (Heap.lt_size hol) F.above) ((List.mem_singleton.mp hm) ▸ Nat.lt_irrefl _)
  · intro b hb
    rw [List.mem_singleton.mp hb]
    exact hI.2.2
  · intro p hp; cases hp
  · intro p hp; cases hp
  · rintro k t a m₁ nx h tk own hk _ ⟨rfl, ⟨ta, ha⟩, hm⟩ F₁ N₁
    rw [map_one ha hm] at F₁
    exact turn k t a ta h tk own (List.mem_reverse.mp hk) F₁ N₁
  · rintro m₁ nx h tk ⟨rfl, ⟨t, ha⟩, hm⟩ F₁ N₁
    refine done m₁ t h tk ?_ N₁
    rw [done_one ha hm]; exact F₁
end
end

section
def atF (na : List Int) : Int := na.reverse.foldl (fun f x => f * 1 + x) 0
theorem zat_ok (w : World) (p : Program) (loose : List Str) (mean : ExcName → Option Value) (mg mb : Str → Option Value) (a : Addr) (va : List Value) (na : List Int) (t : Tok) (hi : IntsAre va na) (hlen : na.length ≤ 1000) :
    Pure PySem.Challenge.rw_sa0077_01.row.prog w ((by walk_at "mine K" : Params → Frag) w.params) p loose mean mg mb 84 1 [.ref a, .int 1 t] (fun h => h.IsList a va.toArray) (fun _ _ r => ∃ t', r = .int (atF na) t') := by
  k_fill
  unfold Pure
  intro dp un gd cn cs a' ccd cl outer A₀ base h₀ L m s Q E B0 F0 X0 T0 hk hd hu hpre hret
  refine wpAny_call ?_
  k_dflt (walk_at "mine enter")
  intro h₁ tk F N B X T
  replace F : Fr s.heap s.heap.objs.size h₁ (fun y => List.lookup y [(Str.ofString "n", Value.int 1 t), (Str.ofString "p", Value.ref a)]) := F
  (try dsimp only)
  (try k_fold)
  clear B0 F0 X0 T0
  k_steps
  rename Fr _ _ _ _ => F9
  rename News _ _ _ _ => N9
  k_dflt (refine' iter_rev1 (y := Str.ofString "found") (fun f x => f * 1 + x) ?hh ?hl ?hi F9 N9 ?hy ?_ ?_; (case hh => exact rfl); (case hl => assumption); (case hi => assumption); (case hy => exact rfl))
  · intro k t a ta h tk own hk F N
    clear F9 N9
    (try dsimp only)
    (try k_fold)
    k_steps
  · intro u t h tk F N
    clear F9 N9
    (try dsimp only)
    (try k_fold)
    k_steps
    rename Fr _ _ _ _ => F9
    exact hret _ _ _ F9.keep ⟨_, rfl⟩
end

section
local macro_rules | `(tactic| walk_at "mine fit") => `(tactic| first | assumption | omega | (simp only [List.length_map, List.length_append, List.length_replicate, List.length_range, List.length_reverse, List.length_cons, List.length_nil, rangeKs_length]; omega) | fail "mine fit")
local macro_rules | `(tactic| walk_at "call ref") => `(tactic| (k_here; (with_reducible show wpAny _ _ (call (Value.ref 41) [Value.ref _]) _ _ _); k_dflt (refine' useL (ztrim_ok _ _ _ _ _ _ _ _ _ ?hi ?hl) ?B ?F ?X ?T ?N ?hk ?hd ?hu ?hp ?_; (case B => k_asm); (case F => k_asm); (case X => k_asm); (case T => k_asm); (case N => k_asm); (case hk => first | exact rfl | assumption); (case hd => ktr_room); (case hu => ktr_units); (case hp => (try dsimp only); walk_at "mine list"); (case hi => l_ints); (case hl => walk_at "mine fit"); k_whole); intro l' ws' n' h' tk' F' N' hA' hI'))
local macro_rules | `(tactic| walk_at "call type:list") => `(tactic| (k_here; (with_reducible show wpAny _ _ (call (Value.type "list") [Value.ref _]) _ _ _); k_dflt (refine' list_rev ?hh ?F ?N ?hd ?hl ?hne ?hi ?hz ?_; (case hh => exact rfl); (case F => k_asm); (case N => k_asm); (case hd => exact List.forall_mem_nil _); (case hl => is_list); (case hi => l_ints); (case hz => walk_at "mine fit"); (case hne => walk_at "mine ne"); k_whole); intro D' us' c' h' tk' F' N' l1 hI'; (try k_lt l1)))
local macro_rules | `(tactic| walk_at "mine ne") => `(tactic| ((rename Fr _ _ _ _ => F9); (rename News _ _ _ _ => N9); (rename Heap.IsList _ _ _ => I9); exact fun e => by obtain ⟨o9, h9, _⟩ := I9; have q9 := (N9 _ (List.Mem.head _)).2.2; rw [← e, h9] at q9; cases q9))
theorem zreversed_ok (w : World) (p : Program) (loose : List Str) (mean : ExcName → Option Value) (mg mb : Str → Option Value) (a : Addr) (va : List Value) (na : List Int) (hi : IntsAre va na) (hlen : na.length ≤ 1000) :
    Pure PySem.Challenge.rw_sa0077_01.row.prog w ((by walk_at "mine K" : Params → Frag) w.params) p loose mean mg mb 91 2 [.ref a] (fun h => h.IsList a va.toArray) (fun g h r => NewL g h r (trimF na.reverse)) := by
  k_fill
  unfold Pure
  intro dp un gd cn cs a' ccd cl outer A₀ base h₀ L m s Q E B0 F0 X0 T0 hk hd hu hpre hret
  refine wpAny_call ?_
  k_dflt (walk_at "mine enter")
  intro h₁ tk F N B X T
  replace F : Fr s.heap s.heap.objs.size h₁ (fun y => List.lookup y [(Str.ofString "p", Value.ref a)]) := F
  (try dsimp only)
  (try k_fold)
  clear B0 F0 X0 T0
  k_steps
  rename Fr _ _ _ _ => F9
  rename News _ _ _ _ => N9
  exact endL (s := s) hret F9 N9 (List.Mem.head _) (by assumption) rfl
end

section
theorem zcheck_ok (w : World) (p : Program) (loose : List Str) (mean : ExcName → Option Value) (mg mb : Str → Option Value) (a : Addr) (va : List Value) (na : List Int) (hi : IntsAre va na) (hlen : na.length ≤ 1000) (hne : 0 < na.length) :
    Pure PySem.Challenge.rw_sa0077_01.row.prog w ((by walk_at "mine K" : Params → Frag) w.params) p loose mean mg mb 98 1 [.ref a] (fun h => h.IsList a va.toArray) (fun _ _ r => r = .none) := by
  k_fill
  unfold Pure
  intro dp un gd cn cs a' ccd cl outer A₀ base h₀ L m s Q E B0 F0 X0 T0 hk hd hu hpre hret
  refine wpAny_call ?_
  k_dflt (walk_at "mine enter")
  intro h₁ tk F N B X T
  replace F : Fr s.heap s.heap.objs.size h₁ (fun y => List.lookup y [(Str.ofString "p", Value.ref a)]) := F
  (try dsimp only)
  (try k_fold)
  clear B0 F0 X0 T0
  k_steps
  · exfalso; omega
  · rename Fr _ _ _ _ => F9
    exact hret _ _ _ F9.keep rfl
end

section
theorem off_one {l D : Addr} {o : Obj} (h : l < D) : OwnOff [(l, o)] [D] := fun p hp b hb => by
  rw [List.mem_singleton.mp hb, List.mem_singleton.mp hp]
  exact Nat.ne_of_lt h
def EEnd (h₀ : Heap) (L D : Addr) (tl : List (Addr × Obj)) (P : List Int → Prop) (stored : List Str) (m₀ : Str → Option Value) (s : Shared) (s₂ : Shared) : Prop :=
  ∃ h' tk m' us fs c, s₂ = { s with heap := h', toks := tk } ∧ Fr h₀ L h' m' ∧ News h₀ L h' ((D, listOf (List.toArray us) c) :: tl) ∧ IntsAre us fs ∧ P fs ∧ ∀ z, stored.contains z = false → m' z = m₀ z
def EPost (h₀ : Heap) (L D : Addr) (tl : List (Addr × Obj)) (P : List Int → Prop) (stored : List Str) (m₀ : Str → Option Value) (s : Shared) (Q : Flow → Shared → Prop) (f : Flow) (s₂ : Shared) : Prop :=
  match f with
  | .ret v => Q (.ret v) s₂
  | .brk => Q .next s₂
  | _ => EEnd h₀ L D tl P stored m₀ s s₂
theorem EPost.end {h₀ h' : Heap} {L D : Addr} {tl : List (Addr × Obj)} {P : List Int → Prop} {stored : List Str} {m₀ m' : Str → Option Value} {s : Shared} {Q : Flow → Shared → Prop} {us : List Value} {fs : List Int} {c tk : Nat}
    (F : Fr h₀ L h' m') (N : News h₀ L h' ((D, listOf (List.toArray us) c) :: tl)) (hi : IntsAre us fs) (hp : P fs) (hm : ∀ z, stored.contains z = false → m' z = m₀ z) : EPost h₀ L D tl P stored m₀ s Q .next { s with heap := h', toks := tk } :=
  ⟨h', tk, m', us, fs, c, rfl, F, N, hi, hp, hm⟩
theorem map_off {xi xc : Str} {stored : List Str} {a b : Option Value} {u m₀ : Str → Option Value} (hi : stored.contains xi = true) (hc : stored.contains xc = true) : ∀ z, stored.contains z = false → (if z = xc then a else if z = xi then b else if stored.contains z then u z else m₀ z) = m₀ z := by
  intro z h
  have h1 : z ≠ xc := fun e => by rw [e, hc] at h; cases h
  have h2 : z ≠ xi := fun e => by rw [e, hi] at h; cases h
  rw [if_neg h1, if_neg h2, h]
  rfl
theorem fr_back {h₀ h : Heap} {L : Addr} {stored : List Str} {m' m₀ : Str → Option Value} (hm : ∀ z, stored.contains z = false → m' z = m₀ z) (F : Fr h₀ L h m') : Fr h₀ L h (fun z => if stored.contains z then m' z else m₀ z) := by
  have em : (fun z => if stored.contains z then m' z else m₀ z) = m' := by
    funext z
    cases h3 : stored.contains z with
    | true => simp
    | false => simp only [Bool.false_eq_true, if_false]; exact (hm z h3).symm
  rw [em]
  exact F
section
variable {prog : Program} {w : World} {A : Around} {E : Value → Shared → Prop} {s : Shared} {env : Env} {h₀ : Heap} {Q : Flow → Shared → Prop}
theorem iter_enumD {L : Addr} {ns : List Int} {e : Addr} {m₀ : Str → Option Value} {D : Addr} {us₀ : List Value} {fs₀ : List Int} {c₀ : Nat} {tail : List (Addr × Obj)} {xi xc : Str} {body : List Stmt} (stored : List Str) (P : Nat → List Int → Prop)
    (S : PairSrcL prog w A E h₀ L ItemKind.int ns (.ref e) s m₀ ((D, listOf us₀.toArray c₀) :: tail)) (hL : env.locals = L) (hoff : OwnOff tail [D]) (hi : IntsAre us₀ fs₀) (h0 : P 0 fs₀)
    (turn : ∀ (i : Nat) a t t' us fs c (u : Str → Option Value) h tk tl, ns[i]? = some a → i < ns.length → IntsAre us fs → P i fs → OwnOff tl [D] →
      Fr h₀ L h (fun y => if y = xc then some (.int a t') else if y = xi then some (.int i t) else if stored.contains y then u y else m₀ y) → News h₀ L h ((D, listOf us.toArray c) :: tl) →
      wpAny (model prog w) A (execs body env) (EPost h₀ L D tl (P (i + 1)) stored m₀ { s with heap := h, toks := tk } Q) E { s with heap := h, toks := tk })
    (done : ∀ us fs c m' h tk, IntsAre us fs → P ns.length fs → (∀ z, stored.contains z = false → m' z = m₀ z) → Fr h₀ L h m' → News h₀ L h ((D, listOf us.toArray c) :: tail) → Q .next { s with heap := h, toks := tk }) :
    wpAny (model prog w) A (pyIter (.ref e)) (fun it s₂ => PairAt3 prog w A h₀ env xi xc body Q E it s₂) E s := by
  subst hL
  refine S.at env rfl xi xc body Q (fun i m₁ nx => ∃ us fs c, nx = (D, listOf (List.toArray us) c) :: tail ∧ IntsAre us fs ∧ P i fs ∧ ∀ z, stored.contains z = false → m₁ z = m₀ z) ⟨us₀, fs₀, c₀, rfl, hi, h0, fun _ _ => rfl⟩ ?_ ?_
  · rintro i a t v m₁ news₁ s₁ own ⟨h, tk, rfl⟩ ha hv ⟨us, fs, c, rfl, hif, hp, hm⟩ _ hown F₁ N₁
    obtain ⟨t', rfl⟩ := ItemKind.int_is hv
    have hD : ∀ p ∈ own, p.1 ≠ D := fun p hp => hown p hp _ (List.Mem.head _)
    have hoff' : OwnOff (own ++ tail) [D] := fun p hp b hb => by
      rcases List.mem_append.mp hp with hp | hp
      · rw [List.mem_singleton.mp hb]; exact hD p hp
      · exact hoff p hp b hb
    have em : (fun y => if y = xc then some (Value.int a t') else if y = xi then some (Value.int i t) else if stored.contains y then m₁ y else m₀ y) = fun y => if y = xc then some (Value.int a t') else if y = xi then some (Value.int i t) else m₁ y := by
      funext y
      by_cases h1 : y = xc
      · simp [h1]
      · by_cases h2 : y = xi
        · simp [h2]
        · simp only [if_neg h1, if_neg h2]
          cases h3 : stored.contains y with
          | true => simp
          | false => simp only [Bool.false_eq_true, if_false]; exact (hm y h3).symm
    have hlt : i < ns.length := by
      obtain ⟨h9, _⟩ := List.getElem?_eq_some_iff.mp ha
      exact h9
    have N₂ : News h₀ env.locals h ((D, listOf us.toArray c) :: (own ++ tail)) := fun p hp => N₁ p (by
      rcases List.mem_cons.mp hp with rfl | hp
      · exact List.mem_append_right _ (List.Mem.head _)
      · rcases List.mem_append.mp hp with hp | hp
        · exact List.mem_append_left _ hp
        · exact List.mem_append_right _ (List.Mem.tail _ hp))
    refine wpAny_mono (turn i a t t' us fs c m₁ h tk (own ++ tail) ha hlt hif hp hoff' (em ▸ F₁) N₂) (fun f s₂ p => ?_) fun _ _ x => x
    have fin : EEnd h₀ env.locals D (own ++ tail) (P (i + 1)) stored m₀ { s with heap := h, toks := tk } s₂ → LoopStep2 h₀ env.locals own ((D, listOf us.toArray c) :: tail) (fun m₁ nx => ∃ us fs c, nx = (D, listOf (List.toArray us) c) :: tail ∧ IntsAre us fs ∧ P (i + 1) fs ∧ ∀ z, stored.contains z = false → m₁ z = m₀ z) { s with heap := h, toks := tk } .next s₂ := by
      rintro ⟨h', tk', m', us', fs', c', e', F', N', hi', hp', hm'⟩
      refine ⟨rfl, h', tk', m', (D, listOf us'.toArray c') :: tail, e', F', fun p hp => N' p ?_, rfl, us', fs', c', rfl, hi', hp', hm'⟩
      rcases List.mem_append.mp hp with hp | hp
      · exact List.Mem.tail _ (List.mem_append_left _ hp)
      · rcases List.mem_cons.mp hp with rfl | hp
        · exact List.Mem.head _
        · exact List.Mem.tail _ (List.mem_append_right _ hp)
    cases f with
    | ret v => exact p
    | brk => exact p
    | next => exact fin p
    | cont => exact fin p
  · rintro h' tk m' news' F' N' _ ⟨us, fs, c, rfl, hif, hp, hm⟩
    exact done us fs c m' h' tk hif hp hm F' N'
end
end

section
def mulIn (left : Int) (one : Nat) : Nat → List Int → List Int → List Int
  | _, [], f => f
  | o, r :: rs, f => mulIn left one (o + 1) rs (f.set (one + o) (f.getD (one + o) 0 + left * r))
def mulOut (nb : List Int) : Nat → List Int → List Int → List Int
  | _, [], f => f
  | i, l :: ls, f => mulOut nb (i + 1) ls (if l = 0 then f else mulIn l i 0 nb f)
def mulF (na nb : List Int) : List Int := if na.length = 0 then [] else if nb.length = 0 then [] else mulOut nb 0 na (List.replicate (na.length + nb.length - 1) 0)
theorem drop_at {ns : List Int} {i : Nat} {a : Int} (h : ns[i]? = some a) : ns.drop i = a :: ns.drop (i + 1) := by
  obtain ⟨h1, h2⟩ := List.getElem?_eq_some_iff.mp h
  rw [List.drop_eq_getElem_cons h1, h2]
def MulP (na nb : List Int) (f₀ : List Int) (i : Nat) (f : List Int) : Prop := f.length = na.length + nb.length - 1 ∧ mulOut nb i (na.drop i) f = mulOut nb 0 na f₀
def MulQ (nb : List Int) (l : Int) (i n : Nat) (f₀ : List Int) (j : Nat) (f : List Int) : Prop := f.length = n ∧ mulIn l i j (nb.drop j) f = mulIn l i 0 nb f₀
theorem MulP.zero (na nb f₀ : List Int) (h : f₀.length = na.length + nb.length - 1) : MulP na nb f₀ 0 f₀ := ⟨h, by rw [List.drop_zero]⟩
theorem MulQ.zero (nb f₀ : List Int) (l : Int) (i n : Nat) (h : f₀.length = n) : MulQ nb l i n f₀ 0 f₀ := ⟨h, by rw [List.drop_zero]⟩
theorem MulQ.step {nb f₀ f : List Int} {l r : Int} {i j n : Nat} (h : MulQ nb l i n f₀ j f) (hr : nb[j]? = some r) : MulQ nb l i n f₀ (j + 1) (f.set (i + j) (f.getD (i + j) 0 + l * r)) := by
  obtain ⟨h1, h2⟩ := h
  rw [drop_at hr, mulIn] at h2
  exact ⟨by rw [List.length_set]; exact h1, h2⟩
theorem MulP.skip {na nb f₀ f : List Int} {l : Int} {i : Nat} (h : MulP na nb f₀ i f) (hl : na[i]? = some l) (h0 : l = 0) : MulP na nb f₀ (i + 1) f := by
  obtain ⟨h1, h2⟩ := h
  rw [drop_at hl, mulOut, if_pos h0] at h2
  exact ⟨h1, h2⟩
theorem MulP.step {na nb f₀ f f' : List Int} {l : Int} {i n : Nat} (h : MulP na nb f₀ i f) (hl : na[i]? = some l) (h0 : l ≠ 0) (hn : n = na.length + nb.length - 1) (q : MulQ nb l i n f nb.length f') : MulP na nb f₀ (i + 1) f' := by
  obtain ⟨h1, h2⟩ := h
  obtain ⟨q1, q2⟩ := q
  rw [List.drop_length, mulIn] at q2
  rw [drop_at hl, mulOut, if_neg h0, ← q2] at h2
  exact ⟨q1.trans hn, h2⟩
def SmallL (l : List Int) : Prop := ∀ x ∈ l, -1000000000000000 ≤ x ∧ x ≤ 1000000000000000
theorem zmul_ok (w : World) (p : Program) (loose : List Str) (mean : ExcName → Option Value) (mg mb : Str → Option Value) (a b : Addr) (va vb : List Value) (na nb : List Int) (hia : IntsAre va na) (hib : IntsAre vb nb) (hlena : na.length ≤ 1000) (hlenb : nb.length ≤ 1000) (hsm : SmallL na) :
    Pure PySem.Challenge.rw_sa0077_01.row.prog w ((by walk_at "mine K" : Params → Frag) w.params) p loose mean mg mb 77 1 [.ref a, .ref b] (fun h => h.IsList a va.toArray ∧ h.IsList b vb.toArray) (fun g h r => NewL g h r (mulF na nb)) := by
  k_fill
  unfold Pure
  intro dp un gd cn cs a' ccd cl outer A₀ base h₀ L m s Q E B0 F0 X0 T0 hk hd hu hpre hret
  obtain ⟨hpa, hpb⟩ := hpre
  refine wpAny_call ?_
  k_dflt (walk_at "mine enter")
  intro h₁ tk F N B X T
  replace F : Fr s.heap s.heap.objs.size h₁ (fun y => List.lookup y [(Str.ofString "b", Value.ref b), (Str.ofString "a", Value.ref a)]) := F
  (try dsimp only)
  (try k_fold)
  clear B0 F0 X0 T0
  k_steps
  · rename Fr _ _ _ _ => F9
    rename News _ _ _ _ => N9
    exact endL (vs := []) (s := s) hret F9 N9 (List.Mem.head _) IntsAre.nil (by rw [mulF, if_pos (by omega)])
  · rename Fr _ _ _ _ => F9
    rename News _ _ _ _ => N9
    exact endL (vs := []) (s := s) hret F9 N9 (List.Mem.head _) IntsAre.nil (by rw [mulF, if_neg (by omega), if_pos (by omega)])
  · rename PairSrcL _ _ _ _ _ _ _ _ _ _ _ _ => S9
    rename IntsAre (List.flatten _) _ => I9
    have hfl : (List.replicate ((na.length : Int) + (nb.length : Int) - 1).toNat [(0 : Int)]).flatten = List.replicate (na.length + nb.length - 1) 0 := by
      rw [flat_one]
      congr 1
      omega
    rw [hfl] at I9
    k_dflt (refine' iter_enumD [Str.ofString "one", Str.ofString "left", Str.ofString "other", Str.ofString "right"] (MulP na nb (List.replicate (na.length + nb.length - 1) 0)) S9 rfl ?hoff I9 ?h0 ?_ ?_; (case h0 => exact MulP.zero na nb _ (List.length_replicate ..)); (case hoff => exact off_one (by assumption)))
    · intro i a1 t t' us fs c u h tk tl hai hil hif hP hoff F N
      clear S9
      have hsz := hsm a1 (List.mem_of_getElem? hai)
      obtain ⟨hs1, hs2⟩ := hsz
      (try dsimp only)
      (try k_fold)
      k_steps
      · rename PairSrcL _ _ _ _ _ _ _ _ _ _ _ _ => S9
        have hPl := hP.1
        k_dflt (refine' iter_enumD [Str.ofString "other", Str.ofString "right"] (MulQ nb a1 i (na.length + nb.length - 1) fs) S9 rfl hoff hif ?h0 ?_ ?_; (case h0 => exact MulQ.zero nb fs a1 i _ hPl))
        · intro j a2 t2 t3 us2 fs2 c2 u2 h2 tk2 tl2 haj hjl hif2 hQ hoff2 F N
          clear S9
          have hQl := hQ.1
          (try dsimp only)
          (try k_fold)
          k_steps
          rename Fr _ _ _ _ => F9
          rename News _ _ _ _ => N9
          exact EPost.end F9 N9 (by assumption) (hQ.step haj) (map_off rfl rfl)
        · intro us2 fs2 c2 m2 h2 tk2 hif2 hQ hm2 F N
          clear S9
          k_steps
          exact EPost.end F N hif2 (hP.step hai (by assumption) rfl hQ) fun z hz => (hm2 z (by simp only [List.contains_cons, List.contains_nil, Bool.or_false, Bool.or_eq_false_iff] at hz ⊢; exact ⟨hz.2.2.1, hz.2.2.2⟩)).trans (map_off (xi := Str.ofString "one") (xc := Str.ofString "left") (u := u) (m₀ := fun z => if z = Str.ofString "found" then some (Value.ref _) else List.lookup z [(Str.ofString "b", Value.ref b), (Str.ofString "a", Value.ref a)]) rfl rfl z hz)
      · rename Fr _ _ _ _ => F9
        rename News _ _ _ _ => N9
        exact EPost.end F9 N9 hif (hP.skip hai (by assumption)) (map_off rfl rfl)
    · intro us2 fs2 c2 m2 h2 tk2 hif2 hP hm2 F N
      clear S9
      replace F := fr_back hm2 F
      k_steps
      rename Fr _ _ _ _ => F9
      rename News _ _ _ _ => N9
      refine endL (s := s) hret F9 N9 (List.Mem.head _) hif2 ?_
      have q := hP.2
      rw [List.drop_length, mulOut] at q
      rw [mulF, if_neg (by omega), if_neg (by omega)]
      exact q
end

section
def Stop (P : Prop) : Prop := P
theorem Stop.of {P : Prop} (h : Stop P) : P := h
theorem pick2 {h₀ h : Heap} {L a b : Addr} {o o' : Obj} {news : List (Addr × Obj)} (N : News h₀ L h news) (ha : (a, o) ∈ news) (hb : (b, o') ∈ news) : News h₀ L h [(a, o), (b, o')] := fun p hp => by
  rcases List.mem_cons.mp hp with rfl | hp
  · exact N _ ha
  · rw [List.mem_singleton.mp hp]; exact N _ hb
def WEnd (h₀ : Heap) (L : Addr) (xr xf : Str) (P : Nat → List Int → List Int → Prop) (stored : List Str) (m₀ : Str → Option Value) (s : Shared) (n : Nat) (s₂ : Shared) : Prop :=
  ∃ h' tk m' R D us rs cr ws fs cf n', s₂ = { s with heap := h', toks := tk } ∧ Fr h₀ L h' m' ∧ News h₀ L h' [(R, listOf (List.toArray us) cr), (D, listOf (List.toArray ws) cf)] ∧ @Ne Nat R D ∧ IntsAre us rs ∧ IntsAre ws fs ∧ m' xr = some (.ref R) ∧ m' xf = some (.ref D) ∧ n' < n ∧ P n' rs fs ∧ ∀ z, stored.contains z = false → m' z = m₀ z
def WPost (h₀ : Heap) (L : Addr) (xr xf : Str) (P : Nat → List Int → List Int → Prop) (stored : List Str) (m₀ : Str → Option Value) (s : Shared) (n : Nat) (Q : Flow → Shared → Prop) (f : Flow) (s₂ : Shared) : Prop :=
  match f with
  | .ret v => Q (.ret v) s₂
  | .brk => Q .next s₂
  | _ => WEnd h₀ L xr xf P stored m₀ s n s₂
theorem WPost.end {h₀ h' : Heap} {L R D : Addr} {xr xf : Str} {P : Nat → List Int → List Int → Prop} {stored : List Str} {m₀ m' : Str → Option Value} {s : Shared} {n n' cr cf tk : Nat} {Q : Flow → Shared → Prop} {us ws : List Value} {rs fs : List Int} {news : List (Addr × Obj)}
    (F : Fr h₀ L h' m') (N : News h₀ L h' news) (hr : (R, listOf (List.toArray us) cr) ∈ news) (hf : (D, listOf (List.toArray ws) cf) ∈ news) (hne : @Ne Nat R D) (hi : IntsAre us rs) (hj : IntsAre ws fs) (hmr : m' xr = some (.ref R)) (hmf : m' xf = some (.ref D)) (hn : n' < n) (hp : P n' rs fs) (hm : ∀ z, stored.contains z = false → m' z = m₀ z) :
    WPost h₀ L xr xf P stored m₀ s n Q .next { s with heap := h', toks := tk } := ⟨h', tk, m', R, D, us, rs, cr, ws, fs, cf, n', rfl, F, pick2 N hr hf, hne, hi, hj, hmr, hmf, hn, hp, hm⟩
section
variable {prog : Program} {w : World} {A : Around} {E : Value → Shared → Prop} {s : Shared} {env : Env} {h₀ : Heap} {Q : Flow → Shared → Prop}
theorem while_rf {L : Addr} {test : Expr} {body : List Stmt} {pos : Pos} {m₀ : Str → Option Value} {R₀ D₀ : Addr} {us₀ ws₀ : List Value} {rs₀ fs₀ : List Int} {cr₀ cf₀ n₀ : Nat} {news : List (Addr × Obj)} (xr xf : Str) (stored : List Str) (P : Nat → List Int → List Int → Prop)
    (F : Fr h₀ L s.heap m₀) (N : News h₀ L s.heap news) (hr : (R₀, listOf us₀.toArray cr₀) ∈ news) (hf : (D₀, listOf ws₀.toArray cf₀) ∈ news) (hne : @Ne Nat R₀ D₀) (hi : IntsAre us₀ rs₀) (hj : IntsAre ws₀ fs₀) (hmr : m₀ xr = some (.ref R₀)) (hmf : m₀ xf = some (.ref D₀)) (hp : P n₀ rs₀ fs₀)
    (turn : ∀ n R D us rs cr ws fs cf (u : Str → Option Value) h tk, P n rs fs → IntsAre us rs → IntsAre ws fs → @Ne Nat R D →
      Fr h₀ L h (fun y => if y = xr then some (.ref R) else if y = xf then some (.ref D) else if stored.contains y then u y else m₀ y) → News h₀ L h [(R, listOf us.toArray cr), (D, listOf ws.toArray cf)] →
      wpAny (model prog w) A (isTrue test env (eval test env)) (fun b s₂ =>
        if b = true then wpAny (model prog w) A (execs body env) (WPost h₀ L xr xf P stored m₀ { s with heap := h, toks := tk } n Q) E s₂ else Q .next s₂) E { s with heap := h, toks := tk })
    (hE : PassesOwn (model prog w) A env E := by passes_own) :
    wpAny (model prog w) A (exec (.While test body [] pos) env) Q E s := by
  refine While_inv2 (fun n m nx => ∃ R D us rs cr ws fs cf, nx = [(R, listOf (List.toArray us) cr), (D, listOf (List.toArray ws) cf)] ∧ @Ne Nat R D ∧ IntsAre us rs ∧ IntsAre ws fs ∧ m xr = some (.ref R) ∧ m xf = some (.ref D) ∧ P n rs fs ∧ ∀ z, stored.contains z = false → m z = m₀ z) F (pick2 N hr hf) ⟨R₀, D₀, us₀, rs₀, cr₀, ws₀, fs₀, cf₀, rfl, hne, hi, hj, hmr, hmf, hp, fun _ _ => rfl⟩ ?_ hE
  rintro n m₁ nx h tk F₁ N₁ ⟨R, D, us, rs, cr, ws, fs, cf, rfl, hne', hi', hj', hr', hf', hp', hm'⟩
  have em : (fun y => if y = xr then some (Value.ref R) else if y = xf then some (Value.ref D) else if stored.contains y then m₁ y else m₀ y) = m₁ := by
    funext y
    by_cases h1 : y = xr
    · simp [h1, hr']
    · by_cases h2 : y = xf
      · simp only [if_neg h1, if_pos h2]; rw [h2, hf']
      · simp only [if_neg h1, if_neg h2]
        cases h3 : stored.contains y with
        | true => simp
        | false => simp only [Bool.false_eq_true, if_false]; exact (hm' y h3).symm
  refine wpAny_mono (turn n R D us rs cr ws fs cf m₁ h tk hp' hi' hj' hne' (em.symm ▸ F₁) N₁) (fun b s₂ p => ?_) fun _ _ x => x
  cases b with
  | false => simpa using p
  | true =>
    simp only [if_true] at p ⊢
    refine wpAny_mono p (fun f s₃ q => ?_) fun _ _ x => x
    have fin : WEnd h₀ L xr xf P stored m₀ { s with heap := h, toks := tk } n s₃ → WhileStep2 h₀ L s (fun n m nx => ∃ R D us rs cr ws fs cf, nx = [(R, listOf (List.toArray us) cr), (D, listOf (List.toArray ws) cf)] ∧ @Ne Nat R D ∧ IntsAre us rs ∧ IntsAre ws fs ∧ m xr = some (.ref R) ∧ m xf = some (.ref D) ∧ P n rs fs ∧ ∀ z, stored.contains z = false → m z = m₀ z) Q n .next s₃ := by
      rintro ⟨h', tk', m', R', D', us', rs', cr', ws', fs', cf', n', e', F', N', a1, a2, a3, a4, a5, a6, a7, a8⟩
      exact ⟨h', tk', m', _, n', e', F', N', a6, R', D', us', rs', cr', ws', fs', cf', rfl, a1, a2, a3, a4, a5, a7, a8⟩
    cases f with
    | ret v => exact q
    | brk => exact q
    | next => exact fin q
    | cont => exact fin q
end
end

section
local macro_rules | `(tactic| walk_at "mine fit") => `(tactic| first | assumption | omega | (simp only [List.length_map, List.length_append, List.length_replicate, List.length_range, List.length_reverse, List.length_cons, List.length_nil, rangeKs_length]; omega) | fail "mine fit")
local macro_rules | `(tactic| walk_at "call ref") => `(tactic| (k_here; (with_reducible show wpAny _ _ (call (Value.ref 98) [Value.ref _]) _ _ _); k_dflt (refine' useP (zcheck_ok _ _ _ _ _ _ _ _ _ ?hi ?hl ?hne) ?B ?F ?X ?T ?N ?hk ?hd ?hu ?hp ?_; (case B => k_asm); (case F => k_asm); (case X => k_asm); (case T => k_asm); (case N => k_asm); (case hk => first | exact rfl | assumption); (case hd => ktr_room); (case hu => ktr_units); (case hp => (try dsimp only); walk_at "mine list"); (case hi => l_ints); (case hl => walk_at "mine fit"); (case hne => walk_at "mine fit"); k_whole); intro r' h' tk' F' N' hK' hP'; subst hP'; clear hK'; (try dsimp only)))
local macro_rules | `(tactic| walk_at "call ref") => `(tactic| (k_here; (with_reducible show wpAny _ _ (call (Value.ref 63) [Value.ref _, Value.int _ _]) _ _ _); k_dflt (refine' useL (zscale_ok _ _ _ _ _ _ _ _ _ _ _ ?hi ?hl ?h1 ?h2) ?B ?F ?X ?T ?N ?hk ?hd ?hu ?hp ?_; (case B => k_asm); (case F => k_asm); (case X => k_asm); (case T => k_asm); (case N => k_asm); (case hk => first | exact rfl | assumption); (case hd => ktr_room); (case hu => ktr_units); (case hp => (try dsimp only); walk_at "mine list"); (case hi => l_ints); (case hl => walk_at "mine fit"); (case h1 => walk_at "mine fit"); (case h2 => walk_at "mine fit"); k_whole); intro l' ws' n' h' tk' F' N' hA' hI'))
local macro_rules | `(tactic| walk_at "call ref") => `(tactic| (k_here; (with_reducible show wpAny _ _ (call (Value.ref 70) [Value.ref _, Value.int _ _]) _ _ _); k_dflt (refine' useL (zraise_ok _ _ _ _ _ _ _ _ _ _ _ ?hi ?hl ?h1 ?h2) ?B ?F ?X ?T ?N ?hk ?hd ?hu ?hp ?_; (case B => k_asm); (case F => k_asm); (case X => k_asm); (case T => k_asm); (case N => k_asm); (case hk => first | exact rfl | assumption); (case hd => ktr_room); (case hu => ktr_units); (case hp => (try dsimp only); walk_at "mine list"); (case hi => l_ints); (case hl => walk_at "mine fit"); (case h1 => walk_at "mine fit"); (case h2 => walk_at "mine fit"); k_whole); intro l' ws' n' h' tk' F' N' hA' hI'))
local macro_rules | `(tactic| walk_at "call ref") => `(tactic| (k_here; (with_reducible show wpAny _ _ (call (Value.ref 58) [Value.ref _, Value.ref _]) _ _ _); k_dflt (refine' useL (zsub_ok _ _ _ _ _ _ _ _ _ _ _ _ ?hi ?hj ?hl ?hm) ?B ?F ?X ?T ?N ?hk ?hd ?hu ?hp ?_; (case B => k_asm); (case F => k_asm); (case X => k_asm); (case T => k_asm); (case N => k_asm); (case hk => first | exact rfl | assumption); (case hd => ktr_room); (case hu => ktr_units); (case hp => (try dsimp only); refine And.intro ?_ ?_ <;> walk_at "mine list"); (case hi => l_ints); (case hj => l_ints); (case hl => walk_at "mine fit"); (case hm => walk_at "mine fit"); k_whole); intro l' ws' n' h' tk' F' N' hA' hI'))
local macro_rules | `(tactic| walk_at "call ref") => `(tactic| (k_here; (with_reducible show wpAny _ _ (call (Value.ref 41) [Value.ref _]) _ _ _); k_dflt (refine' useL (ztrim_ok _ _ _ _ _ _ _ _ _ ?hi ?hl) ?B ?F ?X ?T ?N ?hk ?hd ?hu ?hp ?_; (case B => k_asm); (case F => k_asm); (case X => k_asm); (case T => k_asm); (case N => k_asm); (case hk => first | exact rfl | assumption); (case hd => ktr_room); (case hu => ktr_units); (case hp => (try dsimp only); walk_at "mine list"); (case hi => l_ints); (case hl => walk_at "mine fit"); k_whole); intro l' ws' n' h' tk' F' N' hA' hI'))
local macro_rules | `(tactic| walk_at "exec While Compare cons nil") => `(tactic| refine Stop.of ?_)
local macro_rules | `(tactic| walk_at "mine fit") => `(tactic| first | assumption | omega | (refine Nat.le_trans (scaleF_len _ _) ?_; omega) | (refine Nat.le_trans (raiseF_len _ _) ?_; refine Nat.le_trans (Nat.add_le_add_left (scaleF_len _ _) _) ?_; omega) | (rw [List.length_set]; omega) | fail "mine fit2")
def zexD (nb : List Int) : Int := nb.getD (-1 + (nb.length : Int)).toNat 0
def zexT (rs : List Int) : Int := rs.getD (-1 + (rs.length : Int)).toNat 0
def zexOk (nb rs fs : List Int) : Bool := decide (zexD nb ≠ 0) && decide (Int.fmod (zexT rs) (zexD nb) = 0) && decide (-1000000000000000 ≤ Int.fdiv (zexT rs) (zexD nb)) && decide (Int.fdiv (zexT rs) (zexD nb) ≤ 1000000000000000) && decide (rs.length - nb.length < fs.length) && decide (rs.length ≤ 500) && decide (0 < rs.length) && decide ((zexD nb).natAbs < 1000)
def zex (nb : List Int) : Nat → List Int → List Int → Option (List Int)
  | 0, _, _ => none
  | n + 1, rs, fs => if rs.length < nb.length then (if rs.length = 0 then some (trimF fs) else none)
    else if zexOk nb rs fs = true then zex nb n (subF rs (raiseF (scaleF nb (Int.fdiv (zexT rs) (zexD nb))) ((rs.length : Int) - (nb.length : Int)))) (fs.set ((rs.length : Int) - (nb.length : Int)).toNat (Int.fdiv (zexT rs) (zexD nb))) else none
def ZexP (nb : List Int) (r : List Int) (n : Nat) (rs fs : List Int) : Prop := zex nb n rs fs = some r ∧ fs.length ≤ 501
theorem ZexP.stop {nb r rs fs : List Int} {n : Nat} (h : ZexP nb r n rs fs) (hl : rs.length < nb.length) : rs.length = 0 ∧ trimF fs = r ∧ fs.length ≤ 501 := by
  obtain ⟨h, hf⟩ := h
  cases n with
  | zero => rw [zex] at h; cases h
  | succ n =>
    rw [zex, if_pos hl] at h
    by_cases h0 : rs.length = 0
    · rw [if_pos h0] at h; exact ⟨h0, Option.some.inj h, hf⟩
    · rw [if_neg h0] at h; cases h
theorem ZexP.go {nb r rs fs : List Int} {n : Nat} (h : ZexP nb r n rs fs) (hl : nb.length ≤ rs.length) : zexD nb ≠ 0 ∧ Int.fmod (zexT rs) (zexD nb) = 0 ∧ -1000000000000000 ≤ Int.fdiv (zexT rs) (zexD nb) ∧ Int.fdiv (zexT rs) (zexD nb) ≤ 1000000000000000 ∧ rs.length - nb.length < fs.length ∧ rs.length ≤ 500 ∧ 0 < rs.length ∧ fs.length ≤ 501 ∧ (zexD nb).natAbs < 1000 ∧
    ∃ n', n' < n ∧ ZexP nb r n' (subF rs (raiseF (scaleF nb (Int.fdiv (zexT rs) (zexD nb))) ((rs.length : Int) - (nb.length : Int)))) (fs.set ((rs.length : Int) - (nb.length : Int)).toNat (Int.fdiv (zexT rs) (zexD nb))) := by
  obtain ⟨h, hf⟩ := h
  cases n with
  | zero => rw [zex] at h; cases h
  | succ n =>
    rw [zex, if_neg (by omega)] at h
    by_cases h0 : zexOk nb rs fs = true
    · rw [if_pos h0] at h
      simp only [zexOk, Bool.and_eq_true, decide_eq_true_eq] at h0
      exact ⟨h0.1.1.1.1.1.1.1, h0.1.1.1.1.1.1.2, h0.1.1.1.1.1.2, h0.1.1.1.1.2, h0.1.1.1.2, h0.1.1.2, h0.1.2, hf, h0.2, n, Nat.lt_succ_self _, h, by rw [List.length_set]; exact hf⟩
    · rw [if_neg h0] at h; cases h
theorem zexact_ok (w : World) (p : Program) (loose : List Str) (mean : ExcName → Option Value) (mg mb : Str → Option Value) (a b : Addr) (va vb : List Value) (na nb r : List Int) (n : Nat) (hia : IntsAre va na) (hib : IntsAre vb nb) (hlena : na.length ≤ 500) (hlenb : nb.length ≤ 500) (hne : 0 < nb.length) (hz : zex nb n na (List.replicate (na.length + 1 - nb.length) 0) = some r) :
    Pure PySem.Challenge.rw_sa0077_01.row.prog w ((by walk_at "mine K" : Params → Frag) w.params) p loose mean mg mb 105 5 [.ref a, .ref b] (fun h => h.IsList a va.toArray ∧ h.IsList b vb.toArray) (fun g h r' => NewL g h r' r) := by
  k_fill
  unfold Pure
  intro dp un gd cn cs a' ccd cl outer A₀ base h₀ L m s Q E B0 F0 X0 T0 hk hd hu hpre hret
  obtain ⟨hpa, hpb⟩ := hpre
  refine wpAny_call ?_
  k_dflt (walk_at "mine enter")
  intro h₁ tk F N B X T
  replace F : Fr s.heap s.heap.objs.size h₁ (fun y => List.lookup y [(Str.ofString "b", Value.ref b), (Str.ofString "a", Value.ref a)]) := F
  (try dsimp only)
  (try k_fold)
  clear B0 F0 X0 T0
  k_steps
  unfold Stop
  rename Fr _ _ _ _ => F9
  rename News _ _ _ _ => N9
  rename IntsAre (List.flatten _) _ => I9
  have hfl : (List.replicate (if (na.length : Int) - (nb.length : Int) + 1 > 0 then (na.length : Int) - (nb.length : Int) + 1 else 0).toNat [(0 : Int)]).flatten = List.replicate (na.length + 1 - nb.length) 0 := by
    rw [flat_one]
    congr 1
    split <;> omega
  rw [hfl] at I9
  k_dflt (refine' while_rf (Str.ofString "rest") (Str.ofString "found") [Str.ofString "rest", Str.ofString "found", Str.ofString "number", Str.ofString "power"] (ZexP nb r) F9 N9 ?hr ?hf ?hne hia I9 ?hmr ?hmf ?hp ?_ ?hE; (case hr => k_mem); (case hf => k_mem); (case hne => k_ne); (case hmr => exact rfl); (case hmf => exact rfl); (case hp => exact And.intro hz (by rw [List.length_replicate]; omega)); (case hE => passes_own))
  intro n1 R D us rs cr ws fs cf u h tk hP hif hjf hRD F N
  clear F9 N9 I9 hfl
  by_cases hge : nb.length ≤ rs.length
  · obtain ⟨g1, g2, g3, g4, g5, g6, g7, g8, g9, n2, hn2, hP2⟩ := hP.go hge
    simp only [zexD, zexT] at g1 g2 g3 g4 g9 hP2
    (try dsimp only)
    (try k_fold)
    k_steps
    · exact absurd g2 (by assumption)
    · rename Fr _ _ _ _ => F9
      rename News _ _ _ _ => N9
      k_dflt (refine' WPost.end F9 N9 ?hr ?hf ?hne (by assumption) (by assumption) ?hmr ?hmf hn2 hP2 ?hm; (case hmr => exact rfl); (case hmf => exact rfl); (case hr => k_mem); (case hf => k_mem))
      case hne => exact NeAll.ne (by assumption) (by k_mem)
      intro z hz
      simp only [List.contains_cons, List.contains_nil, Bool.or_false, Bool.or_eq_false_iff, beq_eq_false_iff_ne, ne_eq] at hz
      simp [hz]
  · obtain ⟨g1, g2, g3⟩ := hP.stop (by omega)
    (try dsimp only)
    (try k_fold)
    k_steps
    · rename Fr _ _ _ _ => F9
      rename News _ _ _ _ => N9
      exact endL (s := s) hret F9 N9 (List.Mem.head _) (by assumption) g2
    · exfalso; omega
end

section
theorem gnNe_all {d : Addr} : ∀ {l : List (Addr × Obj)}, GnNe d l → ∀ p ∈ l, p.1 ≠ d
  | [], _, _, h => nomatch h
  | q :: r, h, p, hp => by
    rcases List.mem_cons.mp hp with rfl | hp
    · exact h.1
    · exact gnNe_all h.2 p hp
theorem allLt_all {d : Addr} : ∀ {l : List (Addr × Obj)}, AllLt d l → ∀ p ∈ l, p.1 ≠ d
  | [], _, _, h => nomatch h
  | q :: r, h, p, hp => by
    rcases List.mem_cons.mp hp with rfl | hp
    · exact Nat.ne_of_lt h.1
    · exact allLt_all h.2 p hp
def REnd (h₀ : Heap) (L : Addr) (xr xf : Str) (P : List Int → List Int → Prop) (stored : List Str) (m₀ : Str → Option Value) (ext own : List (Addr × Obj)) (s : Shared) (s₂ : Shared) : Prop :=
  ∃ h' tk m' news R us rs cr D ws fs cf, s₂ = { s with heap := h', toks := tk } ∧ Fr h₀ L h' m' ∧ News h₀ L h' news ∧ (R, listOf (List.toArray us) cr) ∈ news ∧ (D, listOf (List.toArray ws) cf) ∈ news ∧ (∀ p ∈ ext, p ∈ news) ∧ (∀ p ∈ own, p ∈ news) ∧ (∀ p ∈ own, p.1 ≠ R) ∧ (∀ p ∈ own, p.1 ≠ D) ∧ @Ne Nat R D ∧ IntsAre us rs ∧ IntsAre ws fs ∧ m' xr = some (.ref R) ∧ m' xf = some (.ref D) ∧ P rs fs ∧ ∀ z, stored.contains z = false → m' z = m₀ z
def RPost (h₀ : Heap) (L : Addr) (xr xf : Str) (P : List Int → List Int → Prop) (stored : List Str) (m₀ : Str → Option Value) (ext own : List (Addr × Obj)) (s : Shared) (Q : Flow → Shared → Prop) (f : Flow) (s₂ : Shared) : Prop :=
  match f with
  | .ret v => Q (.ret v) s₂
  | .brk => Q .next s₂
  | _ => REnd h₀ L xr xf P stored m₀ ext own s s₂
theorem RPost.end {h₀ h' : Heap} {L R D : Addr} {xr xf : Str} {P : List Int → List Int → Prop} {stored : List Str} {m₀ m' : Str → Option Value} {ext own news : List (Addr × Obj)} {s : Shared} {cr cf tk : Nat} {Q : Flow → Shared → Prop} {us ws : List Value} {rs fs : List Int}
    (F : Fr h₀ L h' m') (N : News h₀ L h' news) (hr : (R, listOf (List.toArray us) cr) ∈ news) (hf : (D, listOf (List.toArray ws) cf) ∈ news) (hx : ∀ p ∈ ext, p ∈ news) (ho : ∀ p ∈ own, p ∈ news) (h1 : ∀ p ∈ own, p.1 ≠ R) (h2 : ∀ p ∈ own, p.1 ≠ D) (hne : @Ne Nat R D) (hi : IntsAre us rs) (hj : IntsAre ws fs) (hmr : m' xr = some (.ref R)) (hmf : m' xf = some (.ref D)) (hp : P rs fs) (hm : ∀ z, stored.contains z = false → m' z = m₀ z) :
    RPost h₀ L xr xf P stored m₀ ext own s Q .next { s with heap := h', toks := tk } := ⟨h', tk, m', news, R, us, rs, cr, D, ws, fs, cf, rfl, F, N, hr, hf, hx, ho, h1, h2, hne, hi, hj, hmr, hmf, hp, hm⟩
theorem map_rf {m₁ m₀ : Str → Option Value} {xr xf : Str} {stored : List Str} {R D : Addr} (hr : m₁ xr = some (.ref R)) (hf : m₁ xf = some (.ref D)) (hm : ∀ z, stored.contains z = false → m₁ z = m₀ z) :
    (fun y => if y = xr then some (Value.ref R) else if y = xf then some (Value.ref D) else if stored.contains y then m₁ y else m₀ y) = m₁ := by
  funext y
  by_cases h1 : y = xr
  · simp [h1, hr]
  · by_cases h2 : y = xf
    · simp only [if_neg h1, if_pos h2]; rw [h2, hf]
    · simp only [if_neg h1, if_neg h2]
      cases h3 : stored.contains y with
      | true => simp
      | false => simp only [Bool.false_eq_true, if_false]; exact (hm y h3).symm
section
variable {prog : Program} {w : World} {A : Around} {E : Value → Shared → Prop} {s : Shared} {env : Env} {h₀ : Heap} {Q : Flow → Shared → Prop} {x : Str} {body : List Stmt}
theorem iter_range_rf {L r : Addr} {b₀ : Int} {t₀ u₀ v₀ : Tok} {n : Nat} {m₀ : Str → Option Value} {R₀ D₀ : Addr} {us₀ ws₀ : List Value} {rs₀ fs₀ : List Int} {cr₀ cf₀ : Nat} {news : List (Addr × Obj)} (ext : List (Addr × Obj)) (xr xf : Str) (stored : List Str) (P : Nat → List Int → List Int → Prop)
    (hL : env.locals = L) (hh : A.handled = none) (hrg : IsRange s.heap r 0 b₀ 1 t₀ u₀ v₀) (hsmall : Builtin.Range.small 0 b₀ 1 = true) (hn : Builtin.Range.rangeSize 0 b₀ 1 = (n : Int))
    (F : Fr h₀ L s.heap m₀) (N : News h₀ L s.heap news) (hext : News h₀ L s.heap ext) (hr : (R₀, listOf us₀.toArray cr₀) ∈ news) (hf : (D₀, listOf ws₀.toArray cf₀) ∈ news) (hne : @Ne Nat R₀ D₀) (hi : IntsAre us₀ rs₀) (hj : IntsAre ws₀ fs₀) (hmr : m₀ xr = some (.ref R₀)) (hmf : m₀ xf = some (.ref D₀)) (hp : P 0 rs₀ fs₀)
    (turn : ∀ (i : Nat) t R D us rs cr ws fs cf (u : Str → Option Value) h tk own, i < n → P i rs fs → IntsAre us rs → IntsAre ws fs → @Ne Nat R D → (∀ p ∈ own, p.1 ≠ R) → (∀ p ∈ own, p.1 ≠ D) →
      Fr h₀ L h (fun y => if y = x then some (.int (i : Int) t) else if y = xr then some (.ref R) else if y = xf then some (.ref D) else if stored.contains y then u y else m₀ y) → News h₀ L h ((R, listOf us.toArray cr) :: (D, listOf ws.toArray cf) :: (ext ++ own)) →
      wpAny (model prog w) A (execs body env) (RPost h₀ L xr xf (P (i + 1)) stored m₀ ext own { s with heap := h, toks := tk } Q) E { s with heap := h, toks := tk })
    (done : ∀ R D us rs cr ws fs cf (u : Str → Option Value) h tk, P n rs fs → IntsAre us rs → IntsAre ws fs → @Ne Nat R D →
      Fr h₀ L h (fun y => if y = xr then some (.ref R) else if y = xf then some (.ref D) else if stored.contains y then u y else m₀ y) → News h₀ L h ((R, listOf us.toArray cr) :: (D, listOf ws.toArray cf) :: ext) → Q .next { s with heap := h, toks := tk }) :
    wpAny (model prog w) A (pyIter (.ref r)) (fun it s₂ => LoopAtV prog w A h₀ env x body Q E it s₂) E s := by
  subst hL
  refine tbr_invG (news := (R₀, listOf us₀.toArray cr₀) :: (D₀, listOf ws₀.toArray cf₀) :: ext) (fun i m nx => ∃ R D us rs cr ws fs cf, nx = (R, listOf (List.toArray us) cr) :: (D, listOf (List.toArray ws) cf) :: ext ∧ @Ne Nat R D ∧ IntsAre us rs ∧ IntsAre ws fs ∧ m xr = some (.ref R) ∧ m xf = some (.ref D) ∧ P i rs fs ∧ ∀ z, stored.contains z = false → m z = m₀ z) hh hrg hsmall hn F ?_ ⟨R₀, D₀, us₀, rs₀, cr₀, ws₀, fs₀, cf₀, rfl, hne, hi, hj, hmr, hmf, hp, fun _ _ => rfl⟩ ?_ ?_
  · intro p hp
    rcases List.mem_cons.mp hp with rfl | hp
    · exact N _ hr
    · rcases List.mem_cons.mp hp with rfl | hp
      · exact N _ hf
      · exact hext _ hp
  · rintro i k t m₁ nx h tk own hk hoff ⟨R, D, us, rs, cr, ws, fs, cf, rfl, hne', hi', hj', hr', hf', hp', hm'⟩ F₁ N₁
    have hik : i < n ∧ k = (i : Int) := by
      obtain ⟨h1, h2⟩ := List.getElem?_eq_some_iff.mp hk
      rw [rangeKs_length] at h1
      refine ⟨h1, ?_⟩
      rw [← h2]
      simp [rangeKs]
    obtain ⟨hin, rfl⟩ := hik
    have em : (fun y => if y = x then some (Value.int (i : Int) t) else if y = xr then some (Value.ref R) else if y = xf then some (Value.ref D) else if stored.contains y then m₁ y else m₀ y) = fun y => if y = x then some (Value.int (i : Int) t) else m₁ y := by
      have e := map_rf hr' hf' hm'
      funext y
      have e9 := congrFun e y
      by_cases h1 : y = x
      · simp only [if_pos h1]
      · simp only [if_neg h1]; exact e9
    refine wpAny_mono (turn i t R D us rs cr ws fs cf m₁ h tk own hin hp' hi' hj' hne' (fun p hp => hoff p hp _ (List.Mem.head _)) (fun p hp => hoff p hp _ (List.Mem.tail _ (List.Mem.head _))) (em.symm ▸ F₁) N₁) (fun f s₂ p => ?_) fun _ _ e => e
    have fin : REnd h₀ env.locals xr xf (P (i + 1)) stored m₀ ext own { s with heap := h, toks := tk } s₂ → TbEnd h₀ env.locals (fun m nx => ∃ R D us rs cr ws fs cf, nx = (R, listOf (List.toArray us) cr) :: (D, listOf (List.toArray ws) cf) :: ext ∧ @Ne Nat R D ∧ IntsAre us rs ∧ IntsAre ws fs ∧ m xr = some (.ref R) ∧ m xf = some (.ref D) ∧ P (i + 1) rs fs ∧ ∀ z, stored.contains z = false → m z = m₀ z) own { s with heap := h, toks := tk } s₂ := by
      rintro ⟨h', tk', m', news', R', us', rs', cr', D', ws', fs', cf', e', F', N', a1, a2, a0, a3, a4, a5, a6, a7, a8, a9, b1, b2, b3⟩
      refine ⟨h', tk', m', news', _, e', F', N', ?_, a3, ?_, R', D', us', rs', cr', ws', fs', cf', rfl, a6, a7, a8, a9, b1, b2, b3⟩
      · intro p hp
        rcases List.mem_cons.mp hp with rfl | hp
        · exact a1
        · rcases List.mem_cons.mp hp with rfl | hp
          · exact a2
          · exact a0 p hp
      · intro p hp q hq
        rcases List.mem_cons.mp hq with rfl | hq
        · exact a4 p hp
        · rcases List.mem_cons.mp hq with rfl | hq
          · exact a5 p hp
          · exact hoff p hp q (List.Mem.tail _ (List.Mem.tail _ hq))
    cases f with
    | ret v => exact p
    | brk => exact p
    | next => exact fin p
    | cont => exact fin p
  · rintro m₁ nx h tk ⟨R, D, us, rs, cr, ws, fs, cf, rfl, hne', hi', hj', hr', hf', hp', hm'⟩ F₁ N₁
    exact done R D us rs cr ws fs cf m₁ h tk hp' hi' hj' hne' ((map_rf hr' hf' hm').symm ▸ F₁) N₁
end
end

section
theorem draw_ok (w : World) (p : Program) (loose : List Str) (mean : ExcName → Option Value) (mg mb : Str → Option Value) (P C : Addr) (cs : List Value) (ns : List Int) (spot many : Int) (ts t : Tok) (np nc : Nat) (rest : List (Addr × Obj)) (hi : IntsAre cs ns) (hlen : ns.length ≤ 1000) (hs0 : 0 ≤ spot) (hs1 : spot ≤ 100) (hm0 : 0 < many) (hm1 : many ≤ 100) (hPC : @Ne Nat P C) (hoff : OwnOff rest [P]) :
    ∀ (dp un : Nat) (gd : Option (List Code)) (cn : Str) (cs' : Scope) (a : Addr) (ccd : Value) (cl : List (Str × Addr)) (outer : List Env) (A₀ : Around) (base h₀ : Heap) (L : Addr) (m : Str → Option Value) (s : Shared) (Q E : Value → Shared → Prop),
    Below A₀ base outer h₀ → Fr h₀ L s.heap m → ((by walk_at "mine K" : Params → Frag) w.params).In h₀ → Top p loose mean mg mb h₀ → cs'.kind = .function → dp + 1 < recursionLimit → un + 8 * 1 < cLine →
    News h₀ L s.heap ((P, listOf [Value.ref C, Value.int spot ts].toArray np) :: (C, listOf cs.toArray nc) :: rest) →
    (∀ v t' t'' h' tk', 0 ≤ v → v < many → Fr h₀ L h' m → News h₀ L h' ((P, listOf [Value.ref C, Value.int (spot + 1) t''].toArray np) :: (C, listOf cs.toArray nc) :: rest) → Q (.int v t') { s with heap := h', toks := tk' }) →
    wpAny (model PySem.Challenge.rw_sa0077_01.row.prog w) (ktrTop dp un gd cn cs' L a ccd cl outer) (call (.ref 112) [.ref P, .int many t]) Q E s := by
  k_fill
  intro dp un gd cn cs' a ccd cl outer A₀ base h₀ L m s Q E B F X T hk hd hu N hret
  refine wpAny_call ?_
  k_dflt cell_enter
  k_steps
  all_goals (rename Fr h₀ L _ _ => F9)
  all_goals (rename News h₀ L _ _ => N9)
  all_goals exact hret _ _ _ _ _ (Int.fmod_nonneg_of_pos _ hm0) (Int.fmod_lt_of_pos _ hm0) F9 N9
theorem draw_use {w : World} {p : Program} {loose : List Str} {mean : ExcName → Option Value} {mg mb : Str → Option Value} {P C : Addr} {cs : List Value} {ns : List Int} {spot many : Int} {ts t : Tok} {np nc : Nat} {news : List (Addr × Obj)} {g : Obj → List (Addr × Obj)}
    {dp un : Nat} {gd : Option (List Code)} {cn : Str} {cs' : Scope} {a : Addr} {ccd : Value} {cl : List (Str × Addr)} {outer : List Env} {A₀ : Around} {base h₀ : Heap} {L : Addr} {m : Str → Option Value} {s : Shared} {Q E : Value → Shared → Prop}
    (B : Below A₀ base outer h₀) (F : Fr h₀ L s.heap m) (X : ((by walk_at "mine K" : Params → Frag) w.params).In h₀) (T : Top p loose mean mg mb h₀) (N : News h₀ L s.heap news) (hk : cs'.kind = .function) (hd : dp + 1 < recursionLimit) (hu : un + 8 * 1 < cLine)
    (U : UpdF P (listOf [Value.ref C, Value.int spot ts].toArray np) news g) (hC : (C, listOf cs.toArray nc) ∈ news) (hPC : @Ne Nat P C)
    (hi : IntsAre cs ns) (hlen : ns.length ≤ 1000) (hs0 : 0 ≤ spot) (hs1 : spot ≤ 100) (hm0 : 0 < many) (hm1 : many ≤ 100)
    (ret : ∀ v t' t'' h' tk', 0 ≤ v → v < many → Fr h₀ L h' m → News h₀ L h' (g (listOf [Value.ref C, Value.int (spot + 1) t''].toArray np)) → Q (.int v t') { s with heap := h', toks := tk' }) :
    wpAny (model PySem.Challenge.rw_sa0077_01.row.prog w) (ktrTop dp un gd cn cs' L a ccd cl outer) (call (.ref 112) [.ref P, .int many t]) Q E s := by
  obtain ⟨own, rest, rfl, hg, h1, h2⟩ := U.split
  refine draw_ok w p loose mean mg mb P C cs ns spot many ts t np nc (own ++ rest) hi hlen hs0 hs1 hm0 hm1 hPC ?_ dp un gd cn cs' a ccd cl outer A₀ base h₀ L m s Q E B F X T hk hd hu ?_ ?_
  · intro q hq b hb
    rw [List.mem_singleton.mp hb]
    rcases List.mem_append.mp hq with hq | hq
    · exact h1 q hq
    · exact h2 q hq
  · intro q hq
    rcases List.mem_cons.mp hq with rfl | hq
    · exact N _ (List.mem_append_right _ (List.Mem.head _))
    · rcases List.mem_cons.mp hq with rfl | hq
      · exact N _ hC
      · rcases List.mem_append.mp hq with hq | hq
        · exact N _ (List.mem_append_left _ hq)
        · exact N _ (List.mem_append_right _ (List.Mem.tail _ hq))
  · intro v t' t'' h' tk' h0 h3 F' N'
    refine ret v t' t'' h' tk' h0 h3 F' (hg _ ▸ fun q hq => ?_)
    rcases List.mem_append.mp hq with hq | hq
    · exact N' _ (List.Mem.tail _ (List.Mem.tail _ (List.mem_append_left _ hq)))
    · rcases List.mem_cons.mp hq with rfl | hq
      · exact N' _ (List.Mem.head _)
      · exact N' _ (List.Mem.tail _ (List.Mem.tail _ (List.mem_append_right _ hq)))
end

section
def boxF : Nat → Int → Int → Int
  | 0, _, t => if t = 0 then 1 else 0
  | q + 1, most, t => (List.map (fun one => boxF q one (t - one)) (rangeKs 0 ((if t < most then t else most) + 1 - 0).toNat)).sum
def BoxOk (w : World) (p : Program) (loose : List Str) (mean : ExcName → Option Value) (mg mb : Str → Option Value) (q : Nat) : Prop := ∀ (most total : Int) (t0 t1 t2 : Tok), 0 ≤ most → most ≤ 10 → 0 ≤ total → total ≤ 10 →
    Pure PySem.Challenge.rw_sa0077_01.row.prog w ((by walk_at "mine K" : Params → Frag) w.params) p loose mean mg mb 124 (2 * q + 1) [.int q t0, .int most t1, .int total t2] (fun _ => True) (fun _ _ r => ∃ t', r = .int (boxF q most total) t')
theorem box_zero (w : World) (p : Program) (loose : List Str) (mean : ExcName → Option Value) (mg mb : Str → Option Value) : BoxOk w p loose mean mg mb 0 := by
  unfold BoxOk
  k_fill
  unfold Pure
  intro most total t0 t1 t2 hm0 hm1 ht0 ht1 dp un gd cn cs a' ccd cl outer A₀ base h₀ L m s Q E B0 F0 X0 T0 hk hd hu hpre hret
  refine wpAny_call ?_
  k_dflt (walk_at "mine enterC")
  intro h₁ tk cells F N hC B X T
  k_cells hC
  (try dsimp only)
  (try k_fold)
  clear B0 F0 X0 T0
  k_steps
  · rename Fr _ _ _ _ => F9
    exact hret _ _ _ F9.keep ⟨_, by rw [boxF, if_pos (by assumption)]⟩
  · rename Fr _ _ _ _ => F9
    exact hret _ _ _ F9.keep ⟨_, by rw [boxF, if_neg (by assumption)]⟩
theorem box_use {w : World} {p : Program} {loose : List Str} {mean : ExcName → Option Value} {mg mb : Str → Option Value} {q : Nat} (ih : BoxOk w p loose mean mg mb q)
    {f : Addr} {cq most total : Int} {t0 t1 t2 : Tok} {dp un : Nat} {gd : Option (List Code)} {cn : Str} {cs : Scope} {a : Addr} {ccd : Value} {cl : List (Str × Addr)} {outer : List Env} {A₀ : Around} {base h₀ : Heap} {L : Addr} {m : Str → Option Value} {s : Shared} {Q E : Value → Shared → Prop} {news : List (Addr × Obj)}
    (B : Below A₀ base outer h₀) (F : Fr h₀ L s.heap m) (X : ((by walk_at "mine K" : Params → Frag) w.params).In h₀) (T : Top p loose mean mg mb h₀) (N : News h₀ L s.heap news) (hk : cs.kind = .function) (hd : dp + (2 * q + 1) < recursionLimit) (hu : un + 8 * (2 * q + 1) < cLine)
    (hf : f = 124) (hq : cq = (q : Int)) (h0 : 0 ≤ most) (h1 : most ≤ 10) (h2 : 0 ≤ total) (h3 : total ≤ 10)
    (ret : ∀ t' h' tk', Fr h₀ L h' m → News h₀ L h' news → Q (.int (boxF q most total) t') { s with heap := h', toks := tk' }) :
    wpAny (model PySem.Challenge.rw_sa0077_01.row.prog w) (ktrTop dp un gd cn cs L a ccd cl outer) (call (.ref f) [.int cq t0, .int most t1, .int total t2]) Q E s := by
  subst hf hq
  refine useP (ih most total t0 t1 t2 h0 h1 h2 h3) B F X T N hk hd hu trivial fun r h' tk' F' N' _ hr => ?_
  obtain ⟨t', rfl⟩ := hr
  exact ret t' h' tk' F' N'
local macro_rules | `(tactic| walk_at "call ref") => `(tactic| (k_here; (with_reducible show wpAny _ _ (call (Value.ref 124) _) _ _ _); k_dflt (refine' box_use ?ih ?B ?F ?X ?T ?N ?hk ?hd ?hu ?hf ?hq ?h0 ?h1 ?h2 ?h3 ?_; (case ih => assumption); (case B => k_asm); (case F => k_asm); (case X => k_asm); (case T => k_asm); (case N => k_asm); (case hk => first | exact rfl | assumption); (case hd => walk_at "mine room"); (case hu => walk_at "mine units"); (case hf => exact rfl); (case hq => omega); (case h0 => omega); (case h1 => omega); (case h2 => omega); (case h3 => omega); k_whole); intro t' h' tk' F' N'))
local macro_rules | `(tactic| walk_at "mine room") => `(tactic| first | ktr_room | omega | ((try dsimp only); (try simp only [depth_under_make, depth_under_kw, depth_in1, depth_deeper, depth_caller, recursionLimit]); omega) | ((try dsimp only); (try simp only [depth_under_make, depth_under_kw, depth_in1, depth_deeper, depth_caller, recursionLimit] at *); omega) | fail "mine room")
local macro_rules | `(tactic| walk_at "mine units") => `(tactic| first | ktr_units | omega | ((try dsimp only); (try simp only [units_in1, units_deeper, Around.mark_units, units_caller]); omega) | fail "mine units")
theorem box_step (w : World) (p : Program) (loose : List Str) (mean : ExcName → Option Value) (mg mb : Str → Option Value) (q : Nat) (hq9 : q ≤ 10) (ih : BoxOk w p loose mean mg mb q) : BoxOk w p loose mean mg mb (q + 1) := by
  unfold BoxOk
  k_fill
  unfold Pure
  intro most total t0 t1 t2 hm0 hm1 ht0 ht1 dp un gd cn cs a' ccd cl outer A₀ base h₀ L m s Q E B0 F0 X0 T0 hk hd hu hpre hret
  refine wpAny_call ?_
  k_dflt (walk_at "mine enterC")
  intro h₁ tk cells F N hC B X T
  k_cells hC
  (try dsimp only)
  (try k_fold)
  clear B0 F0 X0 T0
  k_steps
  · exfalso; omega
  · rename Fr s.heap _ _ _ => F9
    exact hret _ _ _ F9.keep ⟨_, by rw [boxF]⟩
theorem box_ok (w : World) (p : Program) (loose : List Str) (mean : ExcName → Option Value) (mg mb : Str → Option Value) : ∀ q : Nat, q ≤ 10 → BoxOk w p loose mean mg mb q
  | 0, _ => box_zero w p loose mean mg mb
  | q + 1, h => box_step w p loose mean mg mb q (Nat.le_of_succ_le h) (box_ok w p loose mean mg mb q (Nat.le_of_succ_le h))
end

section
local macro_rules | `(tactic| walk_at "mine fit") => `(tactic| first | assumption | omega | (simp only [List.length_map, List.length_append, List.length_replicate, List.length_range, List.length_reverse, List.length_cons, List.length_nil, rangeKs_length]; omega) | fail "mine fit")
local macro_rules | `(tactic| walk_at "call ref") => `(tactic| (k_here; (with_reducible show wpAny _ _ (call (Value.ref 77) [Value.ref _, Value.ref _]) _ _ _); k_dflt (refine' useL (zmul_ok _ _ _ _ _ _ _ _ _ _ _ _ ?hi ?hj ?hl ?hm ?hs) ?B ?F ?X ?T ?N ?hk ?hd ?hu ?hp ?_; (case B => k_asm); (case F => k_asm); (case X => k_asm); (case T => k_asm); (case N => k_asm); (case hk => first | exact rfl | assumption); (case hd => ktr_room); (case hu => ktr_units); (case hp => (try dsimp only); refine And.intro ?_ ?_ <;> walk_at "mine list"); (case hi => l_ints); (case hj => l_ints); (case hl => walk_at "mine fit"); (case hm => walk_at "mine fit"); (case hs => walk_at "mine small"); k_whole); intro l' ws' n' h' tk' F' N' hA' hI'))
local macro_rules | `(tactic| walk_at "call ref") => `(tactic| (k_here; (with_reducible show wpAny _ _ (call (Value.ref 105) [Value.ref _, Value.ref _]) _ _ _); k_dflt (refine' useL (zexact_ok _ _ _ _ _ _ _ _ _ _ _ _ _ _ ?hi ?hj ?hl ?hm ?hne ?hz) ?B ?F ?X ?T ?N ?hk ?hd ?hu ?hp ?_; (case B => k_asm); (case F => k_asm); (case X => k_asm); (case T => k_asm); (case N => k_asm); (case hk => first | exact rfl | assumption); (case hd => ktr_room); (case hu => ktr_units); (case hp => (try dsimp only); refine And.intro ?_ ?_ <;> walk_at "mine list"); (case hi => l_ints); (case hj => l_ints); (case hl => walk_at "mine fit"); (case hm => walk_at "mine fit"); (case hne => walk_at "mine fit"); (case hz => assumption); k_whole); intro l' ws' n' h' tk' F' N' hA' hI'))
local macro_rules | `(tactic| walk_at "pyIter ref") => `(tactic| refine Stop.of ?_)
local macro_rules | `(tactic| walk_at "mine small") => `(tactic| assumption)
theorem range_facts : ∀ k : Nat, k ≤ 20 → Builtin.Range.small 0 (k : Int) 1 = true ∧ Builtin.Range.rangeSize 0 (k : Int) 1 = (k : Int) := by decide +kernel
def facT (n i : Nat) : List Int := [-1] ++ List.replicate (n - i - 1) 0 ++ [1]
def topF (n : Nat) : Nat → List Int
  | 0 => [1]
  | i + 1 => mulF (topF n i) (facT n i)
def botF : Nat → List Int
  | 0 => [1]
  | i + 1 => mulF (botF i) ([-1] ++ List.replicate i 0 ++ [1])
def okL (l : List Int) : Bool := decide (l.length ≤ 100) && decide (0 < l.length) && l.all fun x => decide (-1000000000000000 ≤ x) && decide (x ≤ 1000000000000000)
theorem okL_out {l : List Int} (h : okL l = true) : l.length ≤ 100 ∧ 0 < l.length ∧ SmallL l := by
  simp only [okL, Bool.and_eq_true, decide_eq_true_eq, List.all_eq_true] at h
  exact ⟨h.1.1, h.1.2, h.2⟩
theorem top_ok : ∀ n : Nat, n ≤ 6 → ∀ i : Nat, i ≤ n → okL (topF n i) = true := by decide +kernel
theorem bot_ok : ∀ i : Nat, i ≤ 6 → okL (botF i) = true := by decide +kernel
def gaussZ (n k : Nat) : Option (List Int) := zex (botF k) 40 (topF n k) (List.replicate ((topF n k).length + 1 - (botF k).length) 0)
def gaussF (n k : Nat) : List Int := (gaussZ n k).getD []
theorem gauss_some : ∀ n : Nat, n ≤ 6 → ∀ k : Nat, k ≤ n → (gaussZ n k).isSome = true := by decide +kernel
theorem gauss_is (n k : Nat) (hn : n ≤ 6) (hk : k ≤ n) : zex (botF k) 40 (topF n k) (List.replicate ((topF n k).length + 1 - (botF k).length) 0) = some (gaussF n k) := by
  have h := gauss_some n hn k hk
  unfold gaussF
  show gaussZ n k = _
  cases e : gaussZ n k with
  | none => rw [e] at h; cases h
  | some r => rfl
theorem zgauss_ok (w : World) (p : Program) (loose : List Str) (mean : ExcName → Option Value) (mg mb : Str → Option Value) (n k : Nat) (t0 t1 : Tok) (hn : n ≤ 6) (hkn : k ≤ n) :
    Pure PySem.Challenge.rw_sa0077_01.row.prog w ((by walk_at "mine K" : Params → Frag) w.params) p loose mean mg mb 119 7 [.int n t0, .int k t1] (fun _ => True) (fun g h r' => NewL g h r' (gaussF n k)) := by
  k_fill
  unfold Pure
  intro dp un gd cn cs a' ccd cl outer A₀ base h₀ L m s Q E B0 F0 X0 T0 hk hd hu hpre hret
  refine wpAny_call ?_
  k_dflt (walk_at "mine enter")
  intro h₁ tk F N B X T
  replace F : Fr s.heap s.heap.objs.size h₁ (fun y => List.lookup y [(Str.ofString "k", Value.int k t1), (Str.ofString "n", Value.int n t0)]) := F
  (try dsimp only)
  (try k_fold)
  clear B0 F0 X0 T0
  k_steps
  unfold Stop
  rename Fr _ _ _ _ => F9
  rename News _ _ _ _ => N9
  rename IsRange _ _ _ _ _ _ _ _ => R9
  obtain ⟨rf1, rf2⟩ := range_facts k (by omega)
  k_dflt (refine' iter_range_rf [] (Str.ofString "top") (Str.ofString "bottom") [Str.ofString "at", Str.ofString "top", Str.ofString "bottom"] (fun i rs fs => rs = topF n i ∧ fs = botF i) ?hL ?hh R9 rf1 rf2 F9 N9 News.nil ?hr ?hf ?hne ?hi ?hj ?hmr ?hmf ?hp ?_ ?_; (case hL => exact rfl); (case hh => exact rfl); (case hmr => exact rfl); (case hmf => exact rfl); (case hr => k_mem); (case hf => k_mem); (case hne => k_ne); (case hi => exact IntsAre.cons _ _ IntsAre.nil); (case hj => exact IntsAre.cons _ _ IntsAre.nil); (case hp => exact And.intro rfl rfl))
  · intro i t R D us rs cr ws fs cf u h tk own hik hP hi hj hRD ho1 ho2 F N
    rw [List.nil_append] at N
    obtain ⟨rfl, rfl⟩ := hP
    obtain ⟨q1, q2, q3⟩ := okL_out (top_ok n hn i (by omega))
    obtain ⟨q4, q5, q6⟩ := okL_out (bot_ok i (by omega))
    clear F9 N9 R9 rf1 rf2
    (try dsimp only)
    (try k_fold)
    k_steps
    rename Fr _ _ _ _ => F9
    rename News _ _ _ _ => N9
    have e1 : ((n : Int) - (i : Int) - 1).toNat = n - i - 1 := by omega
    k_dflt (refine' RPost.end F9 N9 ?hr ?hf ?hx ?ho ?h1 ?h2 ?hne ?hi ?hj ?hmr ?hmf ?hp ?hm; (case hmr => exact rfl); (case hmf => exact rfl); (case hr => k_mem); (case hf => k_mem);  (case hi => assumption); (case hj => assumption))
    case hne => exact NeAll.ne' (by assumption) (by k_mem)
    case h1 => exact (NeAll.sub (by assumption) (fun p hp => by (repeat (first | exact hp | refine List.Mem.tail _ ?_))))
    case h2 => exact (NeAll.sub (by assumption) (fun p hp => by (repeat (first | exact hp | refine List.Mem.tail _ ?_))))
    case hx => exact List.forall_mem_nil _
    case ho => exact fun p hp => by (repeat (first | exact hp | refine List.Mem.tail _ ?_))
    case hp =>
      refine ⟨?_, ?_⟩
      · rw [topF, facT, flat_one, e1]
      · rw [botF, flat_one, Int.toNat_natCast]
    case hm =>
      intro z hz
      simp only [List.contains_cons, List.contains_nil, Bool.or_false, Bool.or_eq_false_iff, beq_eq_false_iff_ne, ne_eq] at hz
      simp [hz]
  · intro R D us rs cr ws fs cf u h tk hP hi hj hRD F N
    obtain ⟨rfl, rfl⟩ := hP
    obtain ⟨q1, q2, q3⟩ := okL_out (top_ok n hn k (by omega))
    obtain ⟨q4, q5, q6⟩ := okL_out (bot_ok k (by omega))
    have hz := gauss_is n k hn hkn
    clear F9 N9 R9 rf1 rf2
    (try dsimp only)
    (try k_fold)
    k_steps
    rename Fr _ _ _ _ => F9
    rename News _ _ _ _ => N9
    exact endL (s := s) hret F9 N9 (List.Mem.head _) (by assumption) rfl
end

section
def gTab : List (List (List Int)) :=
  [[[1]],
  [[1], [1]],
  [[1], [1, 1], [1]],
  [[1], [1, 1, 1], [1, 1, 1], [1]],
  [[1], [1, 1, 1, 1], [1, 1, 2, 1, 1], [1, 1, 1, 1], [1]],
  [[1], [1, 1, 1, 1, 1], [1, 1, 2, 2, 2, 1, 1], [1, 1, 2, 2, 2, 1, 1], [1, 1, 1, 1, 1], [1]],
  [[1], [1, 1, 1, 1, 1, 1], [1, 1, 2, 2, 3, 2, 2, 1, 1], [1, 1, 2, 3, 3, 3, 3, 2, 1, 1], [1, 1, 2, 2, 3, 2, 2, 1, 1], [1, 1, 1, 1, 1, 1], [1]]]
def gT (n k : Nat) : List Int := (gTab.getD n []).getD k []
theorem gT_is : ∀ n : Nat, n ≤ 6 → ∀ k : Nat, k ≤ n → gaussF n k = gT n k := by decide +kernel
theorem gT_ok : ∀ n : Nat, n ≤ 6 → ∀ k : Nat, k ≤ n → okL (gT n k) = true := by decide +kernel
def boxList (n k : Nat) : List Int := List.map (fun k' => boxF k ((n : Int) - (k : Int)) k') (rangeKs 0 (k * (n - k) + 1))
def manyF (n k : Nat) : Int := (rangeKs 0 k).foldl (fun a j => Int.fdiv (a * ((n : Int) - j)) (j + 1)) 1
theorem plain1 : ∀ n : Nat, n ≤ 6 → ∀ k : Nat, k ≤ n → gT n k = boxList n k ∧ trimF (gT n k).reverse = gT n k ∧ atF (gT n k) = manyF n k := by decide +kernel
theorem plain2 : ∀ n : Nat, n ≤ 6 → ∀ k : Nat, k < n → 0 < k → addF (gT (n - 1) (k - 1)) (raiseF (gT (n - 1) k) k) = gT n k := by decide +kernel
def stepF (n k m : Nat) (tot : List Int) (j : Nat) : List Int :=
  if j ≤ n - m ∧ k - j ≤ m then addF tot (raiseF (mulF (gT m (k - j)) (gT (n - m) j)) ((j : Int) * ((m : Int) - (k : Int) + (j : Int)))) else tot
def totF (n k m : Nat) : Nat → List Int
  | 0 => []
  | j + 1 => stepF n k m (totF n k m j) j
theorem plain3 : ∀ n : Nat, n ≤ 6 → ∀ k : Nat, k ≤ n → ∀ m : Nat, m ≤ n → totF n k m (k + 1) = gT n k ∧ ∀ j : Nat, j ≤ k → (totF n k m j).length ≤ 100 := by decide +kernel
theorem tot_le {k x : Int} (h : k < 0 + (((x + 1 - 0).toNat : Nat) : Int)) (h2 : x ≤ 9) : k ≤ 10 := by omega
theorem prod_ok : ∀ n : Nat, n ≤ 6 → ∀ k : Nat, k ≤ n → k * (n - k) ≤ 9 := by decide +kernel
theorem prod_eq {a b : Int} (h0 : 0 ≤ b) (h1 : b ≤ a) : b * (a - b) = ((b.toNat * (a.toNat - b.toNat) : Nat) : Int) := by
  have e1 : (b.toNat : Int) = b := Int.toNat_of_nonneg h0
  have e2 : ((a.toNat - b.toNat : Nat) : Int) = a - b := by omega
  rw [Int.natCast_mul, e1, e2]
theorem prod_int {a b : Int} (h0 : 0 ≤ b) (h1 : b ≤ a) (h2 : a ≤ 6) : 0 ≤ b * (a - b) ∧ b * (a - b) ≤ 9 := by
  have h := prod_ok a.toNat (by omega) b.toNat (by omega)
  rw [prod_eq h0 h1]
  omega
theorem prod_j {j x : Int} (h0 : 0 ≤ j) (h1 : j ≤ 10) (h2 : 0 ≤ x) (h3 : x ≤ 20) : 0 ≤ j * x ∧ j * x ≤ 200 := by
  refine ⟨Int.mul_nonneg h0 h2, ?_⟩
  have := Int.mul_le_mul h1 h3 h2 (by decide : (0 : Int) ≤ 10)
  omega
theorem plain1_int {a b : Int} (h0 : 0 ≤ b) (h1 : b ≤ a) (h2 : a ≤ 6) : gT a.toNat b.toNat = List.map (fun k' => boxF b.toNat (a - b) k') (rangeKs 0 (b * (a - b) + 1 - 0).toNat) ∧ trimF (gT a.toNat b.toNat).reverse = gT a.toNat b.toNat ∧
    atF (gT a.toNat b.toNat) = (rangeKs 0 b.toNat).foldl (fun x j => Int.fdiv (x * (a - j)) (j + 1)) 1 := by
  obtain ⟨q1, q2, q3⟩ := plain1 a.toNat (by omega) b.toNat (by omega)
  have e1 : (b.toNat : Int) = b := Int.toNat_of_nonneg h0
  have e2 : (a.toNat : Int) = a := Int.toNat_of_nonneg (Int.le_trans h0 h1)
  refine ⟨?_, q2, ?_⟩
  · rw [q1, boxList, e1, e2, prod_eq h0 h1]
    congr 2
  · rw [q3, manyF, e2]
theorem plain2_int {a b : Int} (h0 : 0 < b) (h1 : b < a) (h2 : a ≤ 6) : addF (gT (a - 1).toNat (b - 1).toNat) (raiseF (gT (a - 1).toNat b.toNat) b) = gT a.toNat b.toNat := by
  have q := plain2 a.toNat (by omega) b.toNat (by omega) (by omega)
  have e1 : (b.toNat : Int) = b := Int.toNat_of_nonneg (by omega)
  have e2 : (a - 1).toNat = a.toNat - 1 := by omega
  have e3 : (b - 1).toNat = b.toNat - 1 := by omega
  rw [e2, e3]
  rw [e1] at q
  exact q
def totI (a b c : Int) (j : Nat) : List Int := totF a.toNat b.toNat c.toNat j
theorem totI_len {a b c : Int} {j : Nat} (h0 : 0 ≤ b) (h1 : b ≤ a) (h2 : a ≤ 6) (h3 : 0 ≤ c) (h4 : c ≤ a) (h5 : (j : Int) ≤ b) : (totI a b c j).length ≤ 100 :=
  (plain3 a.toNat (by omega) b.toNat (by omega) c.toNat (by omega)).2 j (by omega)
theorem totI_end {a b c : Int} (h0 : 0 ≤ b) (h1 : b ≤ a) (h2 : a ≤ 6) (h3 : 0 ≤ c) (h4 : c ≤ a) : totI a b c (b.toNat + 1) = gT a.toNat b.toNat :=
  (plain3 a.toNat (by omega) b.toNat (by omega) c.toNat (by omega)).1
theorem totI_go {a b c : Int} {j : Nat} (h0 : 0 ≤ b) (h1 : b ≤ a) (h3 : 0 ≤ c) (h4 : c ≤ a) (h5 : (j : Int) ≤ b) (h6 : (j : Int) ≤ a - c) (h7 : b - (j : Int) ≤ c) :
    totI a b c (j + 1) = addF (totI a b c j) (raiseF (mulF (gT c.toNat (b - (j : Int)).toNat) (gT (a - c).toNat (j : Int).toNat)) ((j : Int) * (c - b + (j : Int)))) := by
  have e1 : (b.toNat : Int) = b := Int.toNat_of_nonneg h0
  have e2 : (c.toNat : Int) = c := Int.toNat_of_nonneg h3
  have e3 : (b - (j : Int)).toNat = b.toNat - j := by omega
  have e4 : (a - c).toNat = a.toNat - c.toNat := by omega
  unfold totI
  rw [totF, stepF, if_pos (by omega), e1, e2, e3, e4, Int.toNat_natCast]
theorem totI_skip {a b c : Int} {j : Nat} (h0 : 0 ≤ b) (h1 : b ≤ a) (_ : 0 ≤ c) (h4 : c ≤ a) (h5 : (j : Int) ≤ b) (h6 : ¬ ((j : Int) ≤ a - c ∧ b - (j : Int) ≤ c)) : totI a b c (j + 1) = totI a b c j := by
  unfold totI
  rw [totF, stepF, if_neg (by omega)]
theorem mulIn_len (l : Int) (i : Nat) : ∀ (o : Nat) (nb f : List Int), (mulIn l i o nb f).length = f.length
  | _, [], _ => rfl
  | o, r :: rs, f => by rw [mulIn, mulIn_len l i (o + 1) rs, List.length_set]
theorem mulOut_len (nb : List Int) : ∀ (i : Nat) (na f : List Int), (mulOut nb i na f).length = f.length
  | _, [], _ => rfl
  | i, l :: ls, f => by
    rw [mulOut, mulOut_len nb (i + 1) ls]
    split
    · rfl
    · exact mulIn_len l i 0 nb f
theorem mulF_len (na nb : List Int) : (mulF na nb).length ≤ na.length + nb.length := by
  unfold mulF
  split
  · exact Nat.zero_le _
  · split
    · exact Nat.zero_le _
    · rw [mulOut_len, List.length_replicate]
      omega
theorem gauss_use {w : World} {p : Program} {loose : List Str} {mean : ExcName → Option Value} {mg mb : Str → Option Value} {a b : Int} {t0 t1 : Tok} {dp un : Nat} {gd : Option (List Code)} {cn : Str} {cs : Scope} {z : Addr} {ccd : Value} {cl : List (Str × Addr)} {outer : List Env} {A₀ : Around} {base h₀ : Heap} {L : Addr} {m : Str → Option Value} {s : Shared} {Q E : Value → Shared → Prop} {news : List (Addr × Obj)}
    (B : Below A₀ base outer h₀) (F : Fr h₀ L s.heap m) (X : ((by walk_at "mine K" : Params → Frag) w.params).In h₀) (T : Top p loose mean mg mb h₀) (N : News h₀ L s.heap news) (hk : cs.kind = .function) (hd : dp + 7 < recursionLimit) (hu : un + 8 * 7 < cLine)
    (h0 : 0 ≤ b) (h1 : b ≤ a) (h2 : a ≤ 6)
    (ret : ∀ l vs n h' tk', Fr h₀ L h' m → News h₀ L h' ((l, listOf vs.toArray n) :: news) → NeAll l news → IntsAre vs (gT a.toNat b.toNat) → (gT a.toNat b.toNat).length ≤ 100 → SmallL (gT a.toNat b.toNat) → Q (.ref l) { s with heap := h', toks := tk' }) :
    wpAny (model PySem.Challenge.rw_sa0077_01.row.prog w) (ktrTop dp un gd cn cs L z ccd cl outer) (call (.ref 119) [.int a t0, .int b t1]) Q E s := by
  have ea : a = (a.toNat : Int) := (Int.toNat_of_nonneg (Int.le_trans h0 h1)).symm
  have eb : b = (b.toNat : Int) := (Int.toNat_of_nonneg h0).symm
  have C := zgauss_ok w p loose mean mg mb a.toNat b.toNat t0 t1 (by omega) (by omega)
  rw [← ea, ← eb, gT_is a.toNat (by omega) b.toNat (by omega)] at C
  obtain ⟨q1, q2, q3⟩ := okL_out (gT_ok a.toNat (by omega) b.toNat (by omega))
  exact useL C B F X T N hk hd hu trivial fun l vs n h' tk' F' N' l1 hi => ret l vs n h' tk' F' N' l1 hi q1 q3
theorem box_int {w : World} {p : Program} {loose : List Str} {mean : ExcName → Option Value} {mg mb : Str → Option Value} {f : Addr} {cq most total : Int} {t0 t1 t2 : Tok} {dp un : Nat} {gd : Option (List Code)} {cn : Str} {cs : Scope} {z : Addr} {ccd : Value} {cl : List (Str × Addr)} {outer : List Env} {A₀ : Around} {base h₀ : Heap} {L : Addr} {m : Str → Option Value} {s : Shared} {Q E : Value → Shared → Prop} {news : List (Addr × Obj)}
    (B : Below A₀ base outer h₀) (F : Fr h₀ L s.heap m) (X : ((by walk_at "mine K" : Params → Frag) w.params).In h₀) (T : Top p loose mean mg mb h₀) (N : News h₀ L s.heap news) (hk : cs.kind = .function) (hd : dp + 21 < recursionLimit) (hu : un + 8 * 21 < cLine)
    (hf : f = 124) (q0 : 0 ≤ cq) (q1 : cq ≤ 10) (h0 : 0 ≤ most) (h1 : most ≤ 10) (h2 : 0 ≤ total) (h3 : total ≤ 10)
    (ret : ∀ t' h' tk', Fr h₀ L h' m → News h₀ L h' news → Q (.int (boxF cq.toNat most total) t') { s with heap := h', toks := tk' }) :
    wpAny (model PySem.Challenge.rw_sa0077_01.row.prog w) (ktrTop dp un gd cn cs L z ccd cl outer) (call (.ref f) [.int cq t0, .int most t1, .int total t2]) Q E s :=
  box_use (box_ok w p loose mean mg mb cq.toNat (by omega)) B F X T N hk (by omega) (by omega) hf (Int.toNat_of_nonneg q0).symm h0 h1 h2 h3 ret
theorem take1 {P : Prop} {a b : Int} (_ : a < b) (k : ∀ n : Int, n = a → P) : P := k a rfl
theorem drop4 {h₀ h : Heap} {L : Addr} {a b c d : Addr × Obj} {l : List (Addr × Obj)} (N : News h₀ L h (a :: b :: c :: d :: l)) : News h₀ L h l := fun p hp => N p (.tail _ (.tail _ (.tail _ (.tail _ hp))))
theorem range_int {k : Int} (h0 : 0 ≤ k) (h1 : k ≤ 20) : Builtin.Range.small 0 k 1 = true ∧ Builtin.Range.rangeSize 0 k 1 = (k.toNat : Int) := by
  have h := range_facts k.toNat (by omega)
  rw [Int.toNat_of_nonneg h0] at h
  rw [Int.toNat_of_nonneg h0]
  exact h
structure ExtMark (l : List (Addr × Obj)) : Prop where
theorem extMark {h₀ h : Heap} {L : Addr} {l : List (Addr × Obj)} (_ : News h₀ L h l) : ExtMark l := ⟨⟩
theorem ext_in {h₀ h : Heap} {L : Addr} {l news : List (Addr × Obj)} (_ : ExtMark l) (N : News h₀ L h news) (hs : ∀ p ∈ l, p ∈ news) : News h₀ L h l := fun p hp => N p (hs p hp)
theorem fit_rm {a b : List Int} {j x : Int} (h0 : 0 ≤ j) (h1 : j ≤ 10) (h2 : 0 ≤ x) (h3 : x ≤ 20) (ha : a.length ≤ 100) (hb : b.length ≤ 100) : (raiseF (mulF a b) (j * x)).length ≤ 1000 := by
  have q1 := raiseF_len (mulF a b) (j * x)
  have q2 := mulF_len a b
  have q3 := (prod_j h0 h1 h2 h3).2
  omega
theorem eq_sameK {prog : Program} {w : World} {A : Around} {E : Value → Shared → Prop} {s : Shared} {a b : Addr} {vs us : List Value} {ns : List Int} {Q : Value → Shared → Prop} (hl : s.heap.IsList a vs.toArray) (hi : IntsAre vs ns) (hl' : s.heap.IsList b us.toArray) (hi' : IntsAre us ns) (hu : A.units + 64 < cLine)
    (h : Q (.bool true) s) : wpAny (model prog w) A (compareOp .Eq (.ref a) (.ref b)) Q E s :=
  eq_intsK hl hi hl' hi' hu (by rw [decide_eq_true rfl]; exact h)
end

section
local macro_rules | `(tactic| walk_at "mine fit") => `(tactic| first | assumption | omega | (simp only [List.length_map, List.length_append, List.length_replicate, List.length_range, List.length_reverse, List.length_cons, List.length_nil, rangeKs_length]; omega) | fail "mine fit")
local macro_rules | `(tactic| walk_at "call ref") => `(tactic| (k_here; (with_reducible show wpAny _ _ (call (Value.ref 119) _) _ _ _); k_dflt (refine' gauss_use ?B ?F ?X ?T ?N ?hk ?hd ?hu ?h0 ?h1 ?h2 ?_; (case B => k_asm); (case F => k_asm); (case X => k_asm); (case T => k_asm); (case N => k_asm); (case hk => first | exact rfl | assumption); (case hd => ktr_room); (case hu => ktr_units); (case h0 => omega); (case h1 => omega); (case h2 => omega); k_whole); intro l' ws' n' h' tk' F' N' hA' hI' hlen1 hlen2))
local macro_rules | `(tactic| walk_at "call ref") => `(tactic| (k_here; (with_reducible show wpAny _ _ (call (Value.ref 112) _) _ _ _); k_dflt (refine' draw_use ?B ?F ?X ?T ?N ?hk ?hd ?hu ?U ?hC ?hPC ?hi ?hl ?h1 ?h2 ?h3 ?h4 ?_; (case B => k_asm); (case F => k_asm); (case X => k_asm); (case T => k_asm); (case N => k_asm); (case hk => first | exact rfl | assumption); (case hd => ktr_room); (case hu => ktr_units); (case U => k_updF); (case hC => k_mem); (case hPC => k_ne); (case hi => l_ints); (case hl => walk_at "mine fit"); (case h1 => omega); (case h2 => omega); (case h3 => omega); (case h4 => omega); k_whole); intro v' t' t'' h' tk' hv0 hv1 F' N'; (try dsimp only at N')))
local macro_rules | `(tactic| walk_at "call ref") => `(tactic| (k_here; (with_reducible show wpAny _ _ (call (Value.ref 124) _) _ _ _); k_dflt (refine' box_int ?B ?F ?X ?T ?N ?hk ?hd ?hu ?hf ?q0 ?q1 ?h0 ?h1 ?h2 ?h3 ?_; (case B => k_asm); (case F => k_asm); (case X => k_asm); (case T => k_asm); (case N => k_asm); (case hk => first | exact rfl | assumption); (case hd => ktr_room); (case hu => ktr_units); (case hf => exact rfl); (case q0 => omega); (case q1 => omega); (case h0 => omega); (case h1 => omega); (case h2 => first | assumption | omega); (case h3 => first | exact tot_le (by assumption) (by assumption) | omega); k_whole); intro t' h' tk' F' N'))
local macro_rules | `(tactic| walk_at "call ref") => `(tactic| (k_here; (with_reducible show wpAny _ _ (call (Value.ref 84) [Value.ref _, Value.int 1 _]) _ _ _); k_dflt (refine' useP (zat_ok _ _ _ _ _ _ _ _ _ _ ?hi ?hl) ?B ?F ?X ?T ?N ?hk ?hd ?hu ?hp ?_; (case B => k_asm); (case F => k_asm); (case X => k_asm); (case T => k_asm); (case N => k_asm); (case hk => first | exact rfl | assumption); (case hd => ktr_room); (case hu => ktr_units); (case hp => (try dsimp only); walk_at "mine list"); (case hi => l_ints); (case hl => walk_at "mine fit"); k_whole); intro r' h' tk' F' N' hK' hP'; obtain ⟨t', hP'⟩ := hP'; subst hP'; clear hK'; (try dsimp only)))
local macro_rules | `(tactic| walk_at "call ref") => `(tactic| (k_here; (with_reducible show wpAny _ _ (call (Value.ref 91) [Value.ref _]) _ _ _); k_dflt (refine' useL (zreversed_ok _ _ _ _ _ _ _ _ _ ?hi ?hl) ?B ?F ?X ?T ?N ?hk ?hd ?hu ?hp ?_; (case B => k_asm); (case F => k_asm); (case X => k_asm); (case T => k_asm); (case N => k_asm); (case hk => first | exact rfl | assumption); (case hd => ktr_room); (case hu => ktr_units); (case hp => (try dsimp only); walk_at "mine list"); (case hi => l_ints); (case hl => walk_at "mine fit"); k_whole); intro l' ws' n' h' tk' F' N' hA' hI'))
local macro_rules | `(tactic| walk_at "call ref") => `(tactic| (k_here; (with_reducible show wpAny _ _ (call (Value.ref 46) [Value.ref _, Value.ref _]) _ _ _); k_dflt (refine' useL (zadd_ok _ _ _ _ _ _ _ _ _ _ _ _ ?hi ?hj ?hl ?hm) ?B ?F ?X ?T ?N ?hk ?hd ?hu ?hp ?_; (case B => k_asm); (case F => k_asm); (case X => k_asm); (case T => k_asm); (case N => k_asm); (case hk => first | exact rfl | assumption); (case hd => ktr_room); (case hu => ktr_units); (case hp => (try dsimp only); refine And.intro ?_ ?_ <;> walk_at "mine list"); (case hi => l_ints); (case hj => l_ints); (case hl => walk_at "mine fit"); (case hm => walk_at "mine fit"); k_whole); intro l' ws' n' h' tk' F' N' hA' hI'))
local macro_rules | `(tactic| walk_at "call ref") => `(tactic| (k_here; (with_reducible show wpAny _ _ (call (Value.ref 70) [Value.ref _, Value.int _ _]) _ _ _); k_dflt (refine' useL (zraise_ok _ _ _ _ _ _ _ _ _ _ _ ?hi ?hl ?h1 ?h2) ?B ?F ?X ?T ?N ?hk ?hd ?hu ?hp ?_; (case B => k_asm); (case F => k_asm); (case X => k_asm); (case T => k_asm); (case N => k_asm); (case hk => first | exact rfl | assumption); (case hd => ktr_room); (case hu => ktr_units); (case hp => (try dsimp only); walk_at "mine list"); (case hi => l_ints); (case hl => walk_at "mine fit"); (case h1 => walk_at "mine fit"); (case h2 => walk_at "mine fit"); k_whole); intro l' ws' n' h' tk' F' N' hA' hI'))
local macro_rules | `(tactic| walk_at "call ref") => `(tactic| (k_here; (with_reducible show wpAny _ _ (call (Value.ref 77) [Value.ref _, Value.ref _]) _ _ _); k_dflt (refine' useL (zmul_ok _ _ _ _ _ _ _ _ _ _ _ _ ?hi ?hj ?hl ?hm ?hs) ?B ?F ?X ?T ?N ?hk ?hd ?hu ?hp ?_; (case B => k_asm); (case F => k_asm); (case X => k_asm); (case T => k_asm); (case N => k_asm); (case hk => first | exact rfl | assumption); (case hd => ktr_room); (case hu => ktr_units); (case hp => (try dsimp only); refine And.intro ?_ ?_ <;> walk_at "mine list"); (case hi => l_ints); (case hj => l_ints); (case hl => walk_at "mine fit"); (case hm => walk_at "mine fit"); (case hs => walk_at "mine small"); k_whole); intro l' ws' n' h' tk' F' N' hA' hI'))
local macro_rules | `(tactic| walk_at "call ref") => `(tactic| ((with_reducible show wpAny _ _ (call (Value.ref 119) [Value.int (1 + _) _, _]) _ _ _); refine Stop.of ?_))
local macro_rules | `(tactic| walk_at "mine fit") => `(tactic| first | assumption | omega | (refine Nat.le_trans (mulF_len _ _) ?_; omega) | (refine Nat.le_trans (raiseF_len _ _) ?_; omega) | exact (prod_j (by omega) (by omega) (by omega) (by omega)).1 | exact Int.le_trans (prod_j (by omega) (by omega) (by omega) (by omega)).2 (by decide) | exact fit_rm (by omega) (by omega) (by omega) (by omega) (by assumption) (by assumption) | fail "mine fit3")
local macro_rules | `(tactic| walk_at "mine small") => `(tactic| assumption)
local macro_rules | `(tactic| walk_at "exec Return some") => `(tactic| ((with_reducible show wpAny _ _ (exec (Stmt.Return (some (Expr.Constant (Const.bool false) _ _)) _) _) _ _ _); refine Stop.of ?_))
local macro_rules | `(tactic| walk_at "pyIter ref") => `(tactic| ((with_reducible show wpAny _ _ (pyIter _) (fun it s₂ => LoopAtV _ _ _ _ _ _ _ _ _ it s₂) _ _); refine Stop.of ?_))
local macro_rules | `(tactic| walk_at "compareOp Eq ref ref") => `(tactic| (k_here; (with_reducible show wpAny _ _ (compareOp CmpOp.Eq (Value.ref _) (Value.ref _)) _ _ _); (with_unfolding_all refine' eq_sameK ?k1 ?k2 ?k3 ?k4 ?k5 ?_; (case k1 => walk_at "mine list"); (case k2 => assumption); (case k3 => walk_at "mine list"); (case k4 => assumption); (case k5 => units_room); k_whole)))
set_option maxHeartbeats 0 in
theorem law_ok : PySem.Challenge.rw_sa0077_01.Holds := lawHd (by
  k_go0
  all_goals (try k_fold)
  k_steps
  unfold Stop
  rename (_ : Int) < 6 => hn6
  refine take1 hn6 fun v2 hv2 => ?_
  subst hv2
  rename (_ : Int) < 1 + v2 + 1 => hm1
  refine take1 hm1 fun m hm => ?_
  subst hm
  revert hm1
  rename (_ : Int) < 1 + v2 + 1 => hk1
  refine take1 hk1 fun k hk => ?_
  subst hk
  intro hm1
  generalize hn : 1 + v2 = n at *
  have hn1 : n ≤ 6 := by omega
  have hn0 : 1 ≤ n := by omega
  have hk2 : k ≤ n := by omega
  have hm2 : m ≤ n := by omega
  clear hn6 hn hk1 hm1
  rename 0 ≤ k => hk0
  rename 0 ≤ m => hm0
  rename Fr _ _ _ _ => F9
  rename News _ _ _ _ => N9
  replace N9 := drop4 N9
  have hmk := extMark N9
  obtain ⟨pk0, pk9⟩ := prod_int hk0 hk2 hn1
  obtain ⟨E1, E2, E3⟩ := plain1_int hk0 hk2 hn1
  k_dflt (refine' gauss_use ?B F9 ?X ?T N9 ?hk ?hd ?hu hk0 hk2 hn1 ?_; (case B => k_asm); (case X => k_asm); (case T => k_asm); (case hk => first | exact rfl | assumption); (case hd => ktr_room); (case hu => ktr_units))
  intro l' ws' n' h' tk' F' N' hA' hI' hlen1 hlen2
  clear F9 N9
  k_steps
  unfold Stop
  rename Fr _ _ _ _ => F9
  rename News _ _ _ _ => N9
  rename IsRange _ _ _ _ _ _ _ _ => R9
  obtain ⟨rf1, rf2⟩ := range_int hk0 (by omega : k ≤ 20)
  k_dflt (refine' iterRange_acc1 (y := Str.ofString "many") (fun x j => Int.fdiv (x * (n - j)) (j + 1)) ?hh R9 rf1 rf2 F9 N9 ?hy ?_ ?_; (case hh => exact rfl); (case hy => exact rfl))
  · intro j t x tx h tk own hj0 hj1 hoff F N
    clear F9 N9 R9 rf1 rf2
    (try dsimp only)
    (try k_fold)
    k_steps
  · intro u t h tk F N
    clear F9 N9 R9 rf1 rf2
    (try dsimp only)
    (try k_fold)
    k_steps
    · exact absurd E3 (by assumption)
    rotate_left
    · exact absurd (plain2_int (by assumption) (by assumption) hn1) (by assumption)
    all_goals (
      unfold Stop
      rename Fr _ _ _ _ => F9
      rename News _ _ _ _ => N9
      rename IsRange _ _ _ _ _ _ _ _ => R9)
    all_goals obtain ⟨rf1, rf2⟩ := range_int (by omega : 0 ≤ k + 1) (by omega : k + 1 ≤ 20)
    all_goals (
      k_dflt (refine' iter_range_rf _ (Str.ofString "total") (Str.ofString "whole") [Str.ofString "j", Str.ofString "total", Str.ofString "whole"] (fun i rs fs => rs = totI n k m i ∧ fs = gT n.toNat k.toNat) ?hL ?hh R9 rf1 rf2 F9 N9 (ext_in hmk N9 ?hx) ?hr ?hf ?hne ?hi ?hj ?hmr ?hmf ?hp ?_ ?_; (case hL => exact rfl); (case hh => exact rfl); (case hx => exact List.forall_mem_cons.mpr ⟨by k_mem, List.forall_mem_cons.mpr ⟨by k_mem, List.forall_mem_nil _⟩⟩); (case hmr => exact rfl); (case hmf => exact rfl); (case hr => k_mem); (case hf => k_mem); (case hne => k_ne); (case hi => exact IntsAre.nil); (case hj => assumption); (case hp => exact And.intro rfl rfl))
      · intro i t R D us rs cr ws fs cf u h tk own hik hP hi hj hRD ho1 ho2 F N
        obtain ⟨rfl, rfl⟩ := hP
        clear F9 N9 R9 rf1 rf2
        have hik2 : (i : Int) ≤ k := by omega
        have q1 := totI_len hk0 hk2 hn1 hm0 hm2 hik2
        (try simp only [List.cons_append, List.nil_append] at N)
        (try dsimp only)
        (try k_fold)
        k_steps
        · rename Fr _ _ _ _ => F9
          rename News _ _ _ _ => N9
          have e9 := totI_go hk0 hk2 hm0 hm2 hik2 (by omega) (by omega)
          k_dflt (refine' RPost.end F9 N9 ?hr ?hf ?hx ?ho ?h1 ?h2 ?hne ?hi ?hj ?hmr ?hmf ?hp ?hm; (case hmr => exact rfl); (case hmf => exact rfl); (case hr => k_mem); (case hf => k_mem); (case h2 => assumption); (case hi => assumption); (case hj => assumption))
          case hne => exact NeAll.ne (by assumption) (by k_mem)
          case h1 => exact (NeAll.sub (by assumption) (fun p hp => by (repeat (first | exact hp | refine List.Mem.tail _ ?_))))
          case hx => exact List.forall_mem_cons.mpr ⟨by k_mem, List.forall_mem_cons.mpr ⟨by k_mem, List.forall_mem_nil _⟩⟩
          case ho => exact fun p hp => by (repeat (first | exact hp | refine List.Mem.tail _ ?_))
          case hp => exact ⟨e9.symm, rfl⟩
          case hm =>
            intro z hz
            simp only [List.contains_cons, List.contains_nil, Bool.or_false, Bool.or_eq_false_iff, beq_eq_false_iff_ne, ne_eq] at hz
            simp [hz]
        all_goals (
          rename Fr _ _ _ _ => F9
          rename News _ _ _ _ => N9
          have e9 := totI_skip (j := i) hk0 hk2 hm0 hm2 hik2 (by omega)
          k_dflt (refine' RPost.end F9 N9 ?hr ?hf ?hx ?ho ?h1 ?h2 ?hne ?hi ?hj ?hmr ?hmf ?hp ?hm; (case hmr => exact rfl); (case hmf => exact rfl); (case hr => k_mem); (case hf => k_mem); (case h1 => assumption); (case h2 => assumption); (case hi => assumption); (case hj => assumption))
          case hne => assumption
          case hx => exact List.forall_mem_cons.mpr ⟨by k_mem, List.forall_mem_cons.mpr ⟨by k_mem, List.forall_mem_nil _⟩⟩
          case ho => exact fun p hp => by (repeat (first | exact hp | refine List.Mem.tail _ ?_))
          case hp => exact ⟨e9.symm, rfl⟩
          case hm =>
            intro z hz
            simp only [List.contains_cons, List.contains_nil, Bool.or_false, Bool.or_eq_false_iff, beq_eq_false_iff_ne, ne_eq] at hz
            simp [hz])
      · intro R D us rs cr ws fs cf u h tk hP hi hj hRD F N
        obtain ⟨rfl, rfl⟩ := hP
        have e5 : totI n k m (k + 1).toNat = gT n.toNat k.toNat := by
          have e6 : (k + 1).toNat = k.toNat + 1 := by omega
          rw [e6]
          exact totI_end hk0 hk2 hn1 hm0 hm2
        rw [e5] at hi
        clear F9 N9 R9 rf1 rf2
        (try dsimp only)
        (try k_fold)
        k_steps))
end

end Mine
theorem PySem.Challenge.cw_sa0077_01_holds : PySem.Challenge.rw_sa0077_01.Holds :=
  Mine.law_ok
