import PyProof.Rows.All
import Wide.All
import OpenK.AllK
import Wide.FinOn
import PySem.Challenge.RW_xm0793_01
open PySem PySem.W PyProof.Rows PySem.Spec PySem.Calls
set_option Elab.async false
set_option maxRecDepth 100000
-- part HD
namespace Mine
set_option maxHeartbeats 8000000
open_top hd for PySem.Challenge.rw_xm0793_01
end Mine
-- part M1
namespace Mine
set_option maxHeartbeats 4000000
theorem mulok_fmod (e z : Int) : IntMulOk (e.fmod 2147483647) z := by
  have h0 := fmod_lo e (n := 2147483647) (by decide)
  have h1 := fmod_hi e (n := 2147483647) (by decide)
  exact IntMulOk.of_left (intBits_le_64 (by omega) (by omega))
theorem log2_small {t : Int} (h0 : 0 < t) (h1 : t < 8589934592) : t.natAbs.log2 < 9000 := by
  have : t.natAbs.log2 < 33 := (Nat.log2_lt (by omega)).mpr (by omega)
  omega

/-- a list of two ints -/
abbrev two (x y : Int) (tx ty : Tok) (n : Nat) : Obj := listOf #[.int x tx, .int y ty] n

def others (S : Addr) (l : List (Addr × Obj)) : List (Addr × Obj) := l.filter fun p => decide (p.1 ≠ S)
theorem others_off {S : Addr} {l : List (Addr × Obj)} : ∀ p ∈ others S l, p.1 ≠ S := fun p hp => by
  have := (List.mem_filter.mp hp).2
  exact of_decide_eq_true this
theorem others_in {h₀ h : Heap} {L S : Addr} {o o' : Obj} {l l' : List (Addr × Obj)} (U : Upd S o o' l l') (N : News h₀ L h l) : News h₀ L h ((S, o) :: others S l) := by
  obtain ⟨pre, post, rfl, rfl, a, b⟩ := U.split
  intro p hp
  rcases List.mem_cons.mp hp with rfl | hp
  · exact N _ (by simp)
  · exact N _ (List.mem_filter.mp hp).1
theorem others_out {h₀ h : Heap} {L S : Addr} {o o' : Obj} {l l' : List (Addr × Obj)} (U : Upd S o o' l l') (N : News h₀ L h ((S, o') :: others S l)) : News h₀ L h l' := by
  obtain ⟨pre, post, rfl, rfl, a, b⟩ := U.split
  intro p hp
  rcases List.mem_append.mp hp with q | q
  · exact N _ (List.mem_cons_of_mem _ (List.mem_filter.mpr ⟨by simp [q], decide_eq_true (a p q)⟩))
  · rcases List.mem_cons.mp q with rfl | q
    · exact N _ List.mem_cons_self
    · exact N _ (List.mem_cons_of_mem _ (List.mem_filter.mpr ⟨by simp [q], decide_eq_true (b p q)⟩))

section take
local macro_rules | `(tactic| k_all) => `(tactic| assumption)
local macro_rules | `(tactic| walk_at "binaryOp FloorDiv int int") => `(tactic| (with_reducible refine floordiv_int ?hb ?_ ?hp; (case hp => exact Or.inl (PyProof.noPylong_of_log2 (log2_small (by assumption) (by assumption)))); (case hb => omega)))
theorem take_ok {w : World} {mean : ExcName → Option Value} {mg mb : Str → Option Value} : PySem.Challenge.rw_xm0793_01 = PySem.Challenge.rw_xm0793_01 →
  ∀ (dp un : Nat) (gd : Option (List Code)) (cn : Str) (cs : Scope) (a : Addr) (ccd : Value) (cl : List (Str × Addr)) (outer : List Env) (A₀ : Around) (base h₀ : Heap) (L : Addr) (m : Str → Option Value) (rest : List (Addr × Obj)) (s : Shared) (S : Addr) (x y top : Int) (tx ty tt : Tok) (n : Nat)
    (Q E : Value → Shared → Prop),
    Below A₀ base outer h₀ → Fr h₀ L s.heap m → (hd.heap_39 w.params).In h₀ → News h₀ L s.heap ((S, two x y tx ty n) :: rest) → (∀ p ∈ rest, p.1 ≠ S) → Top hd.view_39 (looseW hd.view_39 []) mean mg mb h₀ → cs.kind = .function →
    0 < top → top < 8589934592 → dp + 1 < recursionLimit → un + 8 < cLine →
    (∀ v t h' tk' x' tx' y' ty' n', 0 ≤ v → v < top → Fr h₀ L h' m → News h₀ L h' ((S, two x' y' tx' ty' n') :: rest) → Q (.int v t) { s with heap := h', toks := tk' }) →
    wpAny (model PySem.Challenge.rw_xm0793_01.row.prog w) (ktrTop dp un gd cn cs L a ccd cl outer) (call (.ref 47) [.ref S, .int top tt]) Q E s := by
  k_fill
  w_top off
  k_with_none
  intro _ dp un gd cn cs a ccd cl outer A₀ base h₀ L m rest s S x y top tx ty tt n Q E B F X N off T hk htop htop2 hd hu hret
  refine wpAny_call ?_
  k_dflt cell_enter
  k_steps
  · exact hret _ _ _ _ _ _ _ _ _ (fmod_lo _ htop) (fmod_hi _ htop) (by assumption) (by assumption)
  · refine mul_int ?_ ?hm
    case hm => exact mulok_fmod _ _
    k_steps
    exact hret _ _ _ _ _ _ _ _ _ (fmod_lo _ htop) (fmod_hi _ htop) (by assumption) (by assumption)
end take

/-- the same, the list standing anywhere in the ledger -/
theorem take_call {w : World} {mean : ExcName → Option Value} {mg mb : Str → Option Value}
    {dp un : Nat} {gd : Option (List Code)} {cn : Str} {cs : Scope} {a : Addr} {ccd : Value} {cl : List (Str × Addr)} {outer : List Env} {A₀ : Around} {base h₀ : Heap} {L : Addr} {m : Str → Option Value} {news : List (Addr × Obj)} {news' : Obj → List (Addr × Obj)} {s : Shared} {S : Addr} {x y top : Int} {tx ty tt : Tok} {n : Nat}
    {Q E : Value → Shared → Prop}
    (B : Below A₀ base outer h₀) (F : Fr h₀ L s.heap m) (X : (hd.heap_39 w.params).In h₀) (N : News h₀ L s.heap news) (U : ∀ o', Upd S (two x y tx ty n) o' news (news' o')) (T : Top hd.view_39 (looseW hd.view_39 []) mean mg mb h₀) (hk : cs.kind = .function)
    (htop : 0 < top) (htop2 : top < 8589934592) (hd : dp + 1 < recursionLimit) (hu : un + 8 < cLine)
    (hret : ∀ v t h' tk' x' tx' y' ty' n', 0 ≤ v → v < top → Fr h₀ L h' m → News h₀ L h' (news' (two x' y' tx' ty' n')) → Q (.int v t) { s with heap := h', toks := tk' }) :
    wpAny (model PySem.Challenge.rw_xm0793_01.row.prog w) (ktrTop dp un gd cn cs L a ccd cl outer) (call (.ref 47) [.ref S, .int top tt]) Q E s := by
  exact take_ok rfl dp un gd cn cs a ccd cl outer A₀ base h₀ L m (others S news) s S x y top tx ty tt n Q E B F X (others_in (U (two x y tx ty n)) N) others_off T hk htop htop2 hd hu
    fun v t h' tk' x' tx' y' ty' n' h0 h1 F' N' => hret v t h' tk' x' tx' y' ty' n' h0 h1 F' (others_out (U _) N')

section sample
local macro_rules | `(tactic| k_room) => `(tactic| ktr_room)
local macro_rules | `(tactic| k_all) => `(tactic| assumption)
local macro_rules | `(tactic| walk_at "call ref") => `(tactic| (k_here; (with_reducible show wpAny _ _ (call (Value.ref 47) _) _ _ _); k_dflt (refine' take_call ?k1 ?k2 ?k3 ?k4 ?kU ?k5 ?kK ?kt ?kt2 ?kd ?ku ?_; (case k1 => k_asm); (case k2 => k_asm); (case k3 => k_asm); (case k4 => k_asm); (case kU => (intro o9; k_upd)); (case k5 => k_asm); (case kK => first | exact rfl | assumption); (case kt => decide); (case kt2 => decide); (case kd => ktr_room); (case ku => ktr_units); k_whole); (intro v9 t9 h9 tk9 x9 tx9 y9 ty9 n9 hlo9 hhi9 F9 N9); (try dsimp only); (try k_fold)))
theorem sample_ok {w : World} {mean : ExcName → Option Value} {mg mb : Str → Option Value} : PySem.Challenge.rw_xm0793_01 = PySem.Challenge.rw_xm0793_01 →
  ∀ (dp un : Nat) (gd : Option (List Code)) (cn : Str) (cs : Scope) (a : Addr) (ccd : Value) (cl : List (Str × Addr)) (outer : List Env) (A₀ : Around) (base h₀ : Heap) (L : Addr) (m : Str → Option Value) (rest : List (Addr × Obj)) (s : Shared) (S : Addr) (x y : Int) (tx ty : Tok) (n : Nat)
    (Q E : Value → Shared → Prop),
    Below A₀ base outer h₀ → Fr h₀ L s.heap m → (hd.heap_39 w.params).In h₀ → News h₀ L s.heap ((S, two x y tx ty n) :: rest) → (∀ p ∈ rest, p.1 ≠ S) → Top hd.view_39 (looseW hd.view_39 []) mean mg mb h₀ → cs.kind = .function →
    dp + 3 < recursionLimit → un + 24 < cLine →
    (∀ v t h' tk' x' tx' y' ty' n', Fr h₀ L h' m → News h₀ L h' ((S, two x' y' tx' ty' n') :: rest) → Q (.int v t) { s with heap := h', toks := tk' }) →
    wpAny (model PySem.Challenge.rw_xm0793_01.row.prog w) (ktrTop dp un gd cn cs L a ccd cl outer) (call (.ref 66) [.ref S]) Q E s := by
  k_fill
  w_top off
  k_with_none
  intro _ dp un gd cn cs a ccd cl outer A₀ base h₀ L m rest s S x y tx ty n Q E B F X N off T hk hd hu hret
  refine wpAny_call ?_
  k_dflt cell_enter
  k_steps
  exact hret _ _ _ _ _ _ _ _ _ (by assumption) (cb_drop (by assumption) fun p hp => List.mem_cons_of_mem _ hp)
end sample
theorem sample_call {w : World} {mean : ExcName → Option Value} {mg mb : Str → Option Value}
    {dp un : Nat} {gd : Option (List Code)} {cn : Str} {cs : Scope} {a : Addr} {ccd : Value} {cl : List (Str × Addr)} {outer : List Env} {A₀ : Around} {base h₀ : Heap} {L : Addr} {m : Str → Option Value} {news : List (Addr × Obj)} {news' : Obj → List (Addr × Obj)} {s : Shared} {S : Addr} {x y : Int} {tx ty : Tok} {n : Nat}
    {Q E : Value → Shared → Prop}
    (B : Below A₀ base outer h₀) (F : Fr h₀ L s.heap m) (X : (hd.heap_39 w.params).In h₀) (N : News h₀ L s.heap news) (U : ∀ o', Upd S (two x y tx ty n) o' news (news' o')) (T : Top hd.view_39 (looseW hd.view_39 []) mean mg mb h₀) (hk : cs.kind = .function)
    (hd : dp + 3 < recursionLimit) (hu : un + 24 < cLine)
    (hret : ∀ v t h' tk' x' tx' y' ty' n', Fr h₀ L h' m → News h₀ L h' (news' (two x' y' tx' ty' n')) → Q (.int v t) { s with heap := h', toks := tk' }) :
    wpAny (model PySem.Challenge.rw_xm0793_01.row.prog w) (ktrTop dp un gd cn cs L a ccd cl outer) (call (.ref 66) [.ref S]) Q E s :=
  sample_ok rfl dp un gd cn cs a ccd cl outer A₀ base h₀ L m (others S news) s S x y tx ty n Q E B F X (others_in (U (two x y tx ty n)) N) others_off T hk hd hu
    fun v t h' tk' x' tx' y' ty' n' F' N' => hret v t h' tk' x' tx' y' ty' n' F' (others_out (U _) N')
end Mine
-- part M2
namespace Mine
set_option maxHeartbeats 4000000
theorem news_head {h₀ h : Heap} {L : Addr} {p : Addr × Obj} {r : List (Addr × Obj)} (N : News h₀ L h (p :: r)) : News h₀ L h [p] := fun q hq => by
  rw [List.mem_singleton] at hq
  exact hq ▸ N p List.mem_cons_self
/-- all that stood still stands -/
def Kept (h h' : Heap) : Prop := ∀ b o, h.get? b = some o → h'.get? b = some o
section
variable {prog : Program} {w : World} {A A₀ : Around} {s : Shared} {K : Frag} {L : Addr} {h₀ base : Heap} {m mg mb : Str → Option Value} {p : Program} {loose : List Str} {mean : ExcName → Option Value}
/-- a def entered above all that stands -/
theorem code_mono {env : Env} {outer : List Env} {R : Result → Shared → Prop} {name qual : Str} {params : Arguments} {body : List Stmt} {scope : Scope} {dV kV doc pm cdv ct oc : Value} {an od : Option Addr} {osl : Array (Option Value)} {f : Addr} {args : Args} {binds : List (Str × Value)}
    (B : Below A₀ base outer h₀) (F : Fr h₀ L s.heap m) (X₀ : K.In h₀) (T : Top p loose mean mg mb h₀) (hA : A.frames = some (env :: outer)) (hf : env.frame = some L) (hke : env.scope.kind = .function)
    (ho : K.lookup f = some ⟨oc, od, .func (fnOf name qual params body scope dV kV doc pm an cdv ct), osl⟩) (hcd : codeIn K cdv qual = true) (hroom : A.depth < recursionLimit)
    (hbind : BindsTo s (fnOf name qual params body scope dV kV doc pm an cdv ct) args binds) (hloc : ∀ y ∈ binds, scope.names.lookup y.1 = some .local)
    (h : ∀ L' h₁, Fr s.heap L' h₁ (fun y => binds.reverse.lookup y) → News s.heap L' h₁ [] → Below A base (env :: outer) s.heap → K.In s.heap → Top p loose mean mg mb s.heap →
      wpAny (model prog w) (A.deeper (envOf qual scope L' f cdv)) (execs body (envOf qual scope L' f cdv))
        (fun fl s' => LeaveK h₀ L m s.heap (fun r s' => Kept s.heap s'.heap → R r s') (match fl with | .ret v => v | _ => .none) s')
        (fun e s' => wpAny (model prog w) (A.deeper (envOf qual scope L' f cdv)) (leaving (envOf qual scope L' f cdv) e) (fun _ s'' => R (.error e) s'') (fun e' s'' => R (.error e') s'') s')
        { s with heap := h₁, toks := s.toks + binds.length })
    (hco : scope.isCoroutine = false) (hgen : scope.isGenerator = false) (hk : scope.kind = .function)
    (hcell : ∀ x ∈ scope.names, x.2 ≠ .cell) : codeAny (model prog w) A (.call (.ref f) args) R s := by
  obtain ⟨FG, BG, st, lv⟩ := groundX (R := fun r s' => Kept s.heap s'.heap → R r s') (news := []) B F News.nil hA hf hke
  refine codeAny_call_def (fd := fnX name qual params body scope [] dV kV doc pm an cdv ct) (body := body) (binds := binds) hroom ((X₀.keeps F.keep) _ _ ho) rfl (T.nolimit.keeps F.keep) (codeRec_of (X₀.keeps F.keep) hcd) rfl hbind hcell hloc (fun h₁ hns hk₁ => ?_) hco hgen hk
  exact wpAny_mono (h s.heap.objs.size h₁ ⟨hns, hk₁, Nat.le_refl _⟩ News.nil BG (X₀.keeps F.keep) (T.keeps F.keep)) (fun fl s' hl => lv _ _ hl (by obtain ⟨_, _, _, F', _⟩ := hl; exact F'.keep)) fun _ _ y => y

/-- the same, some of its names being cells -/
theorem code_monoC {env : Env} {outer : List Env} {R : Result → Shared → Prop} {name qual : Str} {params : Arguments} {body : List Stmt} {scope : Scope} {dV kV doc pm cdv ct oc : Value} {an od : Option Addr} {osl : Array (Option Value)} {f : Addr} {args : Args} {binds : List (Str × Value)}
    (B : Below A₀ base outer h₀) (F : Fr h₀ L s.heap m) (X₀ : K.In h₀) (T : Top p loose mean mg mb h₀) (hA : A.frames = some (env :: outer)) (hf : env.frame = some L) (hke : env.scope.kind = .function)
    (ho : K.lookup f = some ⟨oc, od, .func (fnOf name qual params body scope dV kV doc pm an cdv ct), osl⟩) (hcd : codeIn K cdv qual = true) (hroom : A.depth < recursionLimit)
    (hbind : BindsTo s (fnOf name qual params body scope dV kV doc pm an cdv ct) args binds) (hkind : (binds.all fun y => scope.names.lookup y.1 == some .local || scope.names.lookup y.1 == some .cell) = true)
    (hnd : ((cellsFrom 0 scope.names []).map (·.1)).Nodup)
    (h : ∀ L' h₁ tk cells, Fr s.heap L' h₁ (bindL (envOfC qual scope L' f cdv).kindOf binds fun _ => none) → News s.heap L' h₁ cells →
      CellsAre (bindC (envOfC qual scope L' f cdv).kindOf binds fun _ => none) (cellsFrom (L' + 1) scope.names []) cells → Below A base (env :: outer) s.heap → K.In s.heap → Top p loose mean mg mb s.heap →
      wpAny (model prog w) (A.deeper (envOfC qual scope L' f cdv)) (execs body (envOfC qual scope L' f cdv))
        (fun fl s' => LeaveK h₀ L m s.heap (fun r s' => Kept s.heap s'.heap → R r s') (match fl with | .ret v => v | _ => .none) s')
        (fun e s' => wpAny (model prog w) (A.deeper (envOfC qual scope L' f cdv)) (leaving (envOfC qual scope L' f cdv) e) (fun _ s'' => R (.error e) s'') (fun e' s'' => R (.error e') s'') s')
        { s with heap := h₁, toks := tk })
    (hco : scope.isCoroutine = false) (hgen : scope.isGenerator = false) (hk : scope.kind = .function) : codeAny (model prog w) A (.call (.ref f) args) R s := by
  obtain ⟨FG, BG, st, lv⟩ := groundX (R := fun r s' => Kept s.heap s'.heap → R r s') (news := []) B F News.nil hA hf hke
  refine codeAny_call_function hroom ((X₀.keeps F.keep) _ _ ho) rfl hco hgen rfl (codeRec_of (X₀.keeps F.keep) hcd) (hbind _ _ _ _ ?_)
  refine wpAny_newFunctionEnv_cells hk (kindsX hkind _) fun env' he s' x => ?_
  subst he
  refine ⟨(T.nolimit.keeps F.keep).keeps x.toInCall.keep, codeAny_func ?_⟩
  obtain ⟨h₁, tk, rfl, _⟩ := x.done
  have hk₁ := x.toInCall.keep
  obtain ⟨cells, NC, Y⟩ := Cl.news (h₀ := s.heap) (Nat.le_refl _) fun n c hm => ⟨x.cell n c (lookup_of_mem_nodup (cellsFrom_names scope.names 0 (s.heap.objs.size + 1) [] [] rfl ▸ hnd) hm), x.above n c hm⟩
  exact wpAny_mono (h s.heap.objs.size h₁ tk cells ⟨x.toInCall.ns, hk₁, Nat.le_refl _⟩ NC Y BG (X₀.keeps F.keep) (T.keeps F.keep)) (fun fl s' hl => lv _ _ hl (by obtain ⟨_, _, _, F', _⟩ := hl; exact F'.keep)) fun _ _ y => y
end
end Mine
-- part M3
namespace Mine
set_option maxHeartbeats 4000000
/-- the value at a place of the row twice as long -/
def twI (xs : List Int) (p : Nat) : Int := (xs.getD (p / 2) 0 + xs.getD (min ((p + 1) / 2) (xs.length - 1)) 0).fdiv 2
def twN (xs : List Int) (n : Nat) : List Int := (List.range n).map (twI xs)

theorem tw_start (xs : List Int) : ([] : List Int) = twN xs (2 * ([] : List Int).length) ∧ ([] : List Int).length = 2 * ([] : List Int).length ∧ ([] : List Int).length ≤ xs.length := ⟨rfl, rfl, Nat.zero_le _⟩
theorem twN_add (xs : List Int) (n : Nat) : twN xs (n + 2) = twN xs n ++ [twI xs n] ++ [twI xs (n + 1)] := by
  simp [twN, List.range_succ]
theorem tw_turn {xs found pre : List Int} {k : Int} (hf : found = twN xs (2 * pre.length)) (hl : found.length = 2 * pre.length) (hp : pre.length ≤ xs.length) (hk : k = 0 + (pre.length : Int)) (hlt : pre.length < ((xs.length : Int) - 0).toNat) :
    found ++ [xs.getD k.toNat 0] ++ [(xs.getD k.toNat 0 + xs.getD (if (xs.length : Int) - 1 < k + 1 then (xs.length : Int) - 1 else k + 1).toNat 0).fdiv 2] = twN xs (2 * (pre ++ [k]).length) ∧
      (found ++ [xs.getD k.toNat 0] ++ [(xs.getD k.toNat 0 + xs.getD (if (xs.length : Int) - 1 < k + 1 then (xs.length : Int) - 1 else k + 1).toNat 0).fdiv 2]).length = 2 * (pre ++ [k]).length ∧ (pre ++ [k]).length ≤ xs.length := by
  have e : k.toNat = pre.length := by omega
  have e2 : (if (xs.length : Int) - 1 < k + 1 then (xs.length : Int) - 1 else k + 1).toNat = min (pre.length + 1) (xs.length - 1) := by split <;> omega
  refine ⟨?_, by simp; omega, by simp; omega⟩
  rw [List.length_append, List.length_singleton, Nat.mul_add, Nat.mul_one, twN_add, ← hf, e, e2]
  unfold twI
  have h1 : 2 * pre.length / 2 = pre.length := by omega
  have h2 : (2 * pre.length + 1) / 2 = pre.length := by omega
  have h3 : (2 * pre.length + 1 + 1) / 2 = pre.length + 1 := by omega
  have h4 : min pre.length (xs.length - 1) = pre.length := by omega
  rw [h1, h2, h3, h4]
  congr 3
  have : ∀ z : Int, (z + z).fdiv 2 = z := fun z => by rw [← Int.two_mul]; exact Int.mul_fdiv_cancel_left z (by decide)
  rw [this]
theorem tw_cut {xs found : List Int} {us : List Value} {size : Int} (hi : IntsAre us (found.take size.toNat)) (hf : found = twN xs (2 * (rangeKs 0 ((xs.length : Int) - 0).toNat).length)) (hl : found.length = 2 * (rangeKs 0 ((xs.length : Int) - 0).toNat).length)
    (h0 : 0 ≤ size) (h1 : size ≤ 2 * (xs.length : Int)) : IntsAre us (twN xs size.toNat) := by
  have e : found.take size.toNat = twN xs size.toNat := by
    rw [rangeKs_length] at hf hl
    rw [hf]
    unfold twN
    rw [← List.map_take, List.take_range]
    congr 2
    omega
  rwa [e] at hi
section twice
local macro_rules | `(tactic| k_room) => `(tactic| ktr_room)
theorem twice_ok {w : World} {mean : ExcName → Option Value} {mg mb : Str → Option Value} : PySem.Challenge.rw_xm0793_01 = PySem.Challenge.rw_xm0793_01 →
  ∀ (dp un : Nat) (gd : Option (List Code)) (cn : Str) (cs : Scope) (a : Addr) (ccd : Value) (cl : List (Str × Addr)) (outer : List Env) (A₀ : Around) (base h₀ : Heap) (L : Addr) (m : Str → Option Value) (s : Shared) (l : Addr) (vs : List Value) (xs : List Int) (size : Int) (tz : Tok)
    (Q E : Value → Shared → Prop),
    Below A₀ base outer h₀ → Fr h₀ L s.heap m → (hd.heap_39 w.params).In h₀ → Top hd.view_39 (looseW hd.view_39 []) mean mg mb h₀ → cs.kind = .function →
    s.heap.IsList l vs.toArray → IntsAre vs xs → 0 < xs.length → xs.length ≤ 1000 → 0 ≤ size → size ≤ 2 * xs.length → 
    dp + 2 < recursionLimit → un + 24 < cLine →
    (∀ D us n' h' tk', Fr h₀ L h' m → News h₀ L h' [(D, listOf us.toArray n')] → s.heap.get? D = none → IntsAre us (twN xs size.toNat) → Kept s.heap h' → Q (.ref D) { s with heap := h', toks := tk' }) →
    wpAny (model PySem.Challenge.rw_xm0793_01.row.prog w) (ktrTop dp un gd cn cs L a ccd cl outer) (call (.ref 28) [.ref l, .int size tz]) Q E s := by
  k_fill
  w_top off
  k_with_none
  intro _ dp un gd cn cs a ccd cl outer A₀ base h₀ L m s l vs xs size tz Q E B F X T hk hl hi hx hx8 hz0 hz hd hu hret
  refine wpAny_call ?_
  k_dflt (refine' code_mono ?k1 ?k2 ?k3 ?k5 ?kA ?kF ?kK ?k6 ?k7 ?k8 ?k9 ?kB ?_ ?c2 ?c3 ?c4 ?c5; (case kA => exact rfl); (case kF => exact rfl); (case kK => assumption); (case k1 => k_asm); (case k2 => k_asm); (case k3 => k_asm); (case k5 => k_asm); (case k6 => k_is); (case k7 => k_is); (case k8 => ktr_room); (case k9 => exact BindsTo.of_eq rfl); (case c5 => decide); (case kB => exact locs rfl); (case c2 => exact rfl); (case c3 => exact rfl); (case c4 => exact rfl); k_whole; intro L' h' F' N' B' X' T'; (try dsimp only); (try k_fold))
  clear F B X T
  k_with "pyIter ref" => k_state (fun pre found => found = twN xs (2 * pre.length) ∧ found.length = 2 * pre.length ∧ pre.length ≤ xs.length) "found"
  k_with "state" => exact tw_start xs
  k_with "state" => (exact tw_turn (by assumption) (by assumption) (by assumption) (by assumption) (by assumption))
  k_steps
  dsimp only
  have N9 := (by with_unfolding_all assumption : News s.heap L' _ [_, _])
  refine leaveK_ (by with_unfolding_all assumption) N9 fun kF kN kept => hret _ _ _ _ _ kF (news_head kN) (N9 _ List.mem_cons_self).2.2 ?_ kept
  exact tw_cut (by assumption) (by assumption) (by assumption) hz0 hz
end twice
end Mine
-- part M4
namespace Mine
set_option maxHeartbeats 4000000
theorem lt_val {xs : List Int} {ys : List Value} {size : Int}
    (hi : IntsAre ys (List.map (fun k' => (xs.getD (k'.fdiv 2).toNat 0 + xs.getD (if (xs.length : Int) - 1 < (k' + 1).fdiv 2 then (xs.length : Int) - 1 else (k' + 1).fdiv 2).toNat 0).fdiv 2) (rangeKs 0 (size - 0).toNat)))
    (hx : 0 < xs.length) : IntsAre ys (twN xs size.toNat) := by
  have e : List.map (fun k' => (xs.getD (k'.fdiv 2).toNat 0 + xs.getD (if (xs.length : Int) - 1 < (k' + 1).fdiv 2 then (xs.length : Int) - 1 else (k' + 1).fdiv 2).toNat 0).fdiv 2) (rangeKs 0 (size - 0).toNat) = twN xs size.toNat := by
    unfold twN rangeKs
    rw [List.map_map, Int.sub_zero]
    refine List.map_congr_left fun p hp => ?_
    have hp' : p < size.toNat := List.mem_range.mp hp
    have e1 : ((0 + (p : Int)).fdiv 2).toNat = p / 2 := by
      rw [Int.zero_add, Int.fdiv_eq_ediv_of_nonneg _ (by decide)]; omega
    have e2 : (if (xs.length : Int) - 1 < ((0 + (p : Int)) + 1).fdiv 2 then (xs.length : Int) - 1 else ((0 + (p : Int)) + 1).fdiv 2).toNat = min ((p + 1) / 2) (xs.length - 1) := by
      rw [Int.zero_add, Int.fdiv_eq_ediv_of_nonneg _ (by decide)]; split <;> omega
    show (xs.getD ((0 + (p : Int)).fdiv 2).toNat 0 + xs.getD (if (xs.length : Int) - 1 < ((0 + (p : Int)) + 1).fdiv 2 then (xs.length : Int) - 1 else ((0 + (p : Int)) + 1).fdiv 2).toNat 0).fdiv 2 = twI xs p
    rw [e1, e2]
    rfl
  rwa [e] at hi
section lawtwice
local macro_rules | `(tactic| k_room) => `(tactic| ktr_room)
theorem law_twice_ok {w : World} {mean : ExcName → Option Value} {mg mb : Str → Option Value} : PySem.Challenge.rw_xm0793_01 = PySem.Challenge.rw_xm0793_01 →
  ∀ (dp un : Nat) (gd : Option (List Code)) (cn : Str) (cs : Scope) (a : Addr) (ccd : Value) (cl : List (Str × Addr)) (outer : List Env) (A₀ : Around) (base h₀ : Heap) (L : Addr) (m : Str → Option Value) (s : Shared) (l : Addr) (vs : List Value) (xs : List Int) (size : Int) (tz : Tok)
    (Q E : Value → Shared → Prop),
    Below A₀ base outer h₀ → Fr h₀ L s.heap m → (hd.heap_39 w.params).In h₀ → Top hd.view_39 (looseW hd.view_39 []) mean mg mb h₀ → cs.kind = .function →
    s.heap.IsList l vs.toArray → IntsAre vs xs → 0 < xs.length → xs.length ≤ 1000 → 0 ≤ size → size ≤ 2 * xs.length → 
    dp + 2 < recursionLimit → un + 24 < cLine →
    (∀ D us n' h' tk', Fr h₀ L h' m → News h₀ L h' [(D, listOf us.toArray n')] → s.heap.get? D = none → IntsAre us (twN xs size.toNat) → Kept s.heap h' → Q (.ref D) { s with heap := h', toks := tk' }) →
    wpAny (model PySem.Challenge.rw_xm0793_01.row.prog w) (ktrTop dp un gd cn cs L a ccd cl outer) (call (.ref 59) [.ref l, .int size tz]) Q E s := by
  k_fill
  w_top off
  k_with_none
  intro _ dp un gd cn cs a ccd cl outer A₀ base h₀ L m s l vs xs size tz Q E B F X T hk hl hi hx hx8 hz0 hz hd hu hret
  refine wpAny_call ?_
  k_dflt (refine' code_monoC ?k1 ?k2 ?k3 ?k5 ?kA ?kF ?kK ?k6 ?k7 ?k8 ?k9 ?kB ?kD ?_ ?c2 ?c3 ?c4; (case kA => exact rfl); (case kF => exact rfl); (case kK => assumption); (case k1 => k_asm); (case k2 => k_asm); (case k3 => k_asm); (case k5 => k_asm); (case k6 => k_is); (case k7 => k_is); (case k8 => ktr_room); (case k9 => exact BindsTo.of_eq rfl); (case kB => exact rfl); (case kD => decide +kernel); (case c2 => exact rfl); (case c3 => exact rfl); (case c4 => exact rfl); k_whole; intro L' h' tk' cells' F' N' Y' B' X' T'; k_cells Y'; (try simp only [List.cons_append, List.nil_append] at N'); (try dsimp only); (try k_fold))
  clear F B X T
  k_steps
  rename News _ _ _ _ => N9
  exact leaveK_ (by k_asm) N9 fun kF kN kept => hret _ _ _ _ _ kF (news_head kN) (N9 _ List.mem_cons_self).2.2 (lt_val (by assumption) hx) kept
end lawtwice
end Mine
-- part M5a
namespace Mine
set_option maxHeartbeats 4000000
section
variable {prog : Program} {w : World} {A : Around} {E : Value → Shared → Prop} {s : Shared} {env : Env} {h₀ : Heap} {x : Str} {px : Pos} {body : List Stmt} {Q : Flow → Shared → Prop}
/-- a loop over a range by what holds between its turns: of the frame's names and of all that was made -/
theorem iter_rangeJ {r : Addr} {b : Int} {t u v : Tok} {n : Nat} {m₀ : Str → Option Value} {news : List (Addr × Obj)} (J : Nat → (Str → Option Value) → List (Addr × Obj) → Prop)
    (hh : A.handled = none) (hr : IsRange s.heap r 0 b 1 t u v) (hsm : Builtin.Range.small 0 b 1 = true) (hn : Builtin.Range.rangeSize 0 b 1 = (n : Int)) (F : Fr h₀ env.locals s.heap m₀) (N : News h₀ env.locals s.heap news) (h0 : J 0 m₀ news)
    (turn : ∀ i m₁ news₁ t h tk I oI, i < n → J i m₁ news₁ → (∀ p ∈ news₁, p.1 ≠ I) → Fr h₀ env.locals h m₁ → News h₀ env.locals h ((I, oI) :: news₁) →
      wpAny (model prog w) A (assign (.Name x px) env (.int (i : Int) t)) (fun _ s₃ => wpAny (model prog w) A (execs body env) (UnrPost h₀ env.locals { s with heap := h, toks := tk } I oI (J (i + 1)) Q) E s₃) E { s with heap := h, toks := tk })
    (done : ∀ m₁ news₁ h tk, J n m₁ news₁ → Fr h₀ env.locals h m₁ → News h₀ env.locals h news₁ → Q .next { s with heap := h, toks := tk }) :
    wpAny (model prog w) A (pyIter (.ref r)) (fun it s₂ => TurnsAt prog w A h₀ env (.Name x px) body Q E it s₂) E s := by
  refine wpAny_pyIter_range hr hsm ?_
  have W : Walks prog w A s.heap.objs.size [s.heap.objs.size] [s.heap.objs.size] n (fun i v => i < n ∧ ∃ t, v = .int (0 + i * 1) t)
      (fun i h => IsRangeIter h s.heap.objs.size (0 + (i : Nat) * 1) ((n : Int) - (i : Nat)) 1) := (Walks.range hh _ 0 1 n).bound
  refine ⟨_, _, _, n, _, _, _, m₀, news, J, rfl, KTurns.ofWalks W (fun _ _ _ _ _ _ q => wpAny_pure q), ?_, ?_, ?_, (by show IsRangeIter _ _ _ _ _; rw [hn]; simpa using Heap.get?_push_size _ rfl), F.push _, (fun p hp => ⟨Heap.get?_push_of_some _ (N p hp).1, (N p hp).2⟩), h0, ?_, ?_⟩
  · intro hm
    exact absurd F.ns.lt ((List.mem_singleton.mp hm) ▸ Nat.lt_irrefl _)
  · intro b hb
    rw [List.mem_singleton.mp hb]
    exact next_is_new F
  · intro p hp hI
    exact absurd (Heap.lt_size (N p hp).1) ((List.mem_singleton.mp hI) ▸ Nat.lt_irrefl _)
  · rintro i v m₁ news₁ h₁ tk₁ own hi ⟨_, t, rfl⟩ hJ hoff hown hget hall hst F₁ N₁
    obtain ⟨oI, hst'⟩ : ∃ o, h₁.get? s.heap.objs.size = some o := ⟨_, hst⟩
    have hmemI := hall s.heap.objs.size (List.mem_cons_self ..) (next_is_new F) _ hst'
    have N₂ := (fun p hp => by
      rcases List.mem_cons.mp hp with rfl | hp
      · exact N₁ _ (List.mem_append_left _ hmemI)
      · exact N₁ _ (List.mem_append_right _ hp) : News h₀ env.locals h₁ ((s.heap.objs.size, oI) :: news₁))
    have e1 : (0 : Int) + (i : Int) * 1 = (i : Int) := by omega
    rw [e1]
    refine wpAny_mono (turn i m₁ news₁ t h₁ tk₁ s.heap.objs.size oI hi hJ (fun p hp e => hoff p hp (by rw [e]; exact List.mem_singleton.mpr rfl)) F₁ N₂) (fun _ s₃ q => wpAny_mono q (fun f s₂ p => ?_) fun _ _ e => e) fun _ _ e => e
    have fin : ∀ s₂, UnrEnd h₀ env.locals { s with heap := h₁, toks := tk₁ } s.heap.objs.size oI (J (i + 1)) s₂ → LoopStepU h₀ env.locals [s.heap.objs.size] own (J (i + 1)) { s with heap := h₁, toks := tk₁ } .next s₂ := by
      rintro s₂ ⟨h', tk, m', news', e, F', N', ho, r⟩
      refine ⟨rfl, h', tk, m', news', e, F', fun p hp => ?_, fun p hp hI => ho p hp (List.mem_singleton.mp hI), r⟩
      rcases List.mem_append.mp hp with hp | hp
      · have h2 : h₁.get? p.1 = some p.2 := hget p hp
        have h1 : p.1 = s.heap.objs.size := List.mem_singleton.mp (hown p hp)
        have h3 : p = (s.heap.objs.size, oI) := Prod.ext h1 (by rw [h1, hst'] at h2; exact (Option.some.inj h2).symm)
        rw [h3]; exact N' _ List.mem_cons_self
      · exact N' _ (List.mem_cons_of_mem _ hp)
    cases f with
    | ret v => exact .ret p
    | brk => exact .brk p
    | next => exact .next (fin _ p)
    | cont => exact .cont (fin _ p)
  · intro h' tk m' news' F' N' _ hJ
    exact done m' news' h' tk hJ F' N'
end
end Mine
-- part M5b
namespace Mine
set_option maxHeartbeats 1500000
/-- lists of ints that stand in a heap, one a row -/
inductive RowsAt (h : Heap) : List Value → List (List Int) → Prop
  | nil : RowsAt h [] []
  | cons {r : Addr} {us : List Value} {xs : List Int} {vs : List Value} {xss : List (List Int)} : h.IsList r us.toArray → IntsAre us xs → RowsAt h vs xss → RowsAt h (.ref r :: vs) (xs :: xss)
/-- the same in a ledger -/
inductive RowsLed (led : List (Addr × Obj)) : List Value → List (List Int) → Prop
  | nil : RowsLed led [] []
  | cons {r : Addr} {us : List Value} {k : Nat} {xs : List Int} {vs : List Value} {xss : List (List Int)} : (r, listOf us.toArray k) ∈ led → IntsAre us xs → RowsLed led vs xss → RowsLed led (.ref r :: vs) (xs :: xss)
theorem RowsAt.length {h : Heap} {vs : List Value} {xss : List (List Int)} (R : RowsAt h vs xss) : vs.length = xss.length := by
  induction R with
  | nil => rfl
  | cons _ _ _ ih => simp [ih]
theorem RowsAt.get {h : Heap} {vs : List Value} {xss : List (List Int)} (R : RowsAt h vs xss) : ∀ i, i < xss.length → ∃ r us, vs[i]? = some (.ref r) ∧ h.IsList r us.toArray ∧ IntsAre us (xss.getD i []) := by
  induction R with
  | nil => intro i hi; exact absurd hi (Nat.not_lt_zero _)
  | @cons r us xs vs xss hl hi _ ih =>
    intro i hi'
    cases i with
    | zero => exact ⟨r, us, rfl, hl, hi⟩
    | succ i =>
      obtain ⟨r', us', a, b, c⟩ := ih i (by simpa using hi')
      exact ⟨r', us', by simpa using a, b, by simpa using c⟩
/-- a row of the rows twice as many -/
def edI (xss : List (List Int)) (p : Nat) : List Int := List.zipWith (fun a b => (a + b).fdiv 2) (xss.getD (p / 2) []) (xss.getD (min ((p + 1) / 2) (xss.length - 1)) [])
def edN (xss : List (List Int)) (n : Nat) : List (List Int) := (List.range n).map (edI xss)
abbrev EdRet (h₀ : Heap) (L : Addr) (m : Str → Option Value) (s : Shared) (Q : Value → Shared → Prop) (rs : List (List Int)) : Prop :=
  ∀ D us n' led h' tk', Fr h₀ L h' m → News h₀ L h' ((D, listOf us.toArray n') :: led) → RowsLed led us rs → Kept s.heap h' → (∀ p ∈ (D, listOf us.toArray n') :: led, s.heap.get? p.1 = none) → Q (.ref D) { s with heap := h', toks := tk' }

/-- a known reference at a place -/
structure RefAt (vs : List Value) (k : Int) (r : Addr) : Prop where
  lo : 0 ≤ k
  hi : k < 2 ^ 63
  eq : vs[k.toNat]? = some (.ref r)
section
variable {prog : Program} {w : World} {A : Around} {E : Value → Shared → Prop} {s : Shared} {g : Heap} {L l : Addr} {m : Str → Option Value} {vs : List Value} {Q : Value → Shared → Prop}
theorem item_ref {value slice : PySem.Expr} {k : Int} {u : Tok} {r : Addr} (F : Fr g L s.heap m) (hl : g.IsList l vs.toArray) (hx : RefAt vs k r) (h : Q (.ref r) s)
    (hs : subscripted slice false (.ref l) (.int k u) = operate [.ref l, .int k u] (getItem (.ref l) (.int k u)) := by with_unfolding_all rfl) :
    wpAny (model prog w) A (subscriptTail value slice (.ref l) (.int k u)) Q E s :=
  item_litK (hl.at fun o e => F.keep _ _ e) hx.lo hx.hi hx.eq h hs
theorem item_int {value slice : PySem.Expr} {us : List Value} {xs : List Int} {k : Int} {u : Tok} (F : Fr g L s.heap m) (hl : g.IsList l us.toArray) (hi : IntsAre us xs) (h0 : 0 ≤ k) (h1 : k < xs.length) (h2 : xs.length ≤ 1000) (h : ∀ t, Q (.int (xs.getD k.toNat 0) t) s)
    (hs : subscripted slice false (.ref l) (.int k u) = operate [.ref l, .int k u] (getItem (.ref l) (.int k u)) := by with_unfolding_all rfl) :
    wpAny (model prog w) A (subscriptTail value slice (.ref l) (.int k u)) Q E s := by
  have hlt : k.toNat < xs.length := by omega
  obtain ⟨t, e⟩ := hi.get k.toNat (xs.getD k.toNat 0) (by rw [List.getD_eq_getElem?_getD, List.getElem?_eq_getElem hlt]; rfl)
  exact item_litK (hl.at fun o e => F.keep _ _ e) h0 (by omega) e (h t) hs
theorem slice_upto {value slice : PySem.Expr} {us : List Value} {vl vu : Value} {y : Int} {news : List (Addr × Obj)} (F : Fr g L s.heap m) (N : News g L s.heap news) (hl : s.heap.IsList l us.toArray) (pl : IsPart vl none) (pu : IsPart vu (some y)) (h0 : 0 ≤ y)
    (h : ∀ D h', Fr g L h' m → News g L h' ((D, listOf (us.take y.toNat).toArray 0) :: news) → (∀ p ∈ news, p.1 < D) → Q (.ref D) { s with heap := h' })
    (hs : subscripted slice false (.ref l) (.ref s.heap.objs.size) = operate [.ref s.heap.objs.size, .ref l] (getItem (.ref l) (.ref s.heap.objs.size))) (ht : ∀ r, letTemporaryGo value (.ref l) r = pure ()) (hz : us.length ≤ sizeLine) :
    wpAny (model prog w) A (subscriptTail value slice (.ref l) (.ref s.heap.objs.size)) Q E { s with heap := s.heap.push { cls := .type "slice", data := .fields #[vl, vu, .none] } } := by
  refine kmk_slice F N hl pl pu (fun D h' F' N' l1 => h D h' F' ?_ l1) hs ht (by simpa using hz)
  have e : slicePick us.toArray none (some y) none = (us.take y.toNat).toArray := by
    obtain ⟨k, rfl⟩ := Int.eq_ofNat_of_zero_le h0
    simpa using slicePick_upto' us.toArray k
  rw [← e]
  exact N'
/-- rows whose number is known -/
structure RowsNo (vs : List Value) (n : Nat) : Prop where
  eq : vs.length = n
  le : n ≤ 1000
theorem len_rows {n : Nat} (F : Fr g L s.heap m) (hl : g.IsList l vs.toArray) (hn : RowsNo vs n) (h : ∀ t tk, Q (.int n t) { s with toks := tk }) : wpAny (model prog w) A (call (.builtin "len") [.ref l]) Q E s := by
  have e : vs.toArray.size = n := by simp [hn.eq]
  have := hn.le
  exact len_list (hl.at fun o e => F.keep _ _ e) (by rw [e]; omega) (by rw [e]; exact h _ _)
end
def EdJ (l' cB cK cR : Addr) (oR : Obj) (m₀ : Str → Option Value) (xss : List (List Int)) (i : Nat) (m₁ : Str → Option Value) (news₁ : List (Addr × Obj)) : Prop :=
  ∃ us nn oK oB led vK vB, m₁ = m₀ ∧ news₁ = (l', listOf (List.toArray us) nn) :: (cB, oB) :: (cK, oK) :: (cR, oR) :: led ∧ oB.data = .cell vB ∧ oK.data = .cell vK ∧ us.length = 2 * i ∧ RowsLed led us (edN xss (2 * i)) ∧
    (∀ p ∈ led, p.1 ≠ l') ∧ (∀ p ∈ led, p.1 ≠ cB) ∧ (∀ p ∈ led, p.1 ≠ cK)
theorem EdJ.start {l' cB cK cR : Addr} {oR oB oK : Obj} {m₀ : Str → Option Value} {xss : List (List Int)} {vK vB : Option Value} (hB : oB.data = .cell vB) (hK : oK.data = .cell vK) :
    EdJ l' cB cK cR oR m₀ xss 0 m₀ [(l', listOf #[] 0), (cB, oB), (cK, oK), (cR, oR)] :=
  ⟨[], 0, oK, oB, [], vK, vB, rfl, rfl, hB, hK, rfl, .nil, fun _ h => absurd h List.not_mem_nil, fun _ h => absurd h List.not_mem_nil, fun _ h => absurd h List.not_mem_nil⟩
theorem idx_bound {n W : Nat} {k : Int} {xs ys : List Int} (_h0 : 0 ≤ k) (h1 : k < 0 + (((ys.length : Int) - 0).toNat : Int)) (hy : ys.length = W) (hx : xs.length = W) : k < xs.length := by omega
theorem iter_ed {prog : Program} {w : World} {A : Around} {E : Value → Shared → Prop} {s : Shared} {env : Env} {h₀ : Heap} {x : Str} {px : Pos} {body : List Stmt} {Q : Flow → Shared → Prop}
    {r : Addr} {b : Int} {t u v : Tok} {n : Nat} {m₀ : Str → Option Value} {l' cB cK cR : Addr} {oR oB oK : Obj} {vK vB : Option Value} (xss : List (List Int))
    (hh : A.handled = none) (hr : IsRange s.heap r 0 b 1 t u v) (hsm : Builtin.Range.small 0 b 1 = true) (hn : Builtin.Range.rangeSize 0 b 1 = (n : Int)) (F : Fr h₀ env.locals s.heap m₀)
    (N : News h₀ env.locals s.heap [(l', listOf #[] 0), (cB, oB), (cK, oK), (cR, oR)]) (hB : oB.data = .cell vB) (hK : oK.data = .cell vK)
    (turn : ∀ i us nn oK oB led vK vB t h tk I oI, i < n → oB.data = .cell vB → oK.data = .cell vK → List.length us = 2 * i → RowsLed led us (edN xss (2 * i)) → (∀ p ∈ led, p.1 ≠ l') → (∀ p ∈ led, p.1 ≠ cB) → (∀ p ∈ led, p.1 ≠ cK) →
      @Ne Nat l' I → @Ne Nat cB I → @Ne Nat cK I → @Ne Nat cR I → (∀ p ∈ led, p.1 ≠ I) → Fr h₀ env.locals h m₀ → News h₀ env.locals h ((I, oI) :: (l', listOf us.toArray nn) :: (cB, oB) :: (cK, oK) :: (cR, oR) :: led) →
      wpAny (model prog w) A (assign (.Name x px) env (.int (i : Int) t)) (fun _ s₃ => wpAny (model prog w) A (execs body env) (UnrPost h₀ env.locals { s with heap := h, toks := tk } I oI (EdJ l' cB cK cR oR m₀ xss (i + 1)) Q) E s₃) E { s with heap := h, toks := tk })
    (done : ∀ us nn oK oB led h tk, List.length us = 2 * n → RowsLed led us (edN xss (2 * n)) → Fr h₀ env.locals h m₀ → News h₀ env.locals h ((l', listOf us.toArray nn) :: (cB, oB) :: (cK, oK) :: (cR, oR) :: led) → Q .next { s with heap := h, toks := tk }) :
    wpAny (model prog w) A (pyIter (.ref r)) (fun it s₂ => TurnsAt prog w A h₀ env (.Name x px) body Q E it s₂) E s := by
  refine iter_rangeJ (EdJ l' cB cK cR oR m₀ xss) hh hr hsm hn F N (EdJ.start hB hK) ?_ ?_
  · rintro i m₁ news₁ t h tk I oI hi ⟨us, nn, oK, oB, led, vK, vB, rfl, rfl, hB, hK, hus, hled, o1, o2, o3⟩ hoff F₁ N₁
    simp only [List.forall_mem_cons] at hoff
    exact turn i us nn oK oB led vK vB t h tk I oI hi hB hK hus hled o1 o2 o3 hoff.1 hoff.2.1 hoff.2.2.1 hoff.2.2.2.1 hoff.2.2.2.2 F₁ N₁
  · rintro m₁ news₁ h tk ⟨us, nn, oK, oB, led, vK, vB, rfl, rfl, hB, hK, hus, hled, _⟩ F₁ N₁
    exact done us nn oK oB led h tk hus hled F₁ N₁
theorem RowsLed.mono {led led' : List (Addr × Obj)} {vs : List Value} {xss : List (List Int)} (R : RowsLed led vs xss) (h : ∀ p ∈ led, p ∈ led') : RowsLed led' vs xss := by
  induction R with
  | nil => exact .nil
  | cons hm hi _ ih => exact .cons (h _ hm) hi ih
theorem RowsLed.snoc {led : List (Addr × Obj)} {vs : List Value} {xss : List (List Int)} {r : Addr} {us : List Value} {k : Nat} {xs : List Int} (R : RowsLed led vs xss) (hm : (r, listOf us.toArray k) ∈ led) (hi : IntsAre us xs) :
    RowsLed led (vs ++ [.ref r]) (xss ++ [xs]) := by
  induction R with
  | nil => exact .cons hm hi .nil
  | cons hm' hi' _ ih => exact .cons hm' hi' ih
theorem RowsLed.length {led : List (Addr × Obj)} {vs : List Value} {xss : List (List Int)} (R : RowsLed led vs xss) : vs.length = xss.length := by
  induction R with
  | nil => rfl
  | cons _ _ _ ih => simp [ih]
theorem RowsLed.take {led : List (Addr × Obj)} {vs : List Value} {xss : List (List Int)} (R : RowsLed led vs xss) : ∀ k, RowsLed led (vs.take k) (xss.take k) := by
  induction R with
  | nil => intro k; simpa using .nil
  | cons hm hi _ ih =>
    intro k
    cases k with
    | zero => exact .nil
    | succ k => exact .cons hm hi (ih k)
theorem edN_take {xss : List (List Int)} {size : Int} (h1 : size ≤ 2 * (xss.length : Int)) : (edN xss (2 * xss.length)).take size.toNat = edN xss size.toNat := by
  unfold edN
  rw [← List.map_take, List.take_range]
  congr 2
  omega
theorem ed_done {h h₀ : Heap} {L L₀ D l' : Addr} {m₀ : Str → Option Value} {s : Shared} {tk k n' : Nat} {us : List Value} {oB oK oR : Addr × Obj} {led : List (Addr × Obj)} {xss : List (List Int)} {size : Int} {Q : Value → Shared → Prop}
    (N : News s.heap L h ((D, listOf (us.take size.toNat).toArray n') :: (l', listOf us.toArray k) :: oB :: oK :: oR :: led)) (hled : RowsLed led us (edN xss (2 * xss.length))) (hz : size ≤ 2 * (xss.length : Int))
    (hret : EdRet h₀ L₀ m₀ s Q (edN xss size.toNat)) (kF : Fr h₀ L₀ h m₀) (kN : News h₀ L₀ h ((D, listOf (us.take size.toNat).toArray n') :: (l', listOf us.toArray k) :: oB :: oK :: oR :: led)) (kept : Kept s.heap h) : Q (.ref D) { s with heap := h, toks := tk } := by
  have sub : ∀ p ∈ (D, listOf (us.take size.toNat).toArray n') :: led, p ∈ (D, listOf (us.take size.toNat).toArray n') :: (l', listOf us.toArray k) :: oB :: oK :: oR :: led := fun p hp => by
    rcases List.mem_cons.mp hp with rfl | hp
    · exact List.mem_cons_self
    · simp [hp]
  refine hret D _ n' led h tk kF (cb_drop kN sub) ?_ kept fun p hp => (N p (sub p hp)).2.2
  rw [← edN_take hz]
  exact hled.take _
theorem zip_self (xs : List Int) : List.zipWith (fun a b : Int => (a + b).fdiv 2) xs xs = xs := by
  induction xs with
  | nil => rfl
  | cons a r ih =>
    have : (a + a).fdiv 2 = a := by rw [← Int.two_mul]; exact Int.mul_fdiv_cancel_left a (by decide)
    rw [List.zipWith_cons_cons, ih, this]
theorem zip_range {x1 x2 : List Int} {W : Nat} (h1 : x1.length = W) (h2 : x2.length = W) :
    List.map (fun k' => (x1.getD k'.toNat 0 + x2.getD k'.toNat 0).fdiv 2) (rangeKs 0 ((x2.length : Int) - 0).toNat) = List.zipWith (fun a b : Int => (a + b).fdiv 2) x1 x2 := by
  refine List.ext_getElem (by simp [rangeKs_length, h1, h2]) fun j hj1 hj2 => ?_
  have hj : j < W := by simp [rangeKs_length, h2] at hj1; omega
  simp only [rangeKs, List.map_map, List.getElem_map, List.getElem_range, List.getElem_zipWith, Function.comp]
  have e : ((0 : Int) + (j : Int)).toNat = j := by omega
  rw [e, List.getD_eq_getElem?_getD, List.getD_eq_getElem?_getD, List.getElem?_eq_getElem (by omega), List.getElem?_eq_getElem (by omega)]
  rfl
theorem edN_two {xss : List (List Int)} {i : Nat} {x1 x2 : List Int} (hi : i < xss.length) (h1 : xss.getD i [] = x1) (h2 : xss.getD (min (i + 1) (xss.length - 1)) [] = x2) :
    edN xss (2 * (i + 1)) = edN xss (2 * i) ++ [x1] ++ [List.zipWith (fun a b : Int => (a + b).fdiv 2) x1 x2] := by
  have e1 : edI xss (2 * i) = x1 := by
    unfold edI
    have a1 : 2 * i / 2 = i := by omega
    have a2 : min ((2 * i + 1) / 2) (xss.length - 1) = i := by omega
    rw [a1, a2, h1, zip_self]
  have e2 : edI xss (2 * i + 1) = List.zipWith (fun a b : Int => (a + b).fdiv 2) x1 x2 := by
    unfold edI
    have a1 : (2 * i + 1) / 2 = i := by omega
    have a2 : (2 * i + 1 + 1) / 2 = i + 1 := by omega
    rw [a1, a2, h1, h2]
  rw [← e2, ← e1]
  simp [edN, Nat.mul_add, List.range_succ]
theorem ed_close {g h h9 : Heap} {L D1 D2 I l' cB cK cR : Addr} {oI oB oK oR : Obj} {m₀ : Str → Option Value} {s : Shared} {tk tk9 c k i W : Nat} {us u1 ys : List Value} {led : List (Addr × Obj)} {xss : List (List Int)} {x1 x2 : List Int} {vB vK : Option Value}
    (F : Fr g L h m₀) (N : News g L h ((D2, LCg.lst ys) :: (D1, listOf u1.toArray c) :: (I, oI) :: (l', listOf ((us ++ [Value.ref D1]).toArray.push (Value.ref D2)) k) :: (cB, oB) :: (cK, oK) :: (cR, oR) :: led))
    (hB : oB.data = .cell vB) (hK : oK.data = .cell vK) (hus : us.length = 2 * i) (hled : RowsLed led us (edN xss (2 * i))) (o1 : ∀ p ∈ led, p.1 ≠ l') (o2 : ∀ p ∈ led, p.1 ≠ cB) (o3 : ∀ p ∈ led, p.1 ≠ cK) (o4 : ∀ p ∈ led, p.1 ≠ I)
    (n1 : @Ne Nat l' I) (n2 : @Ne Nat cB I) (n3 : @Ne Nat cK I) (n4 : @Ne Nat cR I) (a1 : @Ne Nat D1 l') (a2 : @Ne Nat D1 cB) (a3 : @Ne Nat D1 cK) (a4 : @Ne Nat D1 I) (b1 : @Ne Nat D2 l') (b2 : @Ne Nat D2 cB) (b3 : @Ne Nat D2 cK) (b4 : @Ne Nat D2 I)
    (hi : i < xss.length) (h1 : xss.getD i [] = x1) (h2 : xss.getD (min (i + 1) (xss.length - 1)) [] = x2) (w1 : x1.length = W) (w2 : x2.length = W) (hi1 : IntsAre u1 x1)
    (hi2 : IntsAre ys (List.map (fun k' => (x1.getD k'.toNat 0 + x2.getD k'.toNat 0).fdiv 2) (rangeKs 0 ((x2.length : Int) - 0).toNat))) :
    UnrEnd g L { s with heap := h9, toks := tk9 } I oI (EdJ l' cB cK cR oR m₀ xss (i + 1)) { s with heap := h, toks := tk } := by
  rw [zip_range w1 w2] at hi2
  have e : (us ++ [Value.ref D1]).toArray.push (Value.ref D2) = (us ++ [Value.ref D1] ++ [Value.ref D2]).toArray := by rw [List.push_toArray]
  rw [e] at N
  have hR := ((hled.mono (led' := (D2, LCg.lst ys) :: (D1, listOf u1.toArray c) :: led) (fun p hp => List.mem_cons_of_mem _ (List.mem_cons_of_mem _ hp))).snoc (List.mem_cons_of_mem _ List.mem_cons_self) hi1).snoc (r := D2) (us := ys) (k := ys.length) List.mem_cons_self hi2
  rw [← edN_two hi h1 h2] at hR
  have off : ∀ {z : Addr}, D2 ≠ z → D1 ≠ z → (∀ p ∈ led, p.1 ≠ z) → ∀ p ∈ (D2, LCg.lst ys) :: (D1, listOf u1.toArray c) :: led, p.1 ≠ z := fun x y o p hp => by
    rcases List.mem_cons.mp hp with rfl | hp
    · exact x
    · rcases List.mem_cons.mp hp with rfl | hp
      · exact y
      · exact o p hp
  refine UnrEnd.intro F N ((l', listOf (us ++ [Value.ref D1] ++ [Value.ref D2]).toArray k) :: (cB, oB) :: (cK, oK) :: (cR, oR) :: (D2, LCg.lst ys) :: (D1, listOf u1.toArray c) :: led) ?_ ?_
    ⟨_, k, oK, oB, _, vK, vB, rfl, rfl, hB, hK, by simp [hus]; omega, hR, off b1 a1 o1, off b2 a2 o2, off b3 a3 o3⟩
  · intro p hp
    simp only [List.mem_cons] at hp ⊢
    rcases hp with h | h | h | h | h | h | h | h <;> simp [h]
  · intro p hp
    rcases List.mem_cons.mp hp with rfl | hp
    · exact n1
    rcases List.mem_cons.mp hp with rfl | hp
    · exact n2
    rcases List.mem_cons.mp hp with rfl | hp
    · exact n3
    rcases List.mem_cons.mp hp with rfl | hp
    · exact n4
    exact off b4 a4 o4 p hp
end Mine
-- part M5
namespace Mine
set_option maxHeartbeats 4000000
section expanded
local macro_rules | `(tactic| k_room) => `(tactic| ktr_room)
local macro_rules | `(tactic| k_all) => `(tactic| assumption)
local macro_rules | `(tactic| walk_at "call builtin:len") => `(tactic| (k_here; (with_reducible show wpAny _ _ (call (Value.builtin "len") [Value.ref _]) _ _ _); k_dflt (refine' len_rows ?F ?l ?n ?_; (case F => k_asm); (case l => assumption); (case n => with_reducible assumption); k_whole); intro t' tk'))
local macro_rules | `(tactic| walk_at "subscriptTail") => `(tactic| (k_here; (with_reducible show wpAny _ _ (subscriptTail _ _ (Value.ref _) (Value.int _ _)) _ _ _); k_dflt (refine' item_ref ?F ?l ?x ?_ ?z; (case F => k_asm); (case l => assumption); (case x => with_reducible assumption); (case z => with_unfolding_all rfl); k_whole)))
local macro_rules | `(tactic| walk_at "subscriptTail") => `(tactic| (k_here; (with_reducible show wpAny _ _ (subscriptTail _ _ (Value.ref _) (Value.int _ _)) _ _ _); k_dflt (refine' item_int ?F ?l ?i ?x0 ?x1 ?x2 ?_ ?z; (case F => k_asm); (case l => assumption); (case i => with_reducible assumption); (case x0 => first | with_reducible assumption | omega); (case x1 => omega); (case x2 => omega); (case z => with_unfolding_all rfl); k_whole); intro t'))
local macro_rules | `(tactic| walk_at "subscriptTail Name Slice ref ref") => `(tactic| (k_here; (with_reducible show wpAny _ _ (subscriptTail _ (PySem.Expr.Slice _ _ none _) (Value.ref _) (Value.ref _)) _ _ _); k_dflt (refine' slice_upto ?F ?N ?l ?p ?q ?y ?_ ?s ?t ?z; (case F => k_asm); (case N => k_asm); (case l => kmk_list); (case p => kmk_part); (case q => kmk_part); (case y => assumption); (case s => with_unfolding_all rfl); (case t => kmk_pure); (case z => (rw [PySem.sizeLine_eq]; omega)); k_whole); intro D' h' F' N' l1))
theorem expanded_ok {w : World} {mean : ExcName → Option Value} {mg mb : Str → Option Value} : PySem.Challenge.rw_xm0793_01 = PySem.Challenge.rw_xm0793_01 →
  ∀ (dp un : Nat) (gd : Option (List Code)) (cn : Str) (cs : Scope) (a : Addr) (ccd : Value) (cl : List (Str × Addr)) (outer : List Env) (A₀ : Around) (base h₀ : Heap) (L : Addr) (m : Str → Option Value) (s : Shared) (l : Addr) (vs : List Value) (xss : List (List Int)) (W : Nat) (size : Int) (tz : Tok)
    (Q E : Value → Shared → Prop),
    Below A₀ base outer h₀ → Fr h₀ L s.heap m → (hd.heap_39 w.params).In h₀ → Top hd.view_39 (looseW hd.view_39 []) mean mg mb h₀ → cs.kind = .function →
    s.heap.IsList l vs.toArray → RowsAt s.heap vs xss → (∀ xs ∈ xss, xs.length = W) → 0 < xss.length → xss.length ≤ 1000 → W ≤ 1000 → 0 ≤ size → size ≤ 2 * xss.length →
    dp + 2 < recursionLimit → un + 24 < cLine →
    EdRet h₀ L m s Q (edN xss size.toNat) →
    wpAny (model PySem.Challenge.rw_xm0793_01.row.prog w) (ktrTop dp un gd cn cs L a ccd cl outer) (call (.ref 33) [.ref l, .int size tz]) Q E s := by
  k_fill
  w_top off
  k_with_none
  intro _ dp un gd cn cs a ccd cl outer A₀ base h₀ L m s l vs xss W size tz Q E B F X T hk hl hR hx hx0 hx1 hW hz0 hz hd hu hret
  have hno : RowsNo vs xss.length := ⟨hR.length, hx1⟩
  refine wpAny_call ?_
  k_dflt (refine' code_monoC ?k1 ?k2 ?k3 ?k5 ?kA ?kF ?kK ?k6 ?k7 ?k8 ?k9 ?kB ?kD ?_ ?c2 ?c3 ?c4; (case kA => exact rfl); (case kF => exact rfl); (case kK => assumption); (case k1 => k_asm); (case k2 => k_asm); (case k3 => k_asm); (case k5 => k_asm); (case k6 => k_is); (case k7 => k_is); (case k8 => ktr_room); (case k9 => exact BindsTo.of_eq rfl); (case kB => exact rfl); (case kD => decide +kernel); (case c2 => exact rfl); (case c3 => exact rfl); (case c4 => exact rfl); k_whole; intro L' h' tk' cells' F' N' Y' B' X' T'; k_cells Y'; (try simp only [List.cons_append, List.nil_append] at N'); (try dsimp only); (try k_fold))
  clear F B X T
  k_steps
  (rename Fr _ _ _ _ => lF'; with_unfolding_all refine' For_turns lF' ?_)
  k_steps
  rename News _ _ _ _ => N9
  rename Fr _ _ _ _ => F9
  rename IsRange _ _ _ _ _ _ _ _ => R9
  refine iter_ed xss rfl R9 (small_one (by decide) (by decide) (by omega) (by omega)) (by rw [rangeSize_nat, Int.sub_zero, Int.toNat_natCast]) F9 N9 (by assumption) (by assumption) ?turn ?done
  case turn =>
    clear F9 N9 R9
    intro i us nn oK oB led vK vB t9 h9 tk9 I9 oI9 hi hB hK hus hled o1 o2 o3 n1 n2 n3 n4 o4 F9 N9
    obtain ⟨r1, u1, e1, hl1, hi1⟩ := hR.get i hi
    obtain ⟨r2, u2, e2, hl2, hi2⟩ := hR.get (min (i + 1) (xss.length - 1)) (by omega)
    have A1 : RefAt vs (i : Int) r1 := ⟨by omega, by omega, by simpa using e1⟩
    have A2 : RefAt vs (if (xss.length : Int) - 1 < (i : Int) + 1 then (xss.length : Int) - 1 else (i : Int) + 1) r2 := ⟨by split <;> omega, by split <;> omega, by
      have : (if (xss.length : Int) - 1 < (i : Int) + 1 then (xss.length : Int) - 1 else (i : Int) + 1).toNat = min (i + 1) (xss.length - 1) := by split <;> omega
      rw [this]; exact e2⟩
    have w1 : (xss.getD i []).length = W := hx _ (by rw [List.getD_eq_getElem?_getD, List.getElem?_eq_getElem hi]; exact List.getElem_mem hi)
    have w2 : (xss.getD (min (i + 1) (xss.length - 1)) []).length = W := hx _ (by
      have hm : min (i + 1) (xss.length - 1) < xss.length := by omega
      rw [List.getD_eq_getElem?_getD, List.getElem?_eq_getElem hm]; exact List.getElem_mem hm)
    generalize q1 : xss.getD i [] = x1 at hi1 w1
    generalize q2 : xss.getD (min (i + 1) (xss.length - 1)) [] = x2 at hi2 w2
    trace "I"
    k_steps
    rename News _ _ _ _ => N8
    rename Fr _ _ _ _ => F8
    exact ed_close F8 N8 (by assumption) (by assumption) hus hled o1 o2 o3 o4 n1 n2 n3 n4 (by omega) (by omega) (by omega) (by omega) (by omega) (by omega) (by omega) (by omega) hi q1 q2 w1 w2 hi1 (by assumption)
  case done =>
    clear F9 N9 R9
    intro us nn oK oB led h9 tk9 hus hled F9 N9
    k_steps
    dsimp only
    rename News _ _ _ _ => N8
    exact leaveK_ (by k_asm) N8 fun kF kN kept => ed_done N8 hled hz hret kF kN kept
end expanded
end Mine
-- part M6
namespace Mine
set_option maxHeartbeats 4000000
section pool
local macro_rules | `(tactic| k_room) => `(tactic| ktr_room)
theorem pool_ok {w : World} {mean : ExcName → Option Value} {mg mb : Str → Option Value} : PySem.Challenge.rw_xm0793_01 = PySem.Challenge.rw_xm0793_01 →
  ∀ (dp un : Nat) (gd : Option (List Code)) (cn : Str) (cs : Scope) (a : Addr) (ccd : Value) (cl : List (Str × Addr)) (outer : List Env) (A₀ : Around) (base h₀ : Heap) (L : Addr) (m : Str → Option Value) (s : Shared) (l : Addr) (vs : List Value) (ns : List Int)
    (Q E : Value → Shared → Prop),
    Below A₀ base outer h₀ → Fr h₀ L s.heap m → (hd.heap_39 w.params).In h₀ → Top hd.view_39 (looseW hd.view_39 []) mean mg mb h₀ → cs.kind = .function →
    s.heap.IsList l vs.toArray → IntsAre vs ns → ns.length < 2 ^ 62 →
    dp + 2 < recursionLimit → un + 24 < cLine →
    (∀ D x y tx ty n h' tk', Fr h₀ L h' m → News h₀ L h' [(D, two x y tx ty n)] → s.heap.get? D = none → Kept s.heap h' → Q (.ref D) { s with heap := h', toks := tk' }) →
    wpAny (model PySem.Challenge.rw_xm0793_01.row.prog w) (ktrTop dp un gd cn cs L a ccd cl outer) (call (.ref 40) [.ref l]) Q E s := by
  k_fill
  w_top off
  k_with_none
  intro _ dp un gd cn cs a ccd cl outer A₀ base h₀ L m s l vs ns Q E B F X T hk hl hi hlen hd hu hret
  refine wpAny_call ?_
  k_dflt (refine' code_mono ?k1 ?k2 ?k3 ?k5 ?kA ?kF ?kK ?k6 ?k7 ?k8 ?k9 ?kB ?_ ?c2 ?c3 ?c4 ?c5; (case kA => exact rfl); (case kF => exact rfl); (case kK => assumption); (case k1 => k_asm); (case k2 => k_asm); (case k3 => k_asm); (case k5 => k_asm); (case k6 => k_is); (case k7 => k_is); (case k8 => ktr_room); (case k9 => exact BindsTo.of_eq rfl); (case c5 => decide); (case kB => exact locs rfl); (case c2 => exact rfl); (case c3 => exact rfl); (case c4 => exact rfl); k_whole; intro L' h' F' N' B' X' T'; (try dsimp only); (try k_fold))
  clear F B X T
  k_steps
  all_goals (rename News _ _ _ _ => N9; exact leaveK_ (by k_asm) N9 fun kF kN kept => hret _ _ _ _ _ _ _ _ kF kN (N9 _ List.mem_cons_self).2.2 kept)
end pool
end Mine
-- part M7a
namespace Mine
set_option maxHeartbeats 4000000
/-- what a turn of such a comprehension leaves -/
def CellEnd (h₀ : Heap) (L : Addr) (m : Str → Option Value) (s₁ : Shared) (keep : List (Addr × Obj)) (rest : Value → List (Addr × Obj) → Prop) (y : Value) (s₂ : Shared) : Prop :=
  ∃ h' tk news', s₂ = { s₁ with heap := h', toks := tk } ∧ Fr h₀ L h' m ∧ News h₀ L h' (keep ++ news') ∧ (∀ q ∈ keep, ∀ p ∈ news', p.1 ≠ q.1) ∧ rest y news'
section
variable {prog : Program} {w : World} {A : Around} {E : Value → Shared → Prop} {s : Shared} {h₀ : Heap} {L : Addr} {m : Str → Option Value} {env : Env}
/-- the range behind a comprehension whose name is a cell, and what holds between its turns -/
def CellSrc (prog : Program) (w : World) (A : Around) (h₀ : Heap) (L : Addr) (m : Str → Option Value) (env : Env) (elt : Expr) (x : Str) (scope : Scope) (cl : List (Str × Addr)) (Q : Value → Shared → Prop) (xv : Value) (s₁ : Shared) : Prop :=
  ∃ (r : Addr) (b : Int) (t u v : Tok) (n : Nat) (news : List (Addr × Obj)) (J : Nat → List Value → List (Addr × Obj) → Prop), xv = .ref r ∧ A.handled = none ∧ Fr h₀ L s₁.heap m ∧ News h₀ L s₁.heap news ∧ IsRange s₁.heap r 0 b 1 t u v ∧
    Builtin.Range.small 0 b 1 = true ∧ Builtin.Range.rangeSize 0 b 1 = (n : Int) ∧ n ≤ sizeLine ∧ J 0 [] news ∧
    (∀ i ys nw t h tk I oI C oC cx ox D (E' : Value → Shared → Prop), i < n → J i ys nw → ox.data = .cell (some (.int (i : Int) t)) → Fr h₀ L h m → News h₀ L h ((I, oI) :: (C, oC) :: (cx, ox) :: (D, LCg.lst ys) :: nw) →
      (∀ p ∈ nw, p.1 ≠ I) → (∀ p ∈ nw, p.1 ≠ C) → (∀ p ∈ nw, p.1 ≠ cx) → (∀ p ∈ nw, p.1 ≠ D) → @Ne Nat I C → @Ne Nat I cx → @Ne Nat I D → @Ne Nat C cx → @Ne Nat C D → @Ne Nat cx D →
      wpAny (model prog w) A (eval elt (compEnvC scope ((x, cx) :: cl) C env)) (CellEnd h₀ L m { s₁ with heap := h, toks := tk } [(I, oI), (C, oC), (cx, ox), (D, LCg.lst ys)] (fun y nw' => J (i + 1) (ys ++ [y]) nw')) E' { s₁ with heap := h, toks := tk }) ∧
    (∀ ys nw D h tk, J n ys nw → Fr h₀ L h m → News h₀ L h ((D, LCg.lst ys) :: nw) → (∀ p ∈ nw, p.1 ≠ D) → Q (.ref D) { s₁ with heap := h, toks := tk })

theorem news_at {h h' : Heap} {d : Addr} {own rest : List (Addr × Obj)} {o o' : Obj} (N : News h₀ L h (own ++ (d, o) :: rest)) (h1 : ∀ p ∈ own, p.1 ≠ d) (h2 : ∀ p ∈ rest, p.1 ≠ d)
    (hk : ∀ b ob, b ≠ d → h.get? b = some ob → h'.get? b = some ob) (ho : h'.get? d = some o') : News h₀ L h' (own ++ (d, o') :: rest) := by
  have hd := N (d, o) (List.mem_append_right _ (.head _))
  intro q hq
  rcases List.mem_append.mp hq with hq | hq
  · have := N q (List.mem_append_left _ hq)
    exact ⟨hk _ _ (h1 q hq) this.1, this.2⟩
  · rcases List.mem_cons.mp hq with rfl | hq
    · exact ⟨ho, hd.2⟩
    · have := N q (List.mem_append_right _ (.tail _ hq))
      exact ⟨hk _ _ (h2 q hq) this.1, this.2⟩
theorem fr_at {h h' : Heap} {d : Addr} (F : Fr h₀ L h m) (hL : d ≠ L) (h0 : h₀.get? d = none) (hk : ∀ b ob, b ≠ d → h.get? b = some ob → h'.get? b = some ob) : Fr h₀ L h' m :=
  ⟨F.ns.at' fun o e => hk _ o (Ne.symm hL) e, fun b o e => hk b o (fun q => by rw [q, h0] at e; cases e) (F.keep b o e), F.above⟩

theorem ns_empty : LCg.NsObj { cls := .type "dict", data := .dict #[] } (fun _ => none) := ⟨#[], 0, rfl, fun _ he => by simp at he, fun _ => rfl⟩

theorem comp_loop_cell {R : Result → Shared → Prop} {elt iter : Expr} {x : Str} {px pos : Pos} {scope : Scope} {cl : List (Str × Addr)} {I C cx D : Addr} {oC : Obj} {n : Nat} {mC : Str → Option Value}
    (J : Nat → List Value → List (Addr × Obj) → Prop) (hh : A.handled = none) (hkind : scope.kind = .function) (hx : (relabel scope env).names.lookup x = some .cell) (hsz : n ≤ sizeLine) (hC : LCg.NsObj oC mC)
    (n1 : @Ne Nat I C) (n2 : @Ne Nat I cx) (n3 : @Ne Nat I D) (n4 : @Ne Nat C cx) (n5 : @Ne Nat C D) (n6 : @Ne Nat cx D)
    (turn : ∀ i ys nw t h tk oI ox (E' : Value → Shared → Prop), i < n → J i ys nw → ox.data = .cell (some (.int (i : Int) t)) → Fr h₀ L h m → News h₀ L h ((I, oI) :: (C, oC) :: (cx, ox) :: (D, LCg.lst ys) :: nw) →
      (∀ p ∈ nw, p.1 ≠ I) → (∀ p ∈ nw, p.1 ≠ C) → (∀ p ∈ nw, p.1 ≠ cx) → (∀ p ∈ nw, p.1 ≠ D) →
      wpAny (model prog w) A (eval elt (compEnvC scope ((x, cx) :: cl) C env)) (CellEnd h₀ L m { s with heap := h, toks := tk } [(I, oI), (C, oC), (cx, ox), (D, LCg.lst ys)] (fun y nw' => J (i + 1) (ys ++ [y]) nw')) E' { s with heap := h, toks := tk })
    (fin : ∀ ys nw h tk, J n ys nw → Fr h₀ L h m → News h₀ L h ((C, oC) :: (D, LCg.lst ys) :: nw) → (∀ p ∈ nw, p.1 ≠ C) → (∀ p ∈ nw, p.1 ≠ D) → R (.ok .next) { s with heap := h, toks := tk })
    (nw : List (Addr × Obj)) (ox : Obj) (vx : Option Value) (h : Heap) (tk : Nat) (j0 : J 0 [] nw) (hox : ox.data = .cell vx) (F : Fr h₀ L h m)
    (N : News h₀ L h ((I, { cls := .type "range_iterator", data := .fields #[rawInt 0, rawInt (n : Int), rawInt 1] }) :: (C, oC) :: (cx, ox) :: (D, LCg.lst []) :: nw))
    (o1 : ∀ p ∈ nw, p.1 ≠ I) (o2 : ∀ p ∈ nw, p.1 ≠ C) (o3 : ∀ p ∈ nw, p.1 ≠ cx) (o4 : ∀ p ∈ nw, p.1 ≠ D) :
    codeAny (model prog w) A (.compLoop (.ListComp elt [⟨.Name x px, iter, [], 0⟩] scope pos) 0 (.ref I) (.ref D) (compEnvC scope ((x, cx) :: cl) C env)) R { s with heap := h, toks := tk } := by
  have W := LCg.range_walks (prog := prog) (w := w) (A := A) (I := I) hh 0 n
  refine codeAny_compLoop_tests
    (fun k s' => ∃ h' tk' i ys ox vx nw', s' = { s with heap := h', toks := tk' } ∧ i ≤ n ∧ k = n + 1 - i ∧ ys.length = i ∧ ox.data = .cell vx ∧ IsRangeIter h' I (0 + (i : Nat) * 1) ((n : Int) - (i : Nat)) 1 ∧ Fr h₀ L h' m ∧
      News h₀ L h' ((C, oC) :: (cx, ox) :: (D, LCg.lst ys) :: nw') ∧ J i ys nw' ∧ (∀ p ∈ nw', p.1 ≠ I) ∧ (∀ p ∈ nw', p.1 ≠ C) ∧ (∀ p ∈ nw', p.1 ≠ cx) ∧ (∀ p ∈ nw', p.1 ≠ D)) ?_ (n + 1)
    ⟨h, tk, 0, [], ox, vx, nw, rfl, Nat.zero_le _, rfl, rfl, hox, by simpa using (N _ List.mem_cons_self).1, F, fun p hp => N p (List.mem_cons_of_mem _ hp), j0, o1, o2, o3, o4⟩
  have hI := N _ List.mem_cons_self
  rintro k s' ⟨h', tk', i, ys, ox, vx, nw', rfl, hi, rfl, hyl, hox, hst, F', N', hJ, o1, o2, o3, o4⟩
  have offI : ∀ p ∈ (C, oC) :: (cx, ox) :: (D, LCg.lst ys) :: nw', p.1 ≠ I := fun p hp => by
    rcases List.mem_cons.mp hp with rfl | hp
    · exact Ne.symm n1
    rcases List.mem_cons.mp hp with rfl | hp
    · exact Ne.symm n2
    rcases List.mem_cons.mp hp with rfl | hp
    · exact Ne.symm n3
    exact o1 p hp
  by_cases hlt : i < n
  · refine W.item i _ _ _ hlt hst fun v h₁ tk₁ hv hst₁ hk₁ => ?_
    obtain ⟨t, rfl⟩ := hv
    have hk₁' : ∀ b o, b ≠ I → h'.get? b = some o → h₁.get? b = some o := fun b o hb e => hk₁ b o (by simpa using hb) e
    have F₁ : Fr h₀ L h₁ m := fr_at F' hI.2.1 hI.2.2 hk₁'
    have N₁ : News h₀ L h₁ ((C, oC) :: (cx, ox) :: (D, LCg.lst ys) :: nw') := fun p hp => ⟨hk₁' _ _ (offI p hp) (N' p hp).1, (N' p hp).2⟩
    have hcx := N₁ (cx, ox) (by simp)
    refine wpAny_assign_Name (wpAny_storeName_cell (c := cx) (v₀ := vx) hkind hx (by show ((x, cx) :: cl).lookup x = some cx; simp) ⟨ox, hcx.1, hox⟩ fun h₂ hv₂ hs₂ => ?_)
    refine wpAny_tests_nil ?_
    simp only [if_true]
    obtain ⟨ox₂, hox₂, hd₂⟩ := hv₂
    have F₂ : Fr h₀ L h₂ m := fr_at F₁ hcx.2.1 hcx.2.2 fun b ob hb e => hs₂.extBut b ob hb e
    have N₂ : News h₀ L h₂ ((C, oC) :: (cx, ox₂) :: (D, LCg.lst ys) :: nw') := news_at (own := [(C, oC)]) N₁ (fun p hp => by rw [List.mem_singleton.mp hp]; exact n4) (fun p hp => by
      rcases List.mem_cons.mp hp with rfl | hp
      · exact Ne.symm n6
      · exact o3 p hp) (fun b ob hb e => hs₂.extBut b ob hb e) hox₂
    have hst₂ : h₂.get? I = some _ := hs₂.extBut I _ n2 hst₁
    have N₃ := (fun p hp => by
      rcases List.mem_cons.mp hp with rfl | hp
      · exact ⟨hst₂, hI.2.1, hI.2.2⟩
      · exact N₂ p hp : News h₀ L h₂ ((I, { cls := .type "range_iterator", dict := none, data := .fields #[rawInt (0 + ((i + 1 : Nat) : Int) * 1), rawInt ((n : Int) - ((i + 1 : Nat) : Int)), rawInt 1], slots := #[] }) :: (C, oC) :: (cx, ox₂) :: (D, LCg.lst ys) :: nw'))
    refine wpAny_mono (turn i ys nw' t h₂ tk₁ _ ox₂ _ hlt hJ (by rw [hd₂, Int.zero_add]) F₂ N₃ o1 o2 o3 o4) (fun y s₄ h₄ => ?_) fun _ _ e => e
    obtain ⟨h₄, tk₄, nw₄, rfl, F₄, N₄, off₄, hJ₄⟩ := h₄
    have zD := N₄ (D, LCg.lst ys) (by simp)
    refine append_at (hsz := by show ys.toArray.size ≤ sizeLine; rw [List.size_toArray, hyl]; exact Nat.le_trans hi hsz) zD.1 fun h₅ hs₅ hD₅ => ?_
    have hk₅ : ∀ b ob, b ≠ D → h₄.get? b = some ob → h₅.get? b = some ob := fun b ob hb e => hs₅.extBut b ob hb e
    refine ⟨n + 1 - (i + 1), by omega, h₅, tk₄, i + 1, ys ++ [y], ox₂, _, nw₄, rfl, hlt, rfl, by rw [List.length_append, List.length_singleton, hyl], hd₂, ?_, fr_at F₄ zD.2.1 zD.2.2 hk₅, ?_, hJ₄, off₄ _ List.mem_cons_self, off₄ (C, oC) (by simp), off₄ (cx, ox₂) (by simp), off₄ (D, LCg.lst ys) (by simp)⟩
    · exact hk₅ I _ n3 (N₄ _ List.mem_cons_self).1
    · have N₄' : News h₀ L h₄ ([(C, oC), (cx, ox₂)] ++ (D, LCg.lst ys) :: nw₄) := fun p hp => N₄ p (List.mem_cons_of_mem _ (by simpa using hp))
      refine news_at N₄' (fun p hp => ?_) (off₄ (D, LCg.lst ys) (by simp)) hk₅ (hD₅.trans (congrArg some (LCg.lst_snoc ys y)))
      rcases List.mem_cons.mp hp with rfl | hp
      · exact n5
      · rw [List.mem_singleton.mp hp]; exact n6
  · obtain rfl : i = n := Nat.le_antisymm hi (Nat.not_lt.mp hlt)
    refine W.done _ _ _ hst fun h₁ tk₁ hk₁ => ?_
    have hk₁' : ∀ b o, b ≠ I → h'.get? b = some o → h₁.get? b = some o := fun b o hb e => hk₁ b o (by simpa using hb) e
    refine fin ys nw' h₁ tk₁ hJ (fr_at F' hI.2.1 hI.2.2 hk₁') (fun p hp => ?_) o2 o4
    have hp' : p ∈ (C, oC) :: (cx, ox) :: (D, LCg.lst ys) :: nw' := by
      simp only [List.mem_cons] at hp ⊢
      rcases hp with h | h | h <;> simp [h]
    exact ⟨hk₁' _ _ (offI p hp') (N' p hp').1, (N' p hp').2⟩

theorem ListComp_cellR {elt iter : Expr} {x : Str} {px pos : Pos} {scope : Scope} {cl : List (Str × Addr)} {Q : Value → Shared → Prop} (_F₀ : Fr h₀ L s.heap m)
    (hclos : closureFor scope env = pure cl) (hcells : ∀ (n : Nat) (acc : List (Str × Addr)), cellsFrom n scope.names acc = (x, n) :: acc) (hpush : ∀ h : Heap, pushCells h scope.names = h.push { cls := .type "cell", data := .cell none }) (hkind : scope.kind = .function)
    (hnames : ∀ y ∈ scope.names, y.2 = .local → scope.names.lookup y.1 = some .local) (hx : (relabel scope env).names.lookup x = some .cell)
    (h : wpAny (model prog w) A (eval iter env) (CellSrc prog w A h₀ L m env elt x scope cl Q) E s)
    (hs : ∀ x, foldedSetIterable iter env x = pure x := by intro _; rfl) :
    wpAny (model prog w) A (eval (.ListComp elt [⟨.Name x px, iter, [], 0⟩] scope pos) env) Q E s := by
  rw [eval_ListComp]
  refine wpAny_comprehension_free (use := none) rfl hs hclos hkind hnames (wpAny_mono h (fun xv s₁ h₁ => ?_) fun _ _ e => e)
  obtain ⟨r, b, t, u, v, n, news, J, rfl, hh, F, N, hr, hsm, hn, hsz, j0, turn, fin⟩ := h₁
  refine wpAny_pyIter_range hr hsm ?_
  refine wpAny_newObj_type ?_
  simp only [newFunctionEnv, Option.isSome_some, if_true]
  refine wpAny_bind (wpAny_alloc ?_)
  refine wpAny_bind (wpAny_layCells _ (fun name kind cells => by cases kind == NameKind.cell <;> simp) _ _ _ _ ?_)
  rw [hcells, hpush, List.forIn_nil, hn]
  have F1 := F.push { cls := .type "range_iterator", data := .fields #[rawInt 0, rawInt (n : Int), rawInt 1] }
  have N1 := N.push F { cls := .type "range_iterator", data := .fields #[rawInt 0, rawInt (n : Int), rawInt 1] }
  have F2 := F1.push (LCg.lst [])
  have N2 := N1.push F1 (LCg.lst [])
  have F3 := F2.push { cls := .type "dict", data := .dict #[] }
  have N3 := N2.push F2 { cls := .type "dict", data := .dict #[] }
  have F4 := F3.push { cls := .type "cell", data := .cell none }
  have N4 := N3.push F3 { cls := .type "cell", data := .cell none }
  have lt : ∀ p ∈ news, p.1 < s₁.heap.objs.size := fun p hp => Heap.lt_size (N p hp).1
  generalize hH1 : s₁.heap.push { cls := .type "range_iterator", data := .fields #[rawInt 0, rawInt (n : Int), rawInt 1] } = H1 at F1 N1 F2 N2 F3 N3 F4 N4 ⊢
  have e1 : H1.objs.size = s₁.heap.objs.size + 1 := by rw [← hH1, Heap.size_push]
  have e2 : (H1.push (LCg.lst [])).objs.size = H1.objs.size + 1 := Heap.size_push ..
  have e3 : ((H1.push (LCg.lst [])).push { cls := .type "dict", data := .dict #[] }).objs.size = (H1.push (LCg.lst [])).objs.size + 1 := Heap.size_push ..
  refine wpAny_bind (wpAny_pure (wpAny_pure ?_))
  have loop : ∀ tk, codeAny (model prog w) A (.compLoop (.ListComp elt [⟨.Name x px, iter, [], 0⟩] scope pos) 0 (.ref s₁.heap.objs.size) (.ref H1.objs.size) (compEnvC scope ((x, ((H1.push (LCg.lst [])).push { cls := .type "dict", data := .dict #[] }).objs.size) :: cl) (H1.push (LCg.lst [])).objs.size env))
      (compPost (model prog w) A E none Q (.ref H1.objs.size) (H1.push (LCg.lst [])).objs.size) { s₁ with heap := ((H1.push (LCg.lst [])).push { cls := .type "dict", data := .dict #[] }).push { cls := .type "cell", data := .cell none }, toks := tk } := by
    intro tk
    refine comp_loop_cell (nw := news) (ox := { cls := .type "cell", data := .cell none }) (vx := none) J hh hkind hx hsz ns_empty (by omega) (by omega) (by omega) (by omega) (by omega) (by omega)
      (fun i ys nw t h tk oI ox E' hi hJ hox F N o1 o2 o3 o4 => turn i ys nw t h tk _ oI _ _ _ ox _ E' hi hJ hox F N o1 o2 o3 o4 (by omega) (by omega) (by omega) (by omega) (by omega) (by omega)) ?_ _ tk j0 rfl F4 (fun p hp => N4 p ?_)
      (fun p hp => Nat.ne_of_lt (lt p hp)) (fun p hp => Nat.ne_of_lt (Nat.lt_trans (lt p hp) (by omega))) (fun p hp => Nat.ne_of_lt (Nat.lt_trans (lt p hp) (by omega))) (fun p hp => Nat.ne_of_lt (Nat.lt_trans (lt p hp) (by omega)))
    · intro ys nw h tk hJ F' N' o2 o4
      have hC := N' _ List.mem_cons_self
      refine ⟨_, ns_empty.ns hC.1, fun h' hs' => fin ys nw _ h' tk hJ (fr_at F' hC.2.1 hC.2.2 fun b ob hb e => hs'.extBut b ob hb e) (fun p hp => ?_) o4⟩
      have z := N' p (List.mem_cons_of_mem _ hp)
      refine ⟨hs'.extBut _ _ ?_ z.1, z.2⟩
      rcases List.mem_cons.mp hp with rfl | hp
      · exact Nat.ne_of_lt (by rw [e2]; exact Nat.lt_succ_self _)
      · exact o2 p hp
    · simp only [List.mem_cons] at hp ⊢
      rcases hp with h | h | h | h | h <;> simp [h]
  refine codeAny_compStart_list (loop _) ?_
  refine (LCg.range_walks (prog := prog) (w := w) (A := A) hh 0 n).self 0 _ _ _ ?_ (loop _)
  have z := (N4 (s₁.heap.objs.size, { cls := .type "range_iterator", data := .fields #[rawInt 0, rawInt (n : Int), rawInt 1] }) (by simp)).1
  have q0 : (0 : Int) + ((0 : Nat) : Int) * 1 = 0 := rfl
  have q1 : (n : Int) - ((0 : Nat) : Int) = n := Int.sub_zero _
  show Heap.get? _ _ = some { cls := .type "range_iterator", dict := none, data := .fields #[rawInt ((0 : Int) + ((0 : Nat) : Int) * 1), rawInt ((n : Int) - ((0 : Nat) : Int)), rawInt 1], slots := #[] }
  rw [q0, q1]
  exact z
end
end Mine
-- part M7b
namespace Mine
set_option maxHeartbeats 4000000
theorem off1_of {D : Addr} : ∀ {l : List (Addr × Obj)}, (∀ p ∈ l, p.1 ≠ D) → LCg.Off1 D l
  | [], _ => trivial
  | _ :: _, h => ⟨h _ List.mem_cons_self, off1_of fun p hp => h p (List.mem_cons_of_mem _ hp)⟩
theorem off1_mem {D : Addr} : ∀ {l : List (Addr × Obj)}, LCg.Off1 D l → ∀ p ∈ l, p.1 ≠ D
  | [], _, _, h => nomatch h
  | _ :: _, x, p, h => by
    rcases List.mem_cons.mp h with rfl | h
    · exact x.1
    · exact off1_mem x.2 p h
theorem news_on {h₀ h h' : Heap} {L : Addr} {news own : List (Addr × Obj)} (N : News h₀ L h news) (k : Kept h h') (N' : News h₀ L h' own) : News h₀ L h' (own ++ news) := fun p hp => by
  rcases List.mem_append.mp hp with hp | hp
  · exact N' p hp
  · exact ⟨k _ _ (N p hp).1, (N p hp).2⟩
theorem new_off {h₀ h : Heap} {L D : Addr} {news : List (Addr × Obj)} (N : News h₀ L h news) (hD : h.get? D = none) : ∀ p ∈ news, p.1 ≠ D := fun p hp e => by
  have := (N p hp).1
  rw [e, hD] at this
  cases this
/-- the things of a tail stand at none of these places -/
structure OffL (led : List (Addr × Obj)) (adr : List Addr) : Prop where
  off : ∀ p ∈ led, ∀ b ∈ adr, p.1 ≠ b
theorem OffL.use {led : List (Addr × Obj)} {adr : List Addr} {b : Addr} (h : OffL led adr) (hb : b ∈ adr) : ∀ p ∈ led, p.1 ≠ b := fun p hp => h.off p hp b hb
theorem upd_same {d : Addr} {o : Obj} {l l' : List (Addr × Obj)} (U : Upd d o o l l') : l' = l := by
  obtain ⟨pre, post, rfl, rfl, _, _⟩ := U.split
  rfl
theorem upd_adr {d : Addr} {o o' : Obj} {l l' : List (Addr × Obj)} (U : Upd d o o' l l') : l'.map (·.1) = l.map (·.1) := by
  obtain ⟨pre, post, rfl, rfl, _, _⟩ := U.split
  simp
theorem off3_adr {I C D : Addr} {l l' : List (Addr × Obj)} (h : l'.map (·.1) = l.map (·.1)) (x : LCg.Off3 I C D l) : LCg.Off3 I C D l' := LCg.Off3.of fun p hp => by
  have hm : p.1 ∈ l.map (·.1) := by rw [← h]; exact List.mem_map.mpr ⟨p, hp, rfl⟩
  obtain ⟨q, hq, e⟩ := List.mem_map.mp hm
  rw [← e]
  exact x.mem q hq

section
variable {w : World} {mean : ExcName → Option Value} {mg mb : Str → Option Value}
    {dp un : Nat} {gd : Option (List Code)} {cn : Str} {cs : Scope} {a : Addr} {ccd : Value} {cl : List (Str × Addr)} {outer : List Env} {A₀ : Around} {base h₀ : Heap} {L : Addr} {m : Str → Option Value} {news : List (Addr × Obj)} {s : Shared}
    {Q E : Value → Shared → Prop} {l : Addr} {vs : List Value} {xs : List Int} {size : Int} {tz : Tok}
theorem twice_call (B : Below A₀ base outer h₀) (F : Fr h₀ L s.heap m) (X : (hd.heap_39 w.params).In h₀) (N : News h₀ L s.heap news) (T : Top hd.view_39 (looseW hd.view_39 []) mean mg mb h₀) (hk : cs.kind = .function)
    (hl : s.heap.IsList l vs.toArray) (hi : IntsAre vs xs) (hx : 0 < xs.length) (hx1 : xs.length ≤ 1000) (h0 : 0 ≤ size) (h1 : size ≤ 2 * xs.length) (hd : dp + 2 < recursionLimit) (hu : un + 24 < cLine)
    (hret : ∀ D us n' h' tk', Fr h₀ L h' m → News h₀ L h' ((D, listOf (List.toArray us) n') :: news) → LCg.Off1 D news → IntsAre us (twN xs size.toNat) → Q (.ref D) { s with heap := h', toks := tk' }) :
    wpAny (model PySem.Challenge.rw_xm0793_01.row.prog w) (ktrTop dp un gd cn cs L a ccd cl outer) (call (.ref 28) [.ref l, .int size tz]) Q E s :=
  twice_ok rfl dp un gd cn cs a ccd cl outer A₀ base h₀ L m s l vs xs size tz Q E B F X T hk hl hi hx hx1 h0 h1 hd hu
    fun D us n' h' tk' F' N' hD hi' kept => hret D us n' h' tk' F' (news_on N kept N') (off1_of (new_off N hD)) hi'
theorem law_twice_call (B : Below A₀ base outer h₀) (F : Fr h₀ L s.heap m) (X : (hd.heap_39 w.params).In h₀) (N : News h₀ L s.heap news) (T : Top hd.view_39 (looseW hd.view_39 []) mean mg mb h₀) (hk : cs.kind = .function)
    (hl : s.heap.IsList l vs.toArray) (hi : IntsAre vs xs) (hx : 0 < xs.length) (hx1 : xs.length ≤ 1000) (h0 : 0 ≤ size) (h1 : size ≤ 2 * xs.length) (hd : dp + 2 < recursionLimit) (hu : un + 24 < cLine)
    (hret : ∀ D us n' h' tk', Fr h₀ L h' m → News h₀ L h' ((D, listOf (List.toArray us) n') :: news) → LCg.Off1 D news → IntsAre us (twN xs size.toNat) → Q (.ref D) { s with heap := h', toks := tk' }) :
    wpAny (model PySem.Challenge.rw_xm0793_01.row.prog w) (ktrTop dp un gd cn cs L a ccd cl outer) (call (.ref 59) [.ref l, .int size tz]) Q E s :=
  law_twice_ok rfl dp un gd cn cs a ccd cl outer A₀ base h₀ L m s l vs xs size tz Q E B F X T hk hl hi hx hx1 h0 h1 hd hu
    fun D us n' h' tk' F' N' hD hi' kept => hret D us n' h' tk' F' (news_on N kept N') (off1_of (new_off N hD)) hi'
theorem pool_call (B : Below A₀ base outer h₀) (F : Fr h₀ L s.heap m) (X : (hd.heap_39 w.params).In h₀) (N : News h₀ L s.heap news) (T : Top hd.view_39 (looseW hd.view_39 []) mean mg mb h₀) (hk : cs.kind = .function)
    (hl : h₀.IsList l vs.toArray) (hi : IntsAre vs xs) (hx : xs.length < 2 ^ 62) (hd : dp + 2 < recursionLimit) (hu : un + 24 < cLine)
    (hret : ∀ D x y tx ty n' h' tk', Fr h₀ L h' m → News h₀ L h' ((D, two x y tx ty n') :: news) → LCg.Off1 D news → Q (.ref D) { s with heap := h', toks := tk' }) :
    wpAny (model PySem.Challenge.rw_xm0793_01.row.prog w) (ktrTop dp un gd cn cs L a ccd cl outer) (call (.ref 40) [.ref l]) Q E s :=
  pool_ok rfl dp un gd cn cs a ccd cl outer A₀ base h₀ L m s l vs xs Q E B F X T hk (hl.at fun _ e => F.keep _ _ e) hi hx hd hu
    fun D x y tx ty n' h' tk' F' N' hD kept => hret D x y tx ty n' h' tk' F' (news_on N kept N') (off1_of (new_off N hD))
theorem RowsLed.at {h : Heap} {led : List (Addr × Obj)} {vs : List Value} {xss : List (List Int)} (R : RowsLed led vs xss) (N : News h₀ L h led) : RowsAt h vs xss := by
  induction R with
  | nil => exact .nil
  | cons hm hi _ ih => exact .cons ⟨_, (N _ hm).1, rfl, _, rfl⟩ hi ih
theorem expanded_call {xss : List (List Int)} {W : Nat} {led : List (Addr × Obj)} (B : Below A₀ base outer h₀) (F : Fr h₀ L s.heap m) (X : (hd.heap_39 w.params).In h₀) (N : News h₀ L s.heap news) (T : Top hd.view_39 (looseW hd.view_39 []) mean mg mb h₀) (hk : cs.kind = .function)
    (hl : s.heap.IsList l vs.toArray) (hR : RowsLed led vs xss) (sub : ∀ p ∈ led, p ∈ news) (hW : ∀ xs ∈ xss, xs.length = W) (hx : 0 < xss.length) (hx1 : xss.length ≤ 1000) (hW1 : W ≤ 1000) (h0 : 0 ≤ size) (h1 : size ≤ 2 * xss.length) (hd : dp + 2 < recursionLimit) (hu : un + 24 < cLine)
    (hret : ∀ D us n' led' h' tk', Fr h₀ L h' m → News h₀ L h' ((D, listOf (List.toArray us) n') :: (led' ++ news)) → RowsLed led' us (edN xss size.toNat) → (∀ p ∈ news, p.1 ≠ D) → (∀ p ∈ led', ∀ q ∈ news, q.1 ≠ p.1) → Q (.ref D) { s with heap := h', toks := tk' }) :
    wpAny (model PySem.Challenge.rw_xm0793_01.row.prog w) (ktrTop dp un gd cn cs L a ccd cl outer) (call (.ref 33) [.ref l, .int size tz]) Q E s :=
  expanded_ok rfl dp un gd cn cs a ccd cl outer A₀ base h₀ L m s l vs xss W size tz Q E B F X T hk hl (hR.at (cb_drop N sub)) hW hx hx1 hW1 h0 h1 hd hu
    fun D us n' led' h' tk' F' N' hR' kept fresh => hret D us n' led' h' tk' F' (news_on N kept N') hR' (new_off N (fresh _ List.mem_cons_self)) fun p hp => new_off N (fresh _ (List.mem_cons_of_mem _ hp))
end

section
variable {prog : Program} {w : World} {A : Around} {E : Value → Shared → Prop} {s : Shared} {h₀ : Heap} {L : Addr} {m : Str → Option Value} {env : Env} {elt : Expr} {xn : Str} {scope : Scope} {cl : List (Str × Addr)} {P : Nat → Value → Prop} {Fin : List Value → List (Addr × Obj) → Prop}
/-- a turn's end: an int, the pool turned -/
def SmpPost (h₀ : Heap) (L : Addr) (m : Str → Option Value) (s : Shared) (news' : Obj → List (Addr × Obj)) (I : Addr) (oI : Obj) (C : Addr) (oC : Obj) (D : Addr) (ys : List Value) (v : Value) (s₂ : Shared) : Prop :=
  ∃ z t x y tx ty nn h' tk', v = .int z t ∧ s₂ = { s with heap := h', toks := tk' } ∧ Fr h₀ L h' m ∧ News h₀ L h' ((I, oI) :: (C, oC) :: (D, LCg.lst ys) :: news' (two x y tx ty nn))
theorem comp_sample {n : Nat} {S : Addr} {x₀ y₀ : Int} {tx₀ ty₀ : Tok} {n₀ : Nat} {news : List (Addr × Obj)} {news' : Obj → List (Addr × Obj)} (U : ∀ o', Upd S (two x₀ y₀ tx₀ ty₀ n₀) o' news (news' o'))
    (turn : ∀ ys v I oI C oC D m₂ x y tx ty nn h tk (E' : Value → Shared → Prop), LCg.NsObj oC m₂ → m₂ xn = some v → Fr h₀ L h m → News h₀ L h ((I, oI) :: (C, oC) :: (D, LCg.lst ys) :: news' (two x y tx ty nn)) → LCg.Off3 I C D (news' (two x y tx ty nn)) →
      ((@Ne Nat I C) ∧ (@Ne Nat I D) ∧ (@Ne Nat C D)) → wpAny (model prog w) A (eval elt (compEnvC scope cl C env)) (SmpPost h₀ L m { s with heap := h, toks := tk } news' I oI C oC D ys) E' { s with heap := h, toks := tk })
    (fin : ∀ ys zs x y tx ty nn, IntsAre ys zs → zs.length = n → Fin ys (news' (two x y tx ty nn))) : LCg.CompRest prog w A h₀ L m env elt xn scope cl s (fun _ => True) P Fin n 0 [] news := by
  have key : ∀ (j i : Nat) (ys : List Value) (zs : List Int) (x y : Int) (tx ty : Tok) (nn : Nat), i + j = n → IntsAre ys zs → zs.length = i → LCg.CompRest prog w A h₀ L m env elt xn scope cl s (fun _ => True) P Fin j i ys (news' (two x y tx ty nn)) := by
    intro j
    induction j with
    | zero => intro i ys zs x y tx ty nn hi hy hz; exact LCg.CompRest.zero (fin ys zs x y tx ty nn hy (by omega))
    | succ j ih =>
      intro i ys zs x y tx ty nn hi hy hz
      refine LCg.CompRest.succ fun v I oI C oC D m₂ h tk E' _ hC hx F N off ne => ?_
      refine wpAny_mono (turn ys v I oI C oC D m₂ x y tx ty nn h tk E' hC hx F N off ne) (fun y' s₂ hq => ?_) fun _ _ e => e
      obtain ⟨z, t, x', y'', tx', ty', nn', h', tk', rfl, e, F', N'⟩ := hq
      refine ⟨h', tk', _, e, F', N', off3_adr ((upd_adr (U _)).trans (upd_adr (U _)).symm) off, trivial, ?_⟩
      exact ih (i + 1) _ (zs ++ [z]) _ _ _ _ _ (by omega) (IntsAre.append hy (.cons z t .nil)) (by rw [List.length_append, List.length_singleton, hz])
  have := key n 0 [] [] x₀ y₀ tx₀ ty₀ n₀ (by omega) .nil rfl
  rwa [upd_same (U _)] at this
/-- a turn's end: a new row, the pool turned -/
def RowPost (h₀ : Heap) (L : Addr) (m : Str → Option Value) (s : Shared) (news led : List (Addr × Obj)) (news' : Obj → List (Addr × Obj)) (W : Nat) (I : Addr) (oI : Obj) (C : Addr) (oC : Obj) (D : Addr) (ys : List Value) (v : Value) (s₂ : Shared) : Prop :=
  ∃ r us xs x y tx ty nn h' tk', v = .ref r ∧ s₂ = { s with heap := h', toks := tk' } ∧ Fr h₀ L h' m ∧ News h₀ L h' ((r, LCg.lst us) :: (I, oI) :: (C, oC) :: (D, LCg.lst ys) :: (news' (two x y tx ty nn) ++ led)) ∧ IntsAre us xs ∧ xs.length = W ∧
    LCg.Off1 r ((I, oI) :: (C, oC) :: (D, LCg.lst ys) :: (news' (two x y tx ty nn) ++ led))
theorem comp_rows {n W : Nat} {S : Addr} {x₀ y₀ : Int} {tx₀ ty₀ : Tok} {n₀ : Nat} {news : List (Addr × Obj)} {news' : Obj → List (Addr × Obj)} (U : ∀ o', Upd S (two x₀ y₀ tx₀ ty₀ n₀) o' news (news' o'))
    (turn : ∀ ys xss led v I oI C oC D m₂ x y tx ty nn h tk (E' : Value → Shared → Prop), LCg.NsObj oC m₂ → m₂ xn = some v → Fr h₀ L h m → News h₀ L h ((I, oI) :: (C, oC) :: (D, LCg.lst ys) :: (news' (two x y tx ty nn) ++ led)) → LCg.Off3 I C D (news' (two x y tx ty nn) ++ led) →
      ((@Ne Nat I C) ∧ (@Ne Nat I D) ∧ (@Ne Nat C D)) → RowsLed led ys xss → OffL led (news.map (·.1)) → wpAny (model prog w) A (eval elt (compEnvC scope cl C env)) (RowPost h₀ L m { s with heap := h, toks := tk } news led news' W I oI C oC D ys) E' { s with heap := h, toks := tk })
    (fin : ∀ ys xss led x y tx ty nn, RowsLed led ys xss → xss.length = n → (∀ xs ∈ xss, xs.length = W) → OffL led (news.map (·.1)) → Fin ys (news' (two x y tx ty nn) ++ led)) : LCg.CompRest prog w A h₀ L m env elt xn scope cl s (fun _ => True) P Fin n 0 [] news := by
  have key : ∀ (j i : Nat) (ys : List Value) (xss : List (List Int)) (led : List (Addr × Obj)) (x y : Int) (tx ty : Tok) (nn : Nat), i + j = n → RowsLed led ys xss → xss.length = i → (∀ xs ∈ xss, xs.length = W) → OffL led (news.map (·.1)) → LCg.CompRest prog w A h₀ L m env elt xn scope cl s (fun _ => True) P Fin j i ys (news' (two x y tx ty nn) ++ led) := by
    intro j
    induction j with
    | zero => intro i ys xss led x y tx ty nn hi hy hz hW hO; exact LCg.CompRest.zero (fin ys xss led x y tx ty nn hy (by omega) hW hO)
    | succ j ih =>
      intro i ys xss led x y tx ty nn hi hy hz hW hO
      refine LCg.CompRest.succ fun v I oI C oC D m₂ h tk E' _ hC hx F N off ne => ?_
      refine wpAny_mono (turn ys xss led v I oI C oC D m₂ x y tx ty nn h tk E' hC hx F N off ne hy hO) (fun y' s₂ hq => ?_) fun _ _ e => e
      obtain ⟨r, us, xs, x', y'', tx', ty', nn', h', tk', rfl, e, F', N', hi', hW', o1⟩ := hq
      have o1' := off1_mem o1
      have sub : ∀ p ∈ (I, oI) :: (C, oC) :: (D, LCg.lst ys) :: (news' (two x' y'' tx' ty' nn') ++ ((r, LCg.lst us) :: led)), p ∈ (r, LCg.lst us) :: (I, oI) :: (C, oC) :: (D, LCg.lst ys) :: (news' (two x' y'' tx' ty' nn') ++ led) := fun p hp => by
        simp only [List.mem_cons, List.mem_append] at hp ⊢
        rcases hp with h | h | h | h | h | h <;> simp [h]
      refine ⟨h', tk', news' (two x' y'' tx' ty' nn') ++ ((r, LCg.lst us) :: led), e, F', cb_drop N' sub, LCg.Off3.of fun p hp => ?_, trivial, ?_⟩
      · rcases List.mem_append.mp hp with hp | hp
        · have hm : p.1 ∈ (news' (two x y tx ty nn)).map (·.1) := by rw [upd_adr (U _), ← upd_adr (U (two x' y'' tx' ty' nn'))]; exact List.mem_map.mpr ⟨p, hp, rfl⟩
          obtain ⟨q, hq, e⟩ := List.mem_map.mp hm
          rw [← e]
          exact off.mem q (List.mem_append_left _ hq)
        · rcases List.mem_cons.mp hp with rfl | hp
          · exact ⟨Ne.symm (o1' (I, oI) (by simp)), Ne.symm (o1' (C, oC) (by simp)), Ne.symm (o1' (D, LCg.lst ys) (by simp))⟩
          · exact off.mem p (List.mem_append_right _ hp)
      · refine ih (i + 1) _ (xss ++ [xs]) ((r, LCg.lst us) :: led) _ _ _ _ _ (by omega) ((hy.mono fun p hp => List.mem_cons_of_mem _ hp).snoc List.mem_cons_self hi') (by rw [List.length_append, List.length_singleton, hz]) (fun z hz => ?_) ⟨fun p hp b hb => ?_⟩
        · rcases List.mem_append.mp hz with hz | hz
          · exact hW z hz
          · rw [List.mem_singleton.mp hz]; exact hW'
        · rcases List.mem_cons.mp hp with rfl | hp
          · rw [← upd_adr (U (two x' y'' tx' ty' nn'))] at hb
            obtain ⟨q, hq, rfl⟩ := List.mem_map.mp hb
            exact Ne.symm (o1' q (by simp [hq]))
          · exact hO.off p hp b hb
  have := key n 0 [] [] [] x₀ y₀ tx₀ ty₀ n₀ (by omega) .nil rfl (fun _ h => absurd h List.not_mem_nil) ⟨fun _ h => absurd h List.not_mem_nil⟩
  rwa [upd_same (U _), List.append_nil] at this
end
end Mine
-- part M7c
namespace Mine
set_option maxHeartbeats 4000000
abbrev rowD (xs : List Int) : PyData := .list (xs.map PyData.int)
theorem reads_rows {h : Heap} {us : List Value} {xss : List (List Int)} (R : RowsAt h us xss) : ∃ as, ReadsAll h us (xss.map rowD) as := by
  induction R with
  | nil => exact ⟨_, .nil⟩
  | cons hl hi _ ih =>
    obtain ⟨as, r⟩ := ih
    exact ⟨_, .cons (reads_newData hl (ke_carried hi)) r⟩
theorem eqv_ints (xs : List Int) : PyData.eqvAll (xs.map PyData.int) (xs.map PyData.int) = true := by rw [ked_eqvAll]; simp
theorem eqv_rows : ∀ xss : List (List Int), PyData.eqvAll (xss.map rowD) (xss.map rowD) = true
  | [] => rfl
  | xs :: r => by
    simp only [List.map_cons, PyData.eqvAll, PyData.eqv, eqv_ints, eqv_rows r, Bool.and_self]
theorem lay_rows : ∀ xss : List (List Int), PyData.canLayAll0 (xss.map rowD) = true
  | [] => rfl
  | xs :: r => by simp [PyData.canLayAll0, PyData.canLay0, ke_canLayAll0, lay_rows r]
theorem depth_rows : ∀ xss : List (List Int), PyData.depthAll (xss.map rowD) ≤ 2
  | [] => by simp [PyData.depthAll]
  | xs :: r => by
    have := depth_rows r
    simp [PyData.depthAll, PyData.depth, ke_depthAll]
    omega
theorem shaped_rows (xss : List (List Int)) : SeqAt.shaped (.list (xss.map rowD)) = true := by
  have := depth_rows xss
  simp [SeqAt.shaped, PyData.canLay0, PyData.depth, lay_rows]
  omega
theorem rows_ne {prog : Program} {w : World} {A : Around} {E : Value → Shared → Prop} {s : Shared} {D1 D2 : Addr} {us1 us2 : List Value} {xss : List (List Int)} {Q : Value → Shared → Prop} (h1 : s.heap.IsList D1 us1.toArray) (R1 : RowsAt s.heap us1 xss) (h2 : s.heap.IsList D2 us2.toArray) (R2 : RowsAt s.heap us2 xss)
    (hu : A.units + 64 < cLine) (h : Q (.bool false) s) : wpAny (model prog w) A (compareOp .NotEq (.ref D1) (.ref D2)) Q E s := by
  obtain ⟨as1, r1⟩ := reads_rows R1
  obtain ⟨as2, r2⟩ := reads_rows R2
  obtain ⟨o1, ho1, hc1, n1, hd1⟩ := h1
  obtain ⟨o2, ho2, hc2, n2, hd2⟩ := h2
  refine SeqAt.compareNe_shaped (reads_list_at ho1 hc1 hd1 (by simpa using r1)) (reads_list_at ho2 hc2 hd2 (by simpa using r2)) (shaped_rows xss) (shaped_rows xss) hu ?_
  have : PyData.eqv (.list (xss.map rowD)) (.list (xss.map rowD)) = true := by simp only [PyData.eqv, eqv_rows]
  rw [this]
  exact h
end Mine
-- part M7d
namespace Mine
set_option maxHeartbeats 4000000
/-- a list with a hole ahead of its tail -/
inductive Tail : List (Addr × Obj) → (List (Addr × Obj) → List (Addr × Obj)) → List (Addr × Obj) → Prop
  | cons {a : Addr × Obj} {l tl : List (Addr × Obj)} {K : List (Addr × Obj) → List (Addr × Obj)} : Tail l K tl → Tail (a :: l) (fun t => a :: K t) tl
  | here {l : List (Addr × Obj)} : Tail l (fun t => t) l
theorem Tail.mem {l tl : List (Addr × Obj)} {K : List (Addr × Obj) → List (Addr × Obj)} (T : Tail l K tl) : ∀ t p, p ∈ K (t ++ tl) ↔ p ∈ t ∨ p ∈ l := by
  induction T with
  | here => intro t p; exact List.mem_append
  | cons _ ih =>
    intro t p
    simp only [List.mem_cons, ih]
    constructor <;> intro h <;> rcases h with h | h | h <;> simp [h]
theorem Tail.eq {l tl : List (Addr × Obj)} {K : List (Addr × Obj) → List (Addr × Obj)} (T : Tail l K tl) : K tl = l := by
  induction T with
  | here => rfl
  | cons _ ih => simp only [ih]

/-- a new list at the head of all -/
def CellRow (h₀ : Heap) (L : Addr) (m : Str → Option Value) (s : Shared) (whole : List (Addr × Obj)) (xs : List Int) (v : Value) (s₂ : Shared) : Prop :=
  ∃ r us n' h' tk', v = .ref r ∧ s₂ = { s with heap := h', toks := tk' } ∧ Fr h₀ L h' m ∧ News h₀ L h' ((r, listOf (List.toArray us) n') :: whole) ∧ IntsAre us xs ∧ LCg.Off1 r whole
theorem CellRow.drop {h₀ h' : Heap} {L r : Addr} {m : Str → Option Value} {s : Shared} {whole : List (Addr × Obj)} {q : Addr × Obj} {xs : List Int} {us : List Value} {n' tk' : Nat} (F : Fr h₀ L h' m) (N : News h₀ L h' ((r, listOf us.toArray n') :: q :: whole)) (hi : IntsAre us xs) (o : LCg.Off1 r (q :: whole)) :
    CellRow h₀ L m s whole xs (.ref r) { s with heap := h', toks := tk' } :=
  ⟨r, us, n', h', tk', rfl, rfl, F, cb_drop N (fun p hp => by
    rcases List.mem_cons.mp hp with rfl | hp
    · exact List.mem_cons_self
    · exact List.mem_cons_of_mem _ (List.mem_cons_of_mem _ hp)), hi, o.2⟩
section
variable {prog : Program} {w : World} {A : Around} {E : Value → Shared → Prop} {s : Shared} {h₀ : Heap} {L : Addr} {m : Str → Option Value} {env : Env} {elt : Expr} {x : Str} {scope : Scope} {cl : List (Str × Addr)}
theorem cell_rows {Q : Value → Shared → Prop} {r : Addr} {b : Int} {t u v : Tok} {n : Nat} {news tl : List (Addr × Obj)} {K : List (Addr × Obj) → List (Addr × Obj)} (css : Nat → List Int)
    (hh : A.handled = none) (F : Fr h₀ L s.heap m) (N : News h₀ L s.heap news) (T : Tail news K tl) (hr : IsRange s.heap r 0 b 1 t u v) (hsm : Builtin.Range.small 0 b 1 = true) (hn : Builtin.Range.rangeSize 0 b 1 = (n : Int)) (hsz : n ≤ sizeLine)
    (turn : ∀ i ys led t h tk I oI C oC cx ox D (E' : Value → Shared → Prop), i < n → ox.data = .cell (some (.int (i : Int) t)) → Fr h₀ L h m → News h₀ L h ((I, oI) :: (C, oC) :: (cx, ox) :: (D, LCg.lst ys) :: K (led ++ tl)) →
      wpAny (model prog w) A (eval elt (compEnvC scope ((x, cx) :: cl) C env)) (CellRow h₀ L m { s with heap := h, toks := tk } ((I, oI) :: (C, oC) :: (cx, ox) :: (D, LCg.lst ys) :: K (led ++ tl)) (css i)) E' { s with heap := h, toks := tk })
    (fin : ∀ ys led D h tk, RowsLed led ys ((List.range n).map css) → OffL led (news.map (·.1)) → Fr h₀ L h m → News h₀ L h ((D, LCg.lst ys) :: K (led ++ tl)) → LCg.Off1 D (K (led ++ tl)) → Q (.ref D) { s with heap := h, toks := tk }) :
    CellSrc prog w A h₀ L m env elt x scope cl Q (.ref r) s := by
  refine ⟨r, b, t, u, v, n, news, fun i ys nw => ∃ led, nw = K (led ++ tl) ∧ RowsLed led ys ((List.range i).map css) ∧ OffL led (news.map (·.1)), rfl, hh, F, N, hr, hsm, hn, hsz, ⟨[], by rw [List.nil_append, T.eq], .nil, ⟨fun _ h => absurd h List.not_mem_nil⟩⟩, ?_, ?_⟩
  · rintro i ys nw t h tk I oI C oC cx ox D E' hi ⟨led, rfl, hR, hO⟩ hox F' N' o1 o2 o3 o4 n1 n2 n3 n4 n5 n6
    refine wpAny_mono (turn i ys led t h tk I oI C oC cx ox D E' hi hox F' N') (fun y s₂ hq => ?_) fun _ _ e => e
    obtain ⟨a, us, n', h', tk', rfl, e, F₂, N₂, hi₂, o⟩ := hq
    have o' := off1_mem o
    have sub : ∀ p ∈ K (((a, listOf us.toArray n') :: led) ++ tl), p = (a, listOf us.toArray n') ∨ p ∈ K (led ++ tl) := fun p hp => by
      rw [T.mem] at hp
      rcases hp with hp | hp
      · rcases List.mem_cons.mp hp with rfl | hp
        · exact .inl rfl
        · exact .inr ((T.mem _ _).mpr (.inl hp))
      · exact .inr ((T.mem _ _).mpr (.inr hp))
    have offs : ∀ {z : Addr}, a ≠ z → (∀ p ∈ K (led ++ tl), p.1 ≠ z) → ∀ p ∈ K (((a, listOf us.toArray n') :: led) ++ tl), p.1 ≠ z := fun h1 h2 p hp => by
      rcases sub p hp with rfl | hp
      · exact h1
      · exact h2 p hp
    refine ⟨h', tk', K (((a, listOf us.toArray n') :: led) ++ tl), e, F₂, fun p hp => ?_, fun q hq => ?_, (a, listOf us.toArray n') :: led, rfl, ?_, ⟨fun p hp c hc => ?_⟩⟩
    · rcases List.mem_append.mp hp with hp | hp
      · refine N₂ p (List.mem_cons_of_mem _ ?_)
        simp only [List.mem_cons, List.not_mem_nil, or_false] at hp ⊢
        rcases hp with h | h | h | h <;> simp [h]
      · rcases sub p hp with rfl | hp
        · exact N₂ _ List.mem_cons_self
        · exact N₂ p (by simp [hp])
    · simp only [List.mem_cons, List.not_mem_nil, or_false] at hq
      rcases hq with rfl | rfl | rfl | rfl
      · exact offs (Ne.symm (o' (I, oI) (by simp))) o1
      · exact offs (Ne.symm (o' (C, oC) (by simp))) o2
      · exact offs (Ne.symm (o' (cx, ox) (by simp))) o3
      · exact offs (Ne.symm (o' (D, LCg.lst ys) (by simp))) o4
    · rw [List.range_succ, List.map_append]
      exact (hR.mono fun p hp => List.mem_cons_of_mem _ hp).snoc List.mem_cons_self hi₂
    · rcases List.mem_cons.mp hp with rfl | hp
      · obtain ⟨q, hq, rfl⟩ := List.mem_map.mp hc
        exact Ne.symm (o' q (by simp [T.mem, hq]))
      · exact hO.off p hp c hc
  · rintro ys nw D h tk ⟨led, rfl, hR, hO⟩ F' N' o
    exact fin ys led D h tk hR hO F' N' (off1_of o)
/-- an int, nothing changed -/
def ColPost (h₀ : Heap) (L : Addr) (m : Str → Option Value) (s : Shared) (whole : List (Addr × Obj)) (z : Int) (v : Value) (s₂ : Shared) : Prop :=
  ∃ t h' tk', v = .int z t ∧ s₂ = { s with heap := h', toks := tk' } ∧ Fr h₀ L h' m ∧ News h₀ L h' whole
theorem RowsLed.get {led : List (Addr × Obj)} {vs : List Value} {xss : List (List Int)} (R : RowsLed led vs xss) : ∀ i v, vs[i]? = some v → ∃ r us k, v = .ref r ∧ (r, listOf (List.toArray us) k) ∈ led ∧ IntsAre us (xss.getD i []) ∧ i < xss.length := by
  induction R with
  | nil => intro i v h; simp at h
  | @cons r us k xs vs xss hm hi _ ih =>
    intro i v h
    cases i with
    | zero =>
      simp at h
      subst h
      exact ⟨r, us, k, rfl, hm, hi, Nat.succ_pos _⟩
    | succ i =>
      obtain ⟨r', us', k', e, a, b, c⟩ := ih i v (by simpa using h)
      exact ⟨r', us', k', e, a, by simpa using b, Nat.succ_lt_succ c⟩
theorem comp_col {ax : Addr} {led news : List (Addr × Obj)} {rys : List Value} {xss : List (List Int)} {W j : Nat} {Fin : List Value → List (Addr × Obj) → Prop} {ox : Obj} {tx : Tok} (_hj : ox.data = .cell (some (.int (j : Int) tx))) (R : RowsLed led rys xss) (hW : ∀ xs ∈ xss, xs.length = W) (hS : LCg.SrcAt h₀ ax rys.toArray news)
    (turn : ∀ r us k xs I oI C oC D m₂ ys h tk (E' : Value → Shared → Prop), (r, listOf (List.toArray us) k) ∈ led → IntsAre us xs → xs.length = W → LCg.NsObj oC m₂ → m₂ x = some (.ref r) → Fr h₀ L h m → News h₀ L h ((I, oI) :: (C, oC) :: (D, LCg.lst ys) :: news) →
      wpAny (model prog w) A (eval elt (compEnvC scope cl C env)) (ColPost h₀ L m { s with heap := h, toks := tk } ((I, oI) :: (C, oC) :: (D, LCg.lst ys) :: news) (xs.getD j 0)) E' { s with heap := h, toks := tk })
    (fin : ∀ ys, IntsAre ys (xss.map fun xs => xs.getD j 0) → Fin ys news) : LCg.CompRest prog w A h₀ L m env elt x scope cl s (LCg.SrcAt h₀ ax rys.toArray) (fun i v => rys.toArray[i]? = some v) Fin rys.toArray.size 0 [] news := by
  have hlen : rys.toArray.size = xss.length := by simp [R.length]
  have key : ∀ (k i : Nat) (ys : List Value), i + k = xss.length → IntsAre ys ((xss.take i).map fun xs => xs.getD j 0) → LCg.CompRest prog w A h₀ L m env elt x scope cl s (LCg.SrcAt h₀ ax rys.toArray) (fun i v => rys.toArray[i]? = some v) Fin k i ys news := by
    intro k
    induction k with
    | zero =>
      intro i ys hi hy
      have e : i = xss.length := by omega
      subst e
      rw [List.take_length] at hy
      exact LCg.CompRest.zero (fin ys hy)
    | succ k ih =>
      intro i ys hi hy
      refine LCg.CompRest.succ fun v I oI C oC D m₂ h tk E' hv hC hx F N off ne => ?_
      obtain ⟨r, us, k', rfl, hm, hiu, hlt⟩ := R.get i v (by simpa using hv)
      have hmem : xss.getD i [] ∈ xss := by rw [List.getD_eq_getElem?_getD, List.getElem?_eq_getElem hlt]; exact List.getElem_mem hlt
      refine wpAny_mono (turn r us k' (xss.getD i []) I oI C oC D m₂ ys h tk E' hm hiu (hW _ hmem) hC hx F N) (fun y s₂ hq => ?_) fun _ _ e => e
      obtain ⟨t, h', tk', rfl, e, F', N'⟩ := hq
      refine ⟨h', tk', news, e, F', N', off, hS, ih (i + 1) _ (by omega) ?_⟩
      have e1 : xss.take (i + 1) = xss.take i ++ [xss.getD i []] := by
        rw [List.take_add_one, List.getElem?_eq_getElem hlt, List.getD_eq_getElem?_getD, List.getElem?_eq_getElem hlt]; rfl
      rw [e1, List.map_append]
      exact IntsAre.append hy (.cons _ t .nil)
  rw [hlen]
  exact key xss.length 0 [] (by omega) .nil
theorem item_led {value slice : PySem.Expr} {l : Addr} {us : List Value} {xs : List Int} {j k W : Nat} {u : Tok} {news : List (Addr × Obj)} {Q : Value → Shared → Prop} (N : News h₀ L s.heap news) (hm : (l, listOf us.toArray k) ∈ news) (hi : IntsAre us xs) (hW : xs.length = W) (hj : j < W) (hW1 : W ≤ 1000000) (h : ∀ t, Q (.int (xs.getD j 0) t) s)
    (hs : subscripted slice false (.ref l) (.int (j : Int) u) = operate [.ref l, .int (j : Int) u] (getItem (.ref l) (.int (j : Int) u)) := by with_unfolding_all rfl) :
    wpAny (model prog w) A (subscriptTail value slice (.ref l) (.int (j : Int) u)) Q E s := by
  have hlt : j < xs.length := by omega
  obtain ⟨t, e⟩ := hi.get j (xs.getD j 0) (by rw [List.getD_eq_getElem?_getD, List.getElem?_eq_getElem hlt]; rfl)
  exact item_litK ⟨_, (N _ hm).1, rfl, _, rfl⟩ (by omega) (by omega) (by simpa using e) (h t) hs
end
/-- the columns of the rows, each twice as long -/
def colT (xss : List (List Int)) (z : Nat) (x : Nat) : List Int := twN (xss.map fun xs => xs.getD x 0) z
def colsT (xss : List (List Int)) (W z : Nat) : List (List Int) := (List.range W).map (colT xss z)
def matT (xss : List (List Int)) (W z : Nat) (y : Nat) : List Int := (colsT xss W z).map fun c => c.getD y 0
theorem mat_eq {xss : List (List Int)} {W z : Nat} (hW : ∀ xs ∈ xss, xs.length = W) (hx : 0 < xss.length) (hz : z ≤ 2 * xss.length) : (List.range z).map (matT xss W z) = edN xss z := by
  unfold edN
  refine List.map_congr_left fun y hy => ?_
  have hy' : y < z := List.mem_range.mp hy
  have l1 : y / 2 < xss.length := by omega
  have l2 : min ((y + 1) / 2) (xss.length - 1) < xss.length := by omega
  have g1 : xss.getD (y / 2) [] = xss[y / 2] := by rw [List.getD_eq_getElem?_getD, List.getElem?_eq_getElem l1]; rfl
  have g2 : xss.getD (min ((y + 1) / 2) (xss.length - 1)) [] = xss[min ((y + 1) / 2) (xss.length - 1)] := by rw [List.getD_eq_getElem?_getD, List.getElem?_eq_getElem l2]; rfl
  have w1 : (xss.getD (y / 2) []).length = W := by rw [g1]; exact hW _ (List.getElem_mem l1)
  have w2 : (xss.getD (min ((y + 1) / 2) (xss.length - 1)) []).length = W := by rw [g2]; exact hW _ (List.getElem_mem l2)
  unfold matT colsT edI
  rw [List.map_map]
  refine List.ext_getElem (by simp only [List.length_map, List.length_range, List.length_zipWith, w1, w2, Nat.min_self]) fun j hj1 hj2 => ?_
  have hj : j < W := by simpa using hj1
  simp only [List.getElem_map, List.getElem_range, List.getElem_zipWith, Function.comp]
  have e1 : (colT xss z j).getD y 0 = twI (xss.map fun xs => xs.getD j 0) y := by
    unfold colT twN
    rw [List.getD_eq_getElem?_getD, List.getElem?_map, List.getElem?_range hy']
    rfl
  rw [e1]
  unfold twI
  have q : ∀ i, i < xss.length → (xss.map fun xs => xs.getD j 0).getD i 0 = (xss.getD i []).getD j 0 := fun i hi => by
    rw [List.getD_eq_getElem?_getD, List.getElem?_map, List.getElem?_eq_getElem hi, List.getD_eq_getElem?_getD (l := xss), List.getElem?_eq_getElem hi]
    rfl
  rw [List.length_map, q _ l1, q _ l2]
  congr 2
  · rw [List.getD_eq_getElem?_getD, List.getElem?_eq_getElem (by omega)]; rfl
  · rw [List.getD_eq_getElem?_getD, List.getElem?_eq_getElem (by omega)]; rfl
end Mine
-- part M7e
namespace Mine
set_option maxHeartbeats 4000000
section
variable {prog : Program} {w : World} {A : Around} {E : Value → Shared → Prop} {s : Shared} {h₀ : Heap} {env : Env} {target : Expr} {body : List Stmt} {Q : Flow → Shared → Prop}
theorem items_J {I : Addr} {ax : Addr} {lo : Obj} (J : (Str → Option Value) → List (Addr × Obj) → Prop) (hJ : ∀ m nw, J m nw → (ax, lo) ∈ nw) : ∀ (vs : List Value)
    (_turn : ∀ v ∈ vs, ∀ m₁ news₁ o h tk, J m₁ news₁ → (∀ p ∈ news₁, p.1 ≠ I) → Fr h₀ env.locals h m₁ → News h₀ env.locals h ((I, o) :: news₁) →
      wpAny (model prog w) A (assign target env v) (fun _ s₂ => wpAny (model prog w) A (execs body env) (UnrPost h₀ env.locals { s with heap := h, toks := tk } I o J Q) E s₂) E { s with heap := h, toks := tk })
    (_done : ∀ m₁ news₁ h tk, J m₁ news₁ → Fr h₀ env.locals h m₁ → News h₀ env.locals h news₁ → Q .next { s with heap := h, toks := tk })
    (m₁ : Str → Option Value) (news₁ : List (Addr × Obj)), J m₁ news₁ → (∀ p ∈ news₁, p.1 ≠ I) → ItemsRest prog w A E h₀ env target body Q s [(I, "tuple_iterator")] [(ax, lo)] (vs.map .val) m₁ news₁
  | [], _, done, m₁, news₁, j, _ => ItemsRest.zero fun h tk F N => done m₁ news₁ h tk j F N
  | v :: r, turn, done, m₁, news₁, j, off => by
    refine ItemsRest.val fun h tk F => AllObj.cons fun o _ => AllObj.nil fun N => ?_
    refine wpAny_mono (turn v List.mem_cons_self m₁ news₁ o h tk j off F N) (fun _ s₂ h₂ => wpAny_mono h₂ (fun f s₃ p => ?_) fun _ _ e => e) fun _ _ e => e
    have fin : UnrEnd h₀ env.locals { s with heap := h, toks := tk } I o J s₃ → UnrEndW h₀ env.locals { s with heap := h, toks := tk } [(I, o)] (fun m' n' => SubL [(ax, lo)] n' ∧ ItemsRest prog w A E h₀ env target body Q s [(I, "tuple_iterator")] [(ax, lo)] (r.map .val) m' n') s₃ := by
      rintro ⟨h', tk', m', news', e, F', N', ho, j'⟩
      exact ⟨h', tk', m', news', e, F', N', fun p hp q hq => by rw [List.mem_singleton.mp hq]; exact ho p hp, ⟨hJ _ _ j', trivial⟩, items_J J hJ r (fun v hv => turn v (List.mem_cons_of_mem _ hv)) done m' news' j' ho⟩
    cases f with
    | ret v => exact p
    | brk => exact p
    | next => exact fin p
    | cont => exact fin p
theorem mem_sub {l whole : List (Addr × Obj)} {p : Addr × Obj} (h : p ∈ whole) (hs : ∀ q ∈ l, q ∈ whole) : ∀ q ∈ p :: l, q ∈ whole := fun q hq => by
  rcases List.mem_cons.mp hq with rfl | hq
  · exact h
  · exact hs q hq
/-- the law's last loop: its two sizes, all that stands but two cells -/
def LawJ (c5 c4 c3 c2 R TT : Addr) (oR oW lo : Obj) (rys : List Value) (led : List (Addr × Obj)) (m₀ : Str → Option Value) (m₁ : Str → Option Value) (nw : List (Addr × Obj)) : Prop :=
  ∃ oC oS vC vS, m₁ = m₀ ∧ nw = (TT, lo) :: (c5, oC) :: (c4, oR) :: (c3, oW) :: (c2, oS) :: (R, LCg.lst rys) :: led ∧ oC.data = .cell vC ∧ oS.data = .cell vS
theorem law_close {c5 c4 c3 c2 R TT I L : Addr} {oC oR oW oS lo o : Obj} {rys : List Value} {led whole : List (Addr × Obj)} {m₀ : Str → Option Value} {vC vS : Option Value} {h h9 : Heap} {tk tk9 : Nat} (F : Fr h₀ L h m₀) (N : News h₀ L h whole)
    (m1 : (I, o) ∈ whole) (m2 : (TT, lo) ∈ whole) (m3 : (c5, oC) ∈ whole) (m4 : (c4, oR) ∈ whole) (m5 : (c3, oW) ∈ whole) (m6 : (c2, oS) ∈ whole) (m7 : (R, LCg.lst rys) ∈ whole) (m8 : ∀ p ∈ led, p ∈ whole) (hC : oC.data = .cell vC) (hS : oS.data = .cell vS)
    (q1 : @Ne Nat TT I) (q2 : @Ne Nat c5 I) (q3 : @Ne Nat c4 I) (q4 : @Ne Nat c3 I) (q5 : @Ne Nat c2 I) (q6 : @Ne Nat R I) (q7 : ∀ p ∈ led, p.1 ≠ I) :
    UnrEnd h₀ L { s with heap := h9, toks := tk9 } I o (LawJ c5 c4 c3 c2 R TT oR oW lo rys led m₀) { s with heap := h, toks := tk } := by
  refine UnrEnd.intro F N ((TT, lo) :: (c5, oC) :: (c4, oR) :: (c3, oW) :: (c2, oS) :: (R, LCg.lst rys) :: led) (mem_sub m1 (mem_sub m2 (mem_sub m3 (mem_sub m4 (mem_sub m5 (mem_sub m6 (mem_sub m7 m8))))))) ?_ ⟨oC, oS, vC, vS, rfl, rfl, hC, hS⟩
  simp only [List.forall_mem_cons]
  exact ⟨q1, q2, q3, q4, q5, q6, q7⟩
theorem iter_law {c5 c4 c3 c2 R TT : Addr} {oC oR oW oS lo : Obj} {rys : List Value} {led : List (Addr × Obj)} {m₀ : Str → Option Value} {z1 z2 B : Int} {t1 t2 : Tok} {k : Nat} {vC vS : Option Value}
    (hh : A.handled = none) (F : Fr h₀ env.locals s.heap m₀) (N : News h₀ env.locals s.heap ((TT, lo) :: (c5, oC) :: (c4, oR) :: (c3, oW) :: (c2, oS) :: (R, LCg.lst rys) :: led)) (hlo : lo = { cls := .type "tuple", data := .seq [Value.int z1 t1, .int z2 t2].toArray k })
    (hC : oC.data = .cell vC) (hS : oS.data = .cell vS) (b1 : 0 ≤ z1 ∧ z1 ≤ B) (b2 : 0 ≤ z2 ∧ z2 ≤ B)
    (turn : ∀ I z t oC oS vC vS o h tk, 0 ≤ z → z ≤ B → oC.data = .cell vC → oS.data = .cell vS → @Ne Nat TT I → @Ne Nat c5 I → @Ne Nat c4 I → @Ne Nat c3 I → @Ne Nat c2 I → @Ne Nat R I → (∀ p ∈ led, p.1 ≠ I) → Fr h₀ env.locals h m₀ →
      News h₀ env.locals h ((I, o) :: (TT, lo) :: (c5, oC) :: (c4, oR) :: (c3, oW) :: (c2, oS) :: (R, LCg.lst rys) :: led) →
      wpAny (model prog w) A (assign target env (.int z t)) (fun _ s₂ => wpAny (model prog w) A (execs body env) (UnrPost h₀ env.locals { s with heap := h, toks := tk } I o (LawJ c5 c4 c3 c2 R TT oR oW lo rys led m₀) Q) E s₂) E { s with heap := h, toks := tk })
    (done : ∀ h tk, Fr h₀ env.locals h m₀ → Q .next { s with heap := h, toks := tk }) :
    wpAny (model prog w) A (pyIter (.ref TT)) (fun it s₂ => TurnsAt prog w A h₀ env target body Q E it s₂) E s := by
  subst hlo
  refine iter_tupTurns (vs := [Value.int z1 t1, .int z2 t2]) hh F N List.mem_cons_self rfl rfl fun I hI => ?_
  refine items_J (LawJ c5 c4 c3 c2 R TT oR oW _ rys led m₀) (fun m nw => ?_) _ ?_ ?_ m₀ _ ⟨oC, oS, vC, vS, rfl, rfl, hC, hS⟩ fun p hp => Nat.ne_of_lt (hI p hp)
  · rintro ⟨oC, oS, vC, vS, rfl, rfl, _, _⟩
    exact List.mem_cons_self
  · rintro v hv m₁ news₁ o h tk ⟨oC, oS, vC, vS, rfl, rfl, hC, hS⟩ off F' N'
    simp only [List.forall_mem_cons] at off
    obtain ⟨z, t, rfl, b⟩ : ∃ z t, v = .int z t ∧ (0 ≤ z ∧ z ≤ B) := by
      simp only [List.mem_cons, List.not_mem_nil, or_false] at hv
      rcases hv with rfl | rfl
      · exact ⟨_, _, rfl, b1⟩
      · exact ⟨_, _, rfl, b2⟩
    exact turn I z t oC oS vC vS o h tk b.1 b.2 hC hS off.1 off.2.1 off.2.2.1 off.2.2.2.1 off.2.2.2.2.1 off.2.2.2.2.2.1 off.2.2.2.2.2.2 F' N'
  · rintro m₁ news₁ h tk ⟨oC, oS, vC, vS, rfl, rfl, _, _⟩ F' _
    exact done h tk F'
end
section
variable {w : World} {mean : ExcName → Option Value} {mg mb : Str → Option Value}
    {dp un : Nat} {gd : Option (List Code)} {cn : Str} {cs : Scope} {a : Addr} {ccd : Value} {cl : List (Str × Addr)} {outer : List Env} {A₀ : Around} {base h₀ : Heap} {L : Addr} {m : Str → Option Value} {news tl : List (Addr × Obj)} {K : List (Addr × Obj) → List (Addr × Obj)} {s : Shared}
    {Q E : Value → Shared → Prop} {l : Addr} {vs : List Value} {size : Int} {tz : Tok}
theorem expanded_call2 {xss : List (List Int)} {W : Nat} {led : List (Addr × Obj)} (B : Below A₀ base outer h₀) (F : Fr h₀ L s.heap m) (X : (hd.heap_39 w.params).In h₀) (N : News h₀ L s.heap news) (T' : Tail news K tl) (T : Top hd.view_39 (looseW hd.view_39 []) mean mg mb h₀) (hk : cs.kind = .function)
    (hl : s.heap.IsList l vs.toArray) (hR : RowsLed led vs xss) (sub : ∀ p ∈ led, p ∈ news) (hW : ∀ xs ∈ xss, xs.length = W) (hx : 0 < xss.length) (hx1 : xss.length ≤ 8) (hW1 : W ≤ 8) (h0 : 0 ≤ size) (h1 : size ≤ 2 * (xss.length : Int)) (hd : dp + 2 < recursionLimit) (hu : un + 24 < cLine)
    (hret : ∀ D us n' led' h' tk', Fr h₀ L h' m → News h₀ L h' ((D, listOf (List.toArray us) n') :: K (led' ++ tl)) → RowsLed led' us (edN xss size.toNat) → LCg.Off1 D news → OffL led' (news.map (·.1)) → Q (.ref D) { s with heap := h', toks := tk' }) :
    wpAny (model PySem.Challenge.rw_xm0793_01.row.prog w) (ktrTop dp un gd cn cs L a ccd cl outer) (call (.ref 33) [.ref l, .int size tz]) Q E s :=
  expanded_call B F X N T hk hl hR sub hW hx (by omega) (by omega) h0 h1 hd hu fun D us n' led' h' tk' F' N' hR' o1 o2 =>
    hret D us n' led' h' tk' F' (cb_drop N' fun p hp => by
      rcases List.mem_cons.mp hp with rfl | hp
      · exact List.mem_cons_self
      · refine List.mem_cons_of_mem _ (List.mem_append.mpr ?_)
        exact (T'.mem _ _).mp hp) hR' (off1_of o1) ⟨fun p hp b hb => by
          obtain ⟨q, hq, rfl⟩ := List.mem_map.mp hb
          exact Ne.symm (o2 p hp q hq)⟩
end
section
variable {prog : Program} {w : World} {A : Around} {E : Value → Shared → Prop} {s : Shared} {h₀ : Heap} {L : Addr} {m : Str → Option Value} {env : Env} {elt : Expr} {x : Str} {scope : Scope} {cl : List (Str × Addr)} {Q : Value → Shared → Prop} {news tl : List (Addr × Obj)} {K : List (Addr × Obj) → List (Addr × Obj)}
theorem cols_src {r : Addr} {t u v tS : Tok} {W : Nat} {z : Int} {oS : Obj} {led : List (Addr × Obj)} {rys : List Value} {xss : List (List Int)} (hh : A.handled = none) (F : Fr h₀ L s.heap m) (N : News h₀ L s.heap news) (T : Tail news K tl) (hr : IsRange s.heap r 0 (W : Int) 1 t u v) (hW : W ≤ 8)
    (_hm : (L + 1 + 1, oS) ∈ news) (_hS : oS.data = .cell (some (.int z tS))) (_R : RowsLed led rys xss)
    (turn : ∀ i ys led t h tk I oI C oC cx ox D (E' : Value → Shared → Prop), i < W → ox.data = .cell (some (.int (i : Int) t)) → Fr h₀ L h m → News h₀ L h ((I, oI) :: (C, oC) :: (cx, ox) :: (D, LCg.lst ys) :: K (led ++ tl)) →
      wpAny (model prog w) A (eval elt (compEnvC scope ((x, cx) :: cl) C env)) (CellRow h₀ L m { s with heap := h, toks := tk } ((I, oI) :: (C, oC) :: (cx, ox) :: (D, LCg.lst ys) :: K (led ++ tl)) (colT xss z.toNat i)) E' { s with heap := h, toks := tk })
    (fin : ∀ ys led D h tk, RowsLed led ys (colsT xss W z.toNat) → OffL led (news.map (·.1)) → Fr h₀ L h m → News h₀ L h ((D, LCg.lst ys) :: K (led ++ tl)) → LCg.Off1 D (K (led ++ tl)) → Q (.ref D) { s with heap := h, toks := tk }) :
    CellSrc prog w A h₀ L m env elt x scope cl Q (.ref r) s :=
  cell_rows (colT xss z.toNat) hh F N T hr (small_one (by decide) (by decide) (by omega) (by omega)) (by rw [rangeSize_nat, Int.sub_zero, Int.toNat_natCast]) (by rw [PySem.sizeLine_eq]; omega) turn fin
theorem mat_src {r : Addr} {t u v tW : Tok} {W : Nat} {z : Int} {oW oR : Obj} {R : Addr} {led : List (Addr × Obj)} {rys : List Value} {xss : List (List Int)} (hh : A.handled = none) (F : Fr h₀ L s.heap m) (N : News h₀ L s.heap news) (T : Tail news K tl) (hr : IsRange s.heap r 0 z 1 t u v) (h0 : 0 ≤ z) (h1 : z ≤ 1000)
    (_hmW : (L + 1 + 1 + 1, oW) ∈ news) (_hoW : oW.data = .cell (some (.int (W : Int) tW))) (_hmR : (L + 1 + 1 + 1 + 1, oR) ∈ news) (_hoR : oR.data = .cell (some (.ref R))) (_hm : (R, LCg.lst rys) ∈ news) (_R : RowsLed led rys xss)
    (turn : ∀ i ys led t h tk I oI C oC cx ox D (E' : Value → Shared → Prop), i < z.toNat → ox.data = .cell (some (.int (i : Int) t)) → Fr h₀ L h m → News h₀ L h ((I, oI) :: (C, oC) :: (cx, ox) :: (D, LCg.lst ys) :: K (led ++ tl)) →
      wpAny (model prog w) A (eval elt (compEnvC scope ((x, cx) :: cl) C env)) (CellRow h₀ L m { s with heap := h, toks := tk } ((I, oI) :: (C, oC) :: (cx, ox) :: (D, LCg.lst ys) :: K (led ++ tl)) (matT xss W z.toNat i)) E' { s with heap := h, toks := tk })
    (fin : ∀ ys led D h tk, RowsLed led ys ((List.range z.toNat).map (matT xss W z.toNat)) → OffL led (news.map (·.1)) → Fr h₀ L h m → News h₀ L h ((D, LCg.lst ys) :: K (led ++ tl)) → LCg.Off1 D (K (led ++ tl)) → Q (.ref D) { s with heap := h, toks := tk }) :
    CellSrc prog w A h₀ L m env elt x scope cl Q (.ref r) s :=
  cell_rows (matT xss W z.toNat) hh F N T hr (small_one (by decide) (by decide) (by omega) (by omega)) (by rw [rangeSize_nat, Int.sub_zero]) (by rw [PySem.sizeLine_eq]; omega) turn fin
theorem size_rows {led : List (Addr × Obj)} {rys : List Value} {xss : List (List Int)} (R : RowsLed led rys xss) (h : xss.length ≤ 1000) : rys.toArray.size ≤ sizeLine := by
  rw [PySem.sizeLine_eq, List.size_toArray, R.length]
  omega
theorem cols_len {xss : List (List Int)} {W z : Nat} : ∀ c ∈ colsT xss W z, c.length = z := fun c hc => by
  obtain ⟨x, _, rfl⟩ := List.mem_map.mp hc
  simp [colT, twN]
theorem cols_length {xss : List (List Int)} {W z : Nat} : (colsT xss W z).length = W := by simp [colsT]
theorem rows_ne2 {D1 D2 : Addr} {us1 us2 : List Value} {n1 n2 W z : Nat} {led1 led2 : List (Addr × Obj)} {xss : List (List Int)} (N : News h₀ L s.heap news) (m1 : (D1, listOf us1.toArray n1) ∈ news) (R1 : RowsLed led1 us1 (edN xss z)) (s1 : ∀ p ∈ led1, p ∈ news) (m2 : (D2, listOf us2.toArray n2) ∈ news)
    (R2 : RowsLed led2 us2 ((List.range z).map (matT xss W z))) (s2 : ∀ p ∈ led2, p ∈ news) (hW : ∀ xs ∈ xss, xs.length = W) (hx : 0 < xss.length) (hz : z ≤ 2 * xss.length) (hu : A.units + 64 < cLine) (h : Q (.bool false) s) :
    wpAny (model prog w) A (compareOp .NotEq (.ref D1) (.ref D2)) Q E s := by
  rw [mat_eq hW hx hz] at R2
  exact rows_ne ⟨_, (N _ m1).1, rfl, _, rfl⟩ (R1.at (cb_drop N s1)) ⟨_, (N _ m2).1, rfl, _, rfl⟩ (R2.at (cb_drop N s2)) hu h
end
end Mine
-- part M8
namespace Mine
set_option maxHeartbeats 4000000
def lawStmts : List Stmt := match PySem.Challenge.pw_xm0793_01.main.body.getLast? with
  | some (.FunctionDef _ _ b _ _ _ _ _ _ _) => b
  | _ => []
def lawScope : Scope := match PySem.Challenge.pw_xm0793_01.main.body.getLast? with
  | some (.FunctionDef _ _ _ _ _ _ s _ _ _) => s
  | _ => default
abbrev lawTop (dp un : Nat) (gd : Option (List Code)) (outer : List Env) : Around := { handled := none, depth := dp, frames := some outer, guards := gd, units := un }
section law
local macro_rules | `(tactic| k_room) => `(tactic| ktr_room)
local macro_rules | `(tactic| k_mem) => `(tactic| first | assumption | (refine List.mem_append.mpr (Or.inl ?_); k_mem) | (refine List.mem_append.mpr (Or.inr ?_); k_mem))
local macro_rules | `(tactic| k_all) => `(tactic| first | assumption | exact OffL.use (by assumption) (by simp) | (refine List.forall_mem_append.mpr ⟨?_, ?_⟩ <;> k_all))
local macro_rules | `(tactic| walk_at "call ref") => `(tactic| (k_here; (with_reducible show wpAny _ _ (call (Value.ref 59) _) _ _ _); k_dflt (refine' law_twice_call ?k1 ?k2 ?k3 ?k4 ?k5 ?kK ?l ?i ?x ?x1 ?z0 ?z1 ?kd ?ku ?_; (case k1 => k_asm); (case k2 => k_asm); (case k3 => k_asm); (case k4 => k_asm); (case k5 => k_asm); (case kK => first | exact rfl | assumption); (case l => exact News.isList (by k_asm) (by k_mem)); (case i => assumption); (case x => (simp only [List.length_map]; omega)); (case x1 => (simp only [List.length_map]; omega)); (case z0 => assumption); (case z1 => (simp only [List.length_map]; omega)); (case kd => ktr_room); (case ku => ktr_units); k_whole); (intro D9 us9 n9 h9 tk9 F9 N9 o9 i9); (try dsimp only); (try k_fold)))
local macro_rules | `(tactic| walk_at "call ref") => `(tactic| (k_here; (with_reducible show wpAny _ _ (call (Value.ref 33) _) _ _ _); k_dflt (refine' expanded_call2 ?k1 ?k2 ?k3 ?k4 ?kT ?k5 ?kK ?l ?R ?sub ?W ?x ?x1 ?w1 ?z0 ?z1 ?kd ?ku ?_; (case k1 => k_asm); (case k2 => k_asm); (case k3 => k_asm); (case k4 => k_asm); (case kT => (repeat (first | apply Tail.cons | exact Tail.here))); (case k5 => k_asm); (case kK => first | exact rfl | assumption); (case l => exact News.isList (by k_asm) (by k_mem)); (case R => assumption); (case sub => (intro p9 hp9; k_mem)); (case W => assumption); (case x => assumption); (case x1 => assumption); (case w1 => assumption); (case z0 => assumption); (case z1 => assumption); (case kd => ktr_room); (case ku => ktr_units); k_whole); (intro D9 us9 n9 led9 h9 tk9 F9 N9 R9 o9 O9); (try simp only [LCg.Off1, and_true] at o9); (try dsimp only at N9); (try dsimp only); (try k_fold)))
local macro_rules | `(tactic| walk_at "pyIter ref") => `(tactic| (k_here; (with_reducible show wpAny _ _ (pyIter (Value.ref _)) (fun it s₂ => TurnsAt _ _ _ _ _ _ _ _ _ it s₂) _ _); k_dflt (refine iter_law (B := _) (by rfl) (by k_asm) (by k_asm) (by rfl) (by assumption) (by assumption) ⟨?b1, Int.le_refl _⟩ ⟨?b2, ?b3⟩ ?_ ?_; (case b1 => omega); (case b2 => omega); (case b3 => omega)); (intro I9 z9 t9 oC9 oS9 vC9 vS9 o9 h9 tk9 hz0 hz1 hC9 hS9 q1 q2 q3 q4 q5 q6 q7 F9 N9); rotate_left; (intro h9 tk9 F9); rotate_left))
local macro_rules | `(tactic| walk_at "eval ListComp") => `(tactic| (k_here; k_dflt (first
  | refine ListComp_cellR (by k_asm) (by with_unfolding_all rfl) (fun _ _ => by rfl) (fun _ => by rfl) (by rfl) (by decide) (by with_unfolding_all rfl) ?_
  | refine LCg.ListComp_U (F₀ := by k_asm) (by with_unfolding_all rfl) (by decide) (by rfl) (by decide) (by rfl) ?_)))
local macro_rules | `(tactic| walk_at "CellSrc") => `(tactic| (k_here; (with_reducible show CellSrc _ _ _ _ _ _ _ (PySem.Expr.Call _ _ _ _) _ _ _ _ _ _); k_dflt (refine cols_src (by rfl) (by k_asm) (by k_asm) (by repeat (first | apply Tail.cons | exact Tail.here)) (by assumption) (by assumption) (by k_mem) (by assumption) (by assumption) ?_ ?_; (intro i9 ys9 led9 t9 h9 tk9 I9 oI9 C9 oC9 cx9 ox9 D9 E9 hi9 hox9 F9 N9; (try dsimp only at N9)); rotate_left; (intro ys9 led9 D9 h9 tk9 R9 O9 F9 N9 o9; (try dsimp only at N9 o9); (try simp only [LCg.Off1, and_true] at o9); (try dsimp only); rotate_left))))
local macro_rules | `(tactic| walk_at "CellSrc") => `(tactic| (k_here; (with_reducible show CellSrc _ _ _ _ _ _ _ (PySem.Expr.ListComp _ _ _ _) _ _ _ _ _ _); k_dflt (refine mat_src (by rfl) (by k_asm) (by k_asm) (by repeat (first | apply Tail.cons | exact Tail.here)) (by assumption) (by assumption) (by omega) (by k_mem) (by assumption) (by k_mem) (by assumption) (by k_mem) (by assumption) ?_ ?_; (intro i9 ys9 led9 t9 h9 tk9 I9 oI9 C9 oC9 cx9 ox9 D9 E9 hi9 hox9 F9 N9; (try dsimp only at N9)); rotate_left; (intro ys9 led9 D9 h9 tk9 R9 O9 F9 N9 o9; (try dsimp only at N9 o9); (try simp only [LCg.Off1, and_true] at o9); (try dsimp only); rotate_left))))
local macro_rules | `(tactic| walk_at "CompSrc") => `(tactic| (k_here; k_dflt (refine LCg.CompSrc.ledger (by rfl) (by k_asm) (by k_asm) (by k_mem) (size_rows (by assumption) (by first | omega | (rw [cols_length]; omega))) ?_; intro g9; refine comp_col (by assumption) (by assumption) (by first | assumption | exact cols_len) (Or.inr ⟨_, by k_mem, rfl, _, rfl⟩) ?_ ?_; (intro r9 us9 k9 xs9 I9 oI9 C9 oC9 D9 m9 ys9 h9 tk9 E9 hm9 hi9 hW9 hC9 hx9 F9 N9); rotate_left; (intro ys9 hi9); rotate_left)))
local macro_rules | `(tactic| walk_at "subscriptTail") => `(tactic| (k_here; (with_reducible show wpAny _ _ (subscriptTail _ _ (Value.ref _) (Value.int _ _)) _ _ _); k_dflt (refine' item_led ?N ?m ?i ?W ?j ?b ?_ ?z; (case N => k_asm); (case m => k_mem); (case i => assumption); (case W => assumption); (case j => first | assumption | omega); (case b => omega); (case z => with_unfolding_all rfl); k_whole); intro t9))
local macro_rules | `(tactic| walk_at "ColPost") => `(tactic| exact ⟨_, _, _, rfl, rfl, by k_asm, by k_asm⟩)
local macro_rules | `(tactic| walk_at "CellRow") => `(tactic| first | exact CellRow.drop (by k_asm) (by k_asm) (by assumption) (by assumption) | exact ⟨_, _, _, _, _, rfl, rfl, by k_asm, by k_asm, by assumption, by assumption⟩)
local macro_rules | `(tactic| walk_at "compareOp NotEq ref ref") => `(tactic| (k_here; (with_reducible show wpAny _ _ (compareOp CmpOp.NotEq (Value.ref _) (Value.ref _)) _ _ _); k_dflt (refine rows_ne2 (by k_asm) (by k_mem) (by assumption) (by intro p9 hp9; k_mem) (by k_mem) (by assumption) (by intro p9 hp9; k_mem) (by assumption) (by assumption) (by omega) (by ktr_units) ?_)))
local macro_rules | `(tactic| walk_at "UnrEnd") => `(tactic| (k_here; k_dflt (exact law_close (by k_asm) (by k_asm) (by k_mem) (by k_mem) (by k_mem) (by k_mem) (by k_mem) (by k_mem) (by k_mem) (by intro p9 hp9; k_mem) (by assumption) (by assumption) (by omega) (by omega) (by omega) (by omega) (by omega) (by omega) (by assumption))))
theorem law_tail {w : World} {mean : ExcName → Option Value} {mg mb : Str → Option Value} : PySem.Challenge.rw_xm0793_01 = PySem.Challenge.rw_xm0793_01 →
  ∀ (dp un : Nat) (gd : Option (List Code)) (outer : List Env) (fa cd : Addr) (A₀ : Around) (base h₀ : Heap) (L R : Addr) (m : Str → Option Value) (s : Shared) (rys : List Value) (led : List (Addr × Obj)) (xss : List (List Int)) (W : Nat) (tM tW : Tok) (oC oR oW oS : Obj) (vC vS : Option Value) (Q : Flow → Shared → Prop),
    Below A₀ base outer h₀ → Fr h₀ L s.heap (fun y => if y = Str.ofString "many" then some (.int (xss.length : Int) tM) else m y) → (hd.heap_39 w.params).In h₀ → Top hd.view_39 (looseW hd.view_39 []) mean mg mb h₀ →
    News h₀ L s.heap ((L + 1 + 1 + 1 + 1 + 1, oC) :: (L + 1 + 1 + 1 + 1, oR) :: (L + 1 + 1 + 1, oW) :: (L + 1 + 1, oS) :: (R, LCg.lst rys) :: led) →
    oC.data = .cell vC → oR.data = .cell (some (.ref R)) → oW.data = .cell (some (.int (W : Int) tW)) → oS.data = .cell vS →
    RowsLed led rys xss → (∀ xs ∈ xss, xs.length = W) → 0 < xss.length → xss.length ≤ 8 → W ≤ 8 → OffL led [L + 1 + 1 + 1 + 1 + 1, L + 1 + 1] → @Ne Nat R (L + 1 + 1 + 1 + 1 + 1) → @Ne Nat R (L + 1 + 1) → dp + 8 < recursionLimit → un + 200 < cLine →
    (∀ h' tk' m', Fr h₀ L h' m' → Q (.ret (.bool true)) { s with heap := h', toks := tk' }) →
    wpAny (model PySem.Challenge.rw_xm0793_01.row.prog w) ((lawTop dp un gd outer).deeper (envOfC (Str.ofString "law") lawScope L fa (.ref cd))) (execs (lawStmts.drop 6) (envOfC (Str.ofString "law") lawScope L fa (.ref cd))) Q
      (fun _ _ => False) s := by
  k_fill
  w_top off
  k_with_none
  intro _ dp un gd outer fa cd A₀ base h₀ L R m s rys led xss W tM tW oC oR oW oS vC vS Q B F X T N hC hR hW hS hrows hlen hx hx8 hW8 hO hLR hLR2 hd hu hret
  with_unfolding_all (show wpAny _ ((lawTop dp un gd outer).deeper (envOfC _ ⟨_, _, _, _, _⟩ _ _ _)) (execs (_ :: _) (envOfC _ ⟨_, _, _, _, _⟩ _ _ _)) _ _ _)
  k_steps
  dsimp only
  exact hret _ _ _ (by k_asm)
end law
end Mine
-- part M9
namespace Mine
set_option maxHeartbeats 1500000
/-- the walk stops here -/
structure Halt (P : Prop) : Prop where
  out : P
/-- two places are apart, in a word that arithmetic does not open -/
def NeB (a b : Addr) : Prop := @Ne Nat a b
def OffB (D : Addr) : List (Addr × Obj) → Prop
  | [] => True
  | p :: r => NeB p.1 D ∧ OffB D r
theorem OffB.of {D : Addr} : ∀ {l : List (Addr × Obj)}, LCg.Off1 D l → OffB D l
  | [], _ => trivial
  | _ :: _, h => ⟨h.1, OffB.of h.2⟩
theorem OffB.mem {D : Addr} : ∀ {l : List (Addr × Obj)}, OffB D l → ∀ p ∈ l, p.1 ≠ D
  | [], _, _, h => absurd h List.not_mem_nil
  | _ :: _, x, p, h => by
    rcases List.mem_cons.mp h with rfl | h
    · exact x.1
    · exact OffB.mem x.2 p h
theorem OffB.of3 {I C D : Addr} : ∀ {l : List (Addr × Obj)}, LCg.Off3 I C D l → OffB I l ∧ OffB C l ∧ OffB D l
  | [], _ => ⟨trivial, trivial, trivial⟩
  | _ :: _, h => ⟨⟨h.1.1, (OffB.of3 h.2).1⟩, ⟨h.1.2.1, (OffB.of3 h.2).2.1⟩, ⟨h.1.2.2, (OffB.of3 h.2).2.2⟩⟩
theorem NeB.of {a b : Addr} (h : @Ne Nat a b) : NeB a b := h
theorem NeB.l {a b : Addr} (h : NeB a b) : a ≠ b := h
theorem NeB.r {a b : Addr} (h : NeB b a) : a ≠ b := fun e => h e.symm
theorem NeB.three {I C D : Addr} (h : (@Ne Nat I C) ∧ (@Ne Nat I D) ∧ (@Ne Nat C D)) : NeB I C ∧ NeB I D ∧ NeB C D := h
theorem OffL.sub {led : List (Addr × Obj)} {adr adr' : List Addr} (h : OffL led adr) (hs : ∀ b ∈ adr', b ∈ adr) : OffL led adr' := ⟨fun p hp b hb => h.off p hp b (hs b hb)⟩
theorem law_tail_use {w : World} {mean : ExcName → Option Value} {mg mb : Str → Option Value} {dp un : Nat} {gd : Option (List Code)} {outer : List Env} {fa cd : Addr} {A₀ : Around} {base h₀ : Heap} {L R : Addr} {m : Str → Option Value} {s : Shared} {rys : List Value} {led news : List (Addr × Obj)} {adr : List Addr} {xss : List (List Int)} {W n : Nat} {nw nm : Int} {tM tW : Tok} {oC oR oW oS : Obj} {vC vS : Option Value} {Q : Flow → Shared → Prop}
    (B : Below A₀ base outer h₀) (F : Fr h₀ L s.heap (fun y => if y = Str.ofString "many" then some (.int nm tM) else m y)) (X : (hd.heap_39 w.params).In h₀) (T : Top hd.view_39 (looseW hd.view_39 []) mean mg mb h₀) (N : News h₀ L s.heap news)
    (m1 : (L + 1 + 1 + 1 + 1 + 1, oC) ∈ news) (m2 : (L + 1 + 1 + 1 + 1, oR) ∈ news) (m3 : (L + 1 + 1 + 1, oW) ∈ news) (m4 : (L + 1 + 1, oS) ∈ news) (hC : oC.data = .cell vC) (hR : oR.data = .cell (some (.ref R))) (hW : oW.data = .cell (some (.int nw tW))) (hS : oS.data = .cell vS)
    (m5 : (R, LCg.lst rys) ∈ news) (hrows : RowsLed led rys xss) (m6 : ∀ p ∈ led, p ∈ news) (hn : xss.length = n) (hlen : ∀ xs ∈ xss, xs.length = W) (hO : OffL led adr) (hsub : ∀ b ∈ [L + 1 + 1 + 1 + 1 + 1, L + 1 + 1], b ∈ adr) (eM : nm = (n : Int)) (eW : nw = (W : Int)) (hx : 0 < n) (hx8 : n ≤ 8) (hW8 : W ≤ 8)
    (n1 : @Ne Nat R (L + 1 + 1 + 1 + 1 + 1)) (n2 : @Ne Nat R (L + 1 + 1)) (hd : dp + 8 < recursionLimit) (hu : un + 200 < cLine) (hret : ∀ h' tk' m', Fr h₀ L h' m' → Q (.ret (.bool true)) { s with heap := h', toks := tk' }) :
    wpAny (model PySem.Challenge.rw_xm0793_01.row.prog w) ((lawTop dp un gd outer).deeper (envOfC (Str.ofString "law") lawScope L fa (.ref cd))) (execs (lawStmts.drop 6) (envOfC (Str.ofString "law") lawScope L fa (.ref cd))) Q (fun _ _ => False) s := by
  subst hn eM eW
  exact law_tail rfl dp un gd outer fa cd A₀ base h₀ L R m s rys led xss W tM tW oC oR oW oS vC vS Q B F X T (cb_drop N (mem_sub m1 (mem_sub m2 (mem_sub m3 (mem_sub m4 (mem_sub m5 m6)))))) hC hR hW hS hrows hlen hx hx8 hW8 (hO.sub hsub) n1 n2 hd hu hret
theorem comp_rows_w {prog : Program} {w : World} {A : Around} {s : Shared} {h₀ : Heap} {L : Addr} {m : Str → Option Value} {env : Env} {elt : Expr} {xn : Str} {scope : Scope} {cl : List (Str × Addr)} {P : Nat → Value → Prop} {Fin : List Value → List (Addr × Obj) → Prop}
    {n : Nat} {S : Addr} {x₀ y₀ nw : Int} {tx₀ ty₀ tW : Tok} {n₀ : Nat} {oW : Obj} {news : List (Addr × Obj)} {news' : Obj → List (Addr × Obj)} (_hm : (L + 1 + 1 + 1, oW) ∈ news) (_ho : oW.data = .cell (some (.int nw tW))) (U : ∀ o', Upd S (two x₀ y₀ tx₀ ty₀ n₀) o' news (news' o'))
    (turn : ∀ ys xss led v I oI C oC D m₂ x y tx ty nn h tk (E' : Value → Shared → Prop), LCg.NsObj oC m₂ → m₂ xn = some v → Fr h₀ L h m → News h₀ L h ((I, oI) :: (C, oC) :: (D, LCg.lst ys) :: (news' (two x y tx ty nn) ++ led)) → LCg.Off3 I C D (news' (two x y tx ty nn) ++ led) →
      ((@Ne Nat I C) ∧ (@Ne Nat I D) ∧ (@Ne Nat C D)) → RowsLed led ys xss → OffL led (news.map (·.1)) → wpAny (model prog w) A (eval elt (compEnvC scope cl C env)) (RowPost h₀ L m { s with heap := h, toks := tk } news led news' (nw - 0).toNat I oI C oC D ys) E' { s with heap := h, toks := tk })
    (fin : ∀ ys xss led x y tx ty nn, RowsLed led ys xss → xss.length = n → (∀ xs ∈ xss, xs.length = (nw - 0).toNat) → OffL led (news.map (·.1)) → Fin ys (news' (two x y tx ty nn) ++ led)) : LCg.CompRest prog w A h₀ L m env elt xn scope cl s (fun _ => True) P Fin n 0 [] news := comp_rows U turn fin
section law
local macro_rules | `(tactic| k_ne) => `(tactic| ((try dsimp only); first | exact NeB.l (by with_reducible assumption) | exact NeB.r (by with_reducible assumption)))
local macro_rules | `(tactic| k_upd) => `(tactic| first | (refine' Upd.head ?a; (case a => k_all)) | (refine' Upd.tail ?a ?b; (case b => k_upd); (case a => k_ne)))
local macro_rules | `(tactic| k_room) => `(tactic| ktr_room)
local macro_rules | `(tactic| k_mem) => `(tactic| first | assumption | (refine List.mem_append.mpr (Or.inl ?_); k_mem) | (refine List.mem_append.mpr (Or.inr ?_); k_mem))
local macro_rules | `(tactic| k_all) => `(tactic| first | exact OffB.mem (by with_reducible assumption) | exact OffL.use (by assumption) (by simp) | (refine List.forall_mem_append.mpr ⟨?_, ?_⟩ <;> k_all))
local macro_rules | `(tactic| walk_at "call ref") => `(tactic| (k_here; (with_reducible show wpAny _ _ (call (Value.ref 47) _) _ _ _); k_dflt (refine' take_call ?k1 ?k2 ?k3 ?k4 ?kU ?k5 ?kK ?kt ?kt2 ?kd ?ku ?_; (case k1 => k_asm); (case k2 => k_asm); (case k3 => k_asm); (case k4 => k_asm); (case kU => (intro o9; k_upd)); (case k5 => k_asm); (case kK => first | exact rfl | assumption); (case kt => decide); (case kt2 => decide); (case kd => ktr_room); (case ku => ktr_units); k_whole); (intro v9 t9 h9 tk9 x9 tx9 y9 ty9 n9 hlo9 hhi9 F9 N9); (try dsimp only); (try k_fold)))
local macro_rules | `(tactic| walk_at "call ref") => `(tactic| (k_here; (with_reducible show wpAny _ _ (call (Value.ref 66) _) _ _ _); k_dflt ((refine' sample_call ?k1 ?k2 ?k3 ?k4 ?kU ?k5 ?kK ?kd ?ku ?_); (case k1 => k_asm); (case k2 => k_asm); (case k3 => k_asm); (case k4 => k_asm); (case kU => (intro o9; k_upd)); (case k5 => k_asm); (case kK => (first | exact rfl | assumption)); (case kd => ktr_room); (case ku => ktr_units); k_whole); (intro v9 t9 h9 tk9 x9 tx9 y9 ty9 n9 F9 N9); (try dsimp only); (try k_fold)))
local macro_rules | `(tactic| walk_at "call ref") => `(tactic| (k_here; (with_reducible show wpAny _ _ (call (Value.ref 40) _) _ _ _); k_dflt (refine' pool_call ?k1 ?k2 ?k3 ?k4 ?k5 ?kK ?l ?i ?x ?kd ?ku ?_; (case k1 => k_asm); (case k2 => k_asm); (case k3 => k_asm); (case k4 => k_asm); (case k5 => k_asm); (case kK => first | exact rfl | assumption); (case l => assumption); (case i => assumption); (case x => omega); (case kd => ktr_room); (case ku => ktr_units); k_whole); (intro D9 x9 y9 tx9 ty9 n9 h9 tk9 F9 N9 o9); (replace o9 := OffB.of o9; (try simp only [OffB, and_true] at o9); (repeat (obtain ⟨_, o9⟩ := o9))); (try dsimp only); (try k_fold)))
local macro_rules | `(tactic| walk_at "call ref") => `(tactic| (k_here; (with_reducible show wpAny _ _ (call (Value.ref 28) _) _ _ _); k_dflt (refine' twice_call ?k1 ?k2 ?k3 ?k4 ?k5 ?kK ?l ?i ?x ?x1 ?z0 ?z1 ?kd ?ku ?_; (case k1 => k_asm); (case k2 => k_asm); (case k3 => k_asm); (case k4 => k_asm); (case k5 => k_asm); (case kK => first | exact rfl | assumption); (case l => exact News.isList (by k_asm) (by k_mem)); (case i => l_ints); (case x => first | decide | omega); (case x1 => first | decide | omega); (case z0 => first | decide | omega); (case z1 => first | decide | omega); (case kd => ktr_room); (case ku => ktr_units); k_whole); (intro D9 us9 n9 h9 tk9 F9 N9 o9 i9); (replace o9 := OffB.of o9; (try simp only [OffB, and_true] at o9); (repeat (obtain ⟨_, o9⟩ := o9))); (try dsimp only); (try k_fold)))
local macro_rules | `(tactic| walk_at "call ref") => `(tactic| (k_here; (with_reducible show wpAny _ _ (call (Value.ref 59) _) _ _ _); k_dflt (refine' law_twice_call ?k1 ?k2 ?k3 ?k4 ?k5 ?kK ?l ?i ?x ?x1 ?z0 ?z1 ?kd ?ku ?_; (case k1 => k_asm); (case k2 => k_asm); (case k3 => k_asm); (case k4 => k_asm); (case k5 => k_asm); (case kK => first | exact rfl | assumption); (case l => exact News.isList (by k_asm) (by k_mem)); (case i => l_ints); (case x => first | decide | omega); (case x1 => first | decide | omega); (case z0 => first | decide | omega); (case z1 => first | decide | omega); (case kd => ktr_room); (case ku => ktr_units); k_whole); (intro D9 us9 n9 h9 tk9 F9 N9 o9 i9); (replace o9 := OffB.of o9; (try simp only [OffB, and_true] at o9); (repeat (obtain ⟨_, o9⟩ := o9))); (try dsimp only); (try k_fold)))
local macro_rules | `(tactic| walk_at "eval ListComp") => `(tactic| (k_here; k_dflt (refine LCg.ListComp_U (F₀ := by k_asm) (by with_unfolding_all rfl) (by decide) (by rfl) (by decide) (by rfl) ?_)))
local macro_rules | `(tactic| walk_at "CompSrc") => `(tactic| (k_here; (with_reducible show LCg.CompSrc _ _ _ _ _ _ _ (PySem.Expr.Call _ _ _ _) _ _ _ _ _ _); k_dflt (refine LCg.CompSrc.range (by rfl) (by k_asm) (by k_asm) (by assumption) (small_one (by decide) (by decide) (by omega) (by omega)) (rangeSize_nat _ _) (by rw [PySem.sizeLine_eq]; omega) ?_; intro g9; refine comp_sample (by intro o9; k_upd) ?_ ?_; (intro ys9 v9 I9 oI9 C9 oC9 D9 m9 x9 y9 tx9 ty9 nn9 h9 tk9 E9 hC9 hx9 F9 N9 off9 ne9; (try dsimp only at N9 off9); (obtain ⟨_, _, _⟩ := NeB.three ne9; clear ne9; obtain ⟨offI, offC, offD⟩ := OffB.of3 off9; (try simp only [OffB, and_true] at offI offC offD); (repeat (obtain ⟨_, offI⟩ := offI)); (repeat (obtain ⟨_, offC⟩ := offC)); (repeat (obtain ⟨_, offD⟩ := offD)))); rotate_left; (intro ys9 zs9 x9 y9 tx9 ty9 nn9 hi9 hz9; (have hlz9 := IntsAre.length hi9); (try dsimp only)); rotate_left)))
local macro_rules | `(tactic| walk_at "CompSrc") => `(tactic| (k_here; (with_reducible show LCg.CompSrc _ _ _ _ _ _ _ (PySem.Expr.ListComp _ _ _ _) _ _ _ _ _ _); k_dflt (refine LCg.CompSrc.range (by rfl) (by k_asm) (by k_asm) (by assumption) (small_one (by decide) (by decide) (by omega) (by omega)) (rangeSize_nat _ _) (by rw [PySem.sizeLine_eq]; omega) ?_; intro g9; refine comp_rows_w (by k_mem) (by assumption) (by intro o9; k_upd) ?_ ?_; (intro ys9 xss9 led9 v9 I9 oI9 C9 oC9 D9 m9 x9 y9 tx9 ty9 nn9 h9 tk9 E9 hC9 hx9 F9 N9 off9 ne9 hR9 hO9; (try dsimp only at N9 off9); (try simp only [List.cons_append, List.nil_append] at N9 off9); (obtain ⟨_, _, _⟩ := NeB.three ne9; clear ne9; obtain ⟨offI, offC, offD⟩ := OffB.of3 off9; (try simp only [OffB, and_true] at offI offC offD); (repeat (obtain ⟨_, offI⟩ := offI)); (repeat (obtain ⟨_, offC⟩ := offC)); (repeat (obtain ⟨_, offD⟩ := offD)))); rotate_left; (intro ys9 xss9 led9 x9 y9 tx9 ty9 nn9 hR9 hn9 hl9 hO9; (try dsimp only)); rotate_left)))
local macro_rules | `(tactic| walk_at "none") => `(tactic| fail)
local macro_rules | `(tactic| walk_at "FinE") => `(tactic| ((unfold LCg.FinE); intro D9 h9 tk9 F9 N9 o9; (try dsimp only at N9 o9); (try simp only [List.cons_append, List.nil_append] at N9 o9); (have o8 := OffB.of o9; (try simp only [OffB, and_true] at o8); (repeat (obtain ⟨_, o8⟩ := o8))); (try dsimp only)))
local macro_rules | `(tactic| walk_at "SmpPost") => `(tactic| exact ⟨_, _, _, _, _, _, _, _, _, rfl, rfl, by k_asm, by k_asm⟩)
local macro_rules | `(tactic| walk_at "RowPost") => `(tactic| exact ⟨_, _, _, _, _, _, _, _, _, _, rfl, rfl, by k_asm, by k_asm, by assumption, by assumption, by assumption⟩)
local macro_rules | `(tactic| walk_at "execs cons For") => `(tactic| (k_here; (with_reducible show wpAny _ _ (execs [_, Stmt.Return _ _] _) _ _ _); apply Halt.out))
theorem law_body {w : World} {mean : ExcName → Option Value} {mg mb : Str → Option Value} : PySem.Challenge.rw_xm0793_01 = PySem.Challenge.rw_xm0793_01 →
  ∀ (dp un : Nat) (gd : Option (List Code)) (outer : List Env) (fa cd : Addr) (A₀ : Around) (base h₀ : Heap) (L l : Addr) (s : Shared) (vs : List Value) (ns : List Int) (o1 o2 o3 o4 o5 : Obj) (Q : Flow → Shared → Prop),
    Below A₀ base outer h₀ → Fr h₀ L s.heap (fun y => if y = Str.ofString "script" then some (.ref l) else none) → (hd.heap_39 w.params).In h₀ → Top hd.view_39 (looseW hd.view_39 []) mean mg mb h₀ →
    News h₀ L s.heap [(L + 1 + 1 + 1 + 1 + 1, o5), (L + 1 + 1 + 1 + 1, o4), (L + 1 + 1 + 1, o3), (L + 1 + 1, o2), (L + 1, o1)] →
    o1.data = .cell none → o2.data = .cell none → o3.data = .cell none → o4.data = .cell none → o5.data = .cell none →
    h₀.IsList l vs.toArray → IntsAre vs ns → ns.length ≤ 63 → dp + 12 < recursionLimit → un + 300 < cLine →
    (∀ h' tk' m', Fr h₀ L h' m' → Q (.ret (.bool true)) { s with heap := h', toks := tk' }) →
    wpAny (model PySem.Challenge.rw_xm0793_01.row.prog w) ((lawTop dp un gd outer).deeper (envOfC (Str.ofString "law") lawScope L fa (.ref cd))) (execs lawStmts (envOfC (Str.ofString "law") lawScope L fa (.ref cd))) Q
      (fun _ _ => False) s := by
  k_fill
  w_top off
  k_with_none
  intro _ dp un gd outer fa cd A₀ base h₀ L l s vs ns o1 o2 o3 o4 o5 Q B F X T N d1 d2 d3 d4 d5 hl hi hlen hd hu hret
  with_unfolding_all (show wpAny _ ((lawTop dp un gd outer).deeper (envOfC _ ⟨_, _, _, _, _⟩ _ _ _)) (execs (_ :: _) (envOfC _ ⟨_, _, _, _, _⟩ _ _ _)) _ _ _)
  repeat' (first | (k_unfold; (try dsimp only)) | walk1 | (dsimp only; walk1) | (leave1; (try dsimp only)) | fail "no step")
  all_goals refine Halt.mk ?_
  refine' law_tail_use B ?k2 X T ?k5 ?m1 ?m2 ?m3 ?m4 ?d1 ?d2 ?d3 ?d4 ?m5 ?R ?m6 ?hn ?hl ?hO ?sub ?eM ?eW ?x1 ?x2 ?x3 ?n1 ?n2 ?hd ?hu ?ret
  case ret => (intro h9 tk9 m9 F9; exact hret _ _ _ F9)
  case k2 => k_asm
  case k5 => k_asm
  case hO => assumption
  case R => assumption
  case hn => assumption
  case hl => assumption
  case m1 => k_mem
  case m2 => k_mem
  case m3 => k_mem
  case m4 => k_mem
  case d1 => assumption
  case d2 => assumption
  case d3 => assumption
  case d4 => assumption
  case m5 => k_mem
  case m6 => (intro p9 hp9; k_mem)
  case sub => (intro b9 hb9; simp only [List.mem_cons, List.not_mem_nil, or_false] at hb9; rcases hb9 with rfl | rfl <;> simp)
  case eM => omega
  case eW => omega
  case x1 => omega
  case x2 => omega
  case x3 => omega
  case n1 => exact NeB.r (by with_reducible assumption)
  case n2 => exact NeB.r (by with_reducible assumption)
  case hd => omega
  case hu => omega
end law
end Mine
-- part M10
namespace Mine
set_option maxHeartbeats 2000000
theorem law_entry {w : World} {mean : ExcName → Option Value} {mg mb : Str → Option Value} {dp un : Nat} {gd : Option (List Code)} {outer : List Env} {fa cd : Addr} {A₀ A₁ : Around} {base h₀ : Heap} {L l : Addr} {s : Shared} {vs : List Value} {ns : List Int} {o1 o2 o3 o4 o5 : Obj} {v1 v2 v3 v4 v5 : Option Value}
    {m₁ : Str → Option Value} {en : Env} {body : List Stmt} {Q : Flow → Shared → Prop} {E : Value → Shared → Prop}
    (B : Below A₀ base outer h₀) (F : Fr h₀ L s.heap m₁) (X : (hd.heap_39 w.params).In h₀) (T : Top hd.view_39 (looseW hd.view_39 []) mean mg mb h₀)
    (N : News h₀ L s.heap [(L + 1 + 1 + 1 + 1 + 1, o5), (L + 1 + 1 + 1 + 1, o4), (L + 1 + 1 + 1, o3), (L + 1 + 1, o2), (L + 1, o1)])
    (c1 : o1.data = .cell v1) (c2 : o2.data = .cell v2) (c3 : o3.data = .cell v3) (c4 : o4.data = .cell v4) (c5 : o5.data = .cell v5) (hl : h₀.IsList l vs.toArray) (hi : IntsAre vs ns)
    (hm : m₁ = fun y => if y = Str.ofString "script" then some (.ref l) else none) (e1 : v1 = none) (e2 : v2 = none) (e3 : v3 = none) (e4 : v4 = none) (e5 : v5 = none)
    (hA : A₁ = lawTop dp un gd outer) (hE : en = envOfC (Str.ofString "law") lawScope L fa (.ref cd)) (hB : body = lawStmts)
    (hlen : ns.length ≤ 63) (hd : dp + 12 < recursionLimit) (hu : un + 300 < cLine)
    (hret : ∀ h' tk' m', Fr h₀ L h' m' → Q (.ret (.bool true)) { s with heap := h', toks := tk' }) :
    wpAny (model PySem.Challenge.rw_xm0793_01.row.prog w) (A₁.deeper en) (execs body en) Q E s := by
  subst hm e1 e2 e3 e4 e5 hA hE hB
  exact wpAny_mono (law_body rfl _ _ _ _ _ _ _ _ _ _ _ _ _ _ _ _ _ _ _ _ B F X T N c1 c2 c3 c4 c5 hl hi hlen hd hu hret) (fun _ _ h => h) (fun _ _ h => h.elim)
theorem lawA : PySem.Challenge.rw_xm0793_01.Holds := hd (by
  w_strict
    (w_top off
     k_with_none
     k_go0
     refine' law_entry ?B ?F ?X ?T ?N ?c1 ?c2 ?c3 ?c4 ?c5 ?hl ?hi ?hm ?e1 ?e2 ?e3 ?e4 ?e5 ?hA ?hE ?hB ?hlen ?hd ?hu ?hret
     case B => exact (by assumption)
     case F => assumption
     case X => assumption
     case T => assumption
     case N => assumption
     case c1 => assumption
     case c2 => assumption
     case c3 => assumption
     case c4 => assumption
     case c5 => assumption
     case hl => assumption
     case hi => assumption
     case hm => (with_unfolding_all rfl)
     case e1 => (with_unfolding_all rfl)
     case e2 => with_unfolding_all rfl
     case e3 => with_unfolding_all rfl
     case e4 => with_unfolding_all rfl
     case e5 => with_unfolding_all rfl
     case hA => with_unfolding_all rfl
     case hE => with_unfolding_all rfl
     case hB => with_unfolding_all rfl
     case hlen => omega
     case hd => decide
     case hu => decide
     case hret => (intro h9 tk9 m9 F9; k_end; wrow_close)
     ))
end Mine
theorem PySem.Challenge.cw_xm0793_01_holds : PySem.Challenge.rw_xm0793_01.Holds :=
  Mine.lawA
