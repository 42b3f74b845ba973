import PyProof.Rows.All
import Wide.All
import OpenK.AllK
import Wide.FinOn
import PySem.Challenge.RW_nz0077_01
set_option Elab.async false
section NzBase
open PySem PySem.W PyProof.Rows
namespace Mine
set_option maxRecDepth 100000 in
set_option maxHeartbeats 8000000 in
open_top hd for PySem.Challenge.rw_nz0077_01
end Mine
end NzBase
section NzC
open PySem PySem.W PyProof.Rows PySem.Calls
namespace Mine
set_option maxRecDepth 100000

/-- entering a def: all that stands is kept -/
theorem enter_def {prog : Program} {w : World} {A₀ A : Around} {s : Shared} {base h₀ : Heap} {outer : List Env} {L : Addr} {m mg mb : Str → Option Value} {env : Env} {K : Frag} {p : Program} {loose : List Str} {mean : ExcName → Option Value}
    {R : Result → Shared → Prop} {name qual : Str} {params : Arguments} {body : List Stmt} {scope : Scope} {dV kV doc pm cdv ct oc : Value} {an od : Option Addr} {osl : Array (Option Value)} {f : Addr} {args : Args} {binds : List (Str × Value)}
    (B : Below A₀ base outer h₀) (F : Fr h₀ L s.heap m) (X₀ : K.In h₀) (T : Top p loose mean mg mb h₀) (hA : A.frames = some (env :: outer)) (hf : env.frame = some L) (hke : env.scope.kind = .function)
    (ho : K.lookup f = some ⟨oc, od, .func (fnOf name qual params body scope dV kV doc pm an cdv ct), osl⟩) (hcd : codeIn K cdv qual = true) (hroom : A.depth < recursionLimit)
    (hbind : BindsTo s (fnOf name qual params body scope dV kV doc pm an cdv ct) args binds) (hloc : ∀ y ∈ binds, scope.names.lookup y.1 = some .local)
    (h : ∀ L' h₁, Fr s.heap L' h₁ (fun y => binds.reverse.lookup y) → News s.heap L' h₁ [] → Below A base (env :: outer) s.heap → K.In s.heap → Top p loose mean mg mb s.heap →
      wpAny (model prog w) (A.deeper (envOf qual scope L' f cdv)) (execs body (envOf qual scope L' f cdv))
        (fun fl s' => LeaveK h₀ L m s.heap R (match fl with | .ret v => v | _ => .none) s')
        (fun e s' => wpAny (model prog w) (A.deeper (envOf qual scope L' f cdv)) (leaving (envOf qual scope L' f cdv) e) (fun _ s'' => R (.error e) s'') (fun e' s'' => R (.error e') s'') s')
        { s with heap := h₁, toks := s.toks + binds.length })
    (hco : scope.isCoroutine = false) (hgen : scope.isGenerator = false) (hk : scope.kind = .function)
    (hcell : ∀ x ∈ scope.names, x.2 ≠ .cell) : codeAny (model prog w) A (.call (.ref f) args) R s := by
  have N : News h₀ L s.heap [] := News.nil
  obtain ⟨FG, BG, st, lv⟩ := groundX (R := R) B F N hA hf hke
  refine codeAny_call_def (fd := fnX name qual params body scope [] dV kV doc pm an cdv ct) (body := body) (binds := binds) hroom ((X₀.keeps F.keep) _ _ ho) rfl (T.nolimit.keeps F.keep) (codeRec_of (X₀.keeps F.keep) hcd) rfl hbind hcell hloc (fun h₁ hns hk₁ => ?_) hco hgen hk
  exact wpAny_mono (h s.heap.objs.size h₁ ⟨hns, hk₁, Nat.le_refl _⟩ News.nil BG (X₀.keeps F.keep) (T.keeps F.keep)) (fun fl s' hl => lv _ _ hl) fun _ _ y => y

/-- entering a def whose scope has cells: all that stands is kept -/
theorem enter_defC {prog : Program} {w : World} {A₀ A : Around} {s : Shared} {base h₀ : Heap} {outer : List Env} {L : Addr} {m mg mb : Str → Option Value} {env : Env} {K : Frag} {p : Program} {loose : List Str} {mean : ExcName → Option Value}
    {R : Result → Shared → Prop} {name qual : Str} {params : Arguments} {body : List Stmt} {scope : Scope} {dV kV doc pm cdv ct oc : Value} {an od : Option Addr} {osl : Array (Option Value)} {f : Addr} {args : Args} {binds : List (Str × Value)}
    (B : Below A₀ base outer h₀) (F : Fr h₀ L s.heap m) (X₀ : K.In h₀) (T : Top p loose mean mg mb h₀) (hA : A.frames = some (env :: outer)) (hf : env.frame = some L) (hke : env.scope.kind = .function)
    (ho : K.lookup f = some ⟨oc, od, .func (fnOf name qual params body scope dV kV doc pm an cdv ct), osl⟩) (hcd : codeIn K cdv qual = true) (hroom : A.depth < recursionLimit)
    (hbind : BindsTo s (fnOf name qual params body scope dV kV doc pm an cdv ct) args binds) (hkind : (binds.all fun y => scope.names.lookup y.1 == some .local || scope.names.lookup y.1 == some .cell) = true)
    (hnd : ((cellsFrom 0 scope.names []).map (·.1)).Nodup)
    (h : ∀ L' h₁ tk cells, Fr s.heap L' h₁ (bindL (envOfC qual scope L' f cdv).kindOf binds fun _ => none) → News s.heap L' h₁ (cells ++ []) →
      CellsAre (bindC (envOfC qual scope L' f cdv).kindOf binds fun _ => none) (cellsFrom (L' + 1) scope.names []) cells → Below A base (env :: outer) s.heap → K.In s.heap → Top p loose mean mg mb s.heap →
      wpAny (model prog w) (A.deeper (envOfC qual scope L' f cdv)) (execs body (envOfC qual scope L' f cdv))
        (fun fl s' => LeaveK h₀ L m s.heap R (match fl with | .ret v => v | _ => .none) s')
        (fun e s' => wpAny (model prog w) (A.deeper (envOfC qual scope L' f cdv)) (leaving (envOfC qual scope L' f cdv) e) (fun _ s'' => R (.error e) s'') (fun e' s'' => R (.error e') s'') s')
        { s with heap := h₁, toks := tk })
    (hco : scope.isCoroutine = false) (hgen : scope.isGenerator = false) (hk : scope.kind = .function) : codeAny (model prog w) A (.call (.ref f) args) R s := by
  have N : News h₀ L s.heap [] := News.nil
  obtain ⟨FG, BG, st, lv⟩ := groundX (R := R) B F N hA hf hke
  refine codeAny_call_function hroom ((X₀.keeps F.keep) _ _ ho) rfl hco hgen rfl (codeRec_of (X₀.keeps F.keep) hcd) (hbind _ _ _ _ ?_)
  refine wpAny_newFunctionEnv_cells hk (kindsX hkind _) fun env' he s' x => ?_
  subst he
  refine ⟨(T.nolimit.keeps F.keep).keeps x.toInCall.keep, codeAny_func ?_⟩
  obtain ⟨h₁, tk, rfl, _⟩ := x.done
  have hk₁ := x.toInCall.keep
  obtain ⟨cells, NC, Y⟩ := Cl.news (h₀ := s.heap) (Nat.le_refl _) fun n c hm => ⟨x.cell n c (lookup_of_mem_nodup (cellsFrom_names scope.names 0 (s.heap.objs.size + 1) [] [] rfl ▸ hnd) hm), x.above n c hm⟩
  refine wpAny_mono (h s.heap.objs.size h₁ tk cells ⟨x.toInCall.ns, hk₁, Nat.le_refl _⟩ (fun p hp => ?_) Y BG (X₀.keeps F.keep) (T.keeps F.keep)) (fun fl s' hl => lv _ _ hl) fun _ _ y => y
  rw [List.append_nil] at hp
  exact NC p hp

/-- a list of ints stands at a -/
def RowAt (h : Heap) (a : Addr) (ns : List Int) : Prop := ∃ vs : List Value, h.IsList a vs.toArray ∧ IntsAre vs ns
theorem RowAt.keeps {h h' : Heap} {a : Addr} {ns : List Int} (r : RowAt h a ns) (k : ∀ b o, h.get? b = some o → h'.get? b = some o) : RowAt h' a ns :=
  let ⟨vs, ⟨o, h1, h2⟩, hi⟩ := r; ⟨vs, ⟨o, k _ _ h1, h2⟩, hi⟩
/-- a list of ints that the caller of base h₀, frame L, may enter into its ledger -/
def RowNew (h₀ : Heap) (L : Addr) (h : Heap) (a : Addr) (ns : List Int) : Prop := ∃ (vs : List Value) (n : Nat), h.get? a = some (listOf vs.toArray n) ∧ IntsAre vs ns ∧ a ≠ L ∧ h₀.get? a = none
theorem RowNew.at {h₀ h : Heap} {L a : Addr} {ns : List Int} (r : RowNew h₀ L h a ns) : RowAt h a ns :=
  let ⟨vs, n, h1, h2, _⟩ := r; ⟨vs, ⟨_, h1, rfl, n, rfl⟩, h2⟩

section
variable (w : World) (p : Program) (loose : List Str) (mean : ExcName → Option Value) (mg mb : Str → Option Value)
/-- a call of the def at f, d frames deep, from any caller: under Pre (of the heap) it ends, keeps all that stands, and Post holds of what it gives -/
def Says (f : Addr) (d : Nat) (vs : List Value) (Pre : Heap → Prop) (Post : Heap → Addr → Value → Heap → Prop) : Prop :=
  ∀ (dp un : Nat) (gd : Option (List Code)) (cn : Str) (cs : Scope) (a : Addr) (ccd : Value) (cl : List (Str × Addr)) (outer : List Env) (A₀ : Around) (base h₀ : Heap) (L : Addr) (m : Str → Option Value) (news : List (Addr × Obj)) (s : Shared) (Q E : Value → Shared → Prop),
    Below A₀ base outer h₀ → Fr h₀ L s.heap m → (hd.heap_39 w.params).In h₀ → News h₀ L s.heap news → Top p loose mean mg mb h₀ → cs.kind = .function → dp + d < recursionLimit → un + 100 * d < cLine → Pre s.heap →
    (∀ v h' tk', Fr h₀ L h' m → News h₀ L h' news → s.heap.StaysIn h' → Post h₀ L v h' → Q v { s with heap := h', toks := tk' }) →
    wpAny (model PySem.Challenge.rw_nz0077_01.row.prog w) (ktrTop dp un gd cn cs L a ccd cl outer) (call (.ref f) vs) Q E s
end
abbrev GivesInt (k : Int) : Heap → Addr → Value → Heap → Prop := fun _ _ v _ => ∃ t, v = .int k t
abbrev GivesBool (b : Bool) : Heap → Addr → Value → Heap → Prop := fun _ _ v _ => v = .bool b
abbrev GivesRow (ns : List Int) : Heap → Addr → Value → Heap → Prop := fun h₀ L v h' => ∃ D, v = .ref D ∧ RowNew h₀ L h' D ns

theorem News.stays {h₀ h h' : Heap} {L : Addr} {news : List (Addr × Obj)} (N : News h₀ L h news) (k : h.StaysIn h') : News h₀ L h' news := fun p hp => ⟨k _ _ (N p hp).1, (N p hp).2⟩

section
variable {w : World} {p : Program} {loose : List Str} {mean : ExcName → Option Value} {mg mb : Str → Option Value}
  {f : Addr} {d : Nat} {vs : List Value} {Pre : Heap → Prop}
  {dp un : Nat} {gd : Option (List Code)} {cn : Str} {cs : Scope} {a : Addr} {ccd : Value} {cl : List (Str × Addr)} {outer : List Env} {A₀ : Around} {base h₀ : Heap} {L : Addr} {m : Str → Option Value} {news : List (Addr × Obj)} {s : Shared} {Q E : Value → Shared → Prop}
theorem says_int {k : Int} (C : Says w p loose mean mg mb f d vs Pre (GivesInt k)) (B : Below A₀ base outer h₀) (F : Fr h₀ L s.heap m) (X : (hd.heap_39 w.params).In h₀) (N : News h₀ L s.heap news) (T : Top p loose mean mg mb h₀) (hk : cs.kind = .function)
    (hd : dp + d < recursionLimit) (hu : un + 100 * d < cLine) (hp : Pre s.heap)
    (ret : ∀ t h' tk', Fr h₀ L h' m → News h₀ L h' news → Q (.int k t) { s with heap := h', toks := tk' }) :
    wpAny (model PySem.Challenge.rw_nz0077_01.row.prog w) (ktrTop dp un gd cn cs L a ccd cl outer) (call (.ref f) vs) Q E s :=
  C _ _ _ _ _ _ _ _ _ _ _ _ _ _ _ _ _ _ B F X N T hk hd hu hp fun v h' tk' F' N' _ q => by
    obtain ⟨t, rfl⟩ := q
    exact ret t h' tk' F' N'
theorem says_bool {b : Bool} (C : Says w p loose mean mg mb f d vs Pre (GivesBool b)) (B : Below A₀ base outer h₀) (F : Fr h₀ L s.heap m) (X : (hd.heap_39 w.params).In h₀) (N : News h₀ L s.heap news) (T : Top p loose mean mg mb h₀) (hk : cs.kind = .function)
    (hd : dp + d < recursionLimit) (hu : un + 100 * d < cLine) (hp : Pre s.heap)
    (ret : ∀ h' tk', Fr h₀ L h' m → News h₀ L h' news → Q (.bool b) { s with heap := h', toks := tk' }) :
    wpAny (model PySem.Challenge.rw_nz0077_01.row.prog w) (ktrTop dp un gd cn cs L a ccd cl outer) (call (.ref f) vs) Q E s :=
  C _ _ _ _ _ _ _ _ _ _ _ _ _ _ _ _ _ _ B F X N T hk hd hu hp fun v h' tk' F' N' _ q => by
    obtain rfl := q
    exact ret h' tk' F' N'
theorem says_row {ns : List Int} (C : Says w p loose mean mg mb f d vs Pre (GivesRow ns)) (B : Below A₀ base outer h₀) (F : Fr h₀ L s.heap m) (X : (hd.heap_39 w.params).In h₀) (N : News h₀ L s.heap news) (T : Top p loose mean mg mb h₀) (hk : cs.kind = .function)
    (hd : dp + d < recursionLimit) (hu : un + 100 * d < cLine) (hp : Pre s.heap)
    (ret : ∀ D us n h' tk', Fr h₀ L h' m → IntsAre us ns → News h₀ L h' ((D, listOf us.toArray n) :: news) → Q (.ref D) { s with heap := h', toks := tk' }) :
    wpAny (model PySem.Challenge.rw_nz0077_01.row.prog w) (ktrTop dp un gd cn cs L a ccd cl outer) (call (.ref f) vs) Q E s :=
  C _ _ _ _ _ _ _ _ _ _ _ _ _ _ _ _ _ _ B F X N T hk hd hu hp fun v h' tk' F' N' _ q => by
    obtain ⟨D, rfl, us, n, h1, h2, h3, h4⟩ := q
    refine ret D us n h' tk' F' h2 fun q hq => ?_
    rcases List.mem_cons.mp hq with rfl | hq
    · exact ⟨h1, h3, h4⟩
    · exact N' q hq
end

theorem rowAt_base {h₀ h : Heap} {L a : Addr} {m : Str → Option Value} {ns : List Int} (r : RowAt h₀ a ns) (F : Fr h₀ L h m) : RowAt h a ns := r.keeps F.keep
theorem rowAt_list {h₀ h : Heap} {L a : Addr} {m : Str → Option Value} {vs : List Value} {ns : List Int} (r : h₀.IsList a vs.toArray) (hi : IntsAre vs ns) (F : Fr h₀ L h m) : RowAt h a ns := RowAt.keeps ⟨vs, r, hi⟩ F.keep
theorem rowAt_news {h₀ h : Heap} {L a : Addr} {news : List (Addr × Obj)} {vs : List Value} {n : Nat} {ns : List Int} (N : News h₀ L h news) (hm : (a, listOf vs.toArray n) ∈ news) (hi : IntsAre vs ns) : RowAt h a ns :=
  ⟨vs, ⟨_, N.get hm, rfl, n, rfl⟩, hi⟩
theorem rowNew_news {h₀ h : Heap} {L a : Addr} {news : List (Addr × Obj)} {vs : List Value} {n : Nat} {ns : List Int} (N : News h₀ L h news) (hm : (a, listOf vs.toArray n) ∈ news) (hi : IntsAre vs ns) : RowNew h₀ L h a ns :=
  ⟨vs, n, N.get hm, hi, (N _ hm).2.1, (N _ hm).2.2⟩
theorem stays_of {h₀ h : Heap} {L : Addr} {m : Str → Option Value} (F : Fr h₀ L h m) : h₀.StaysIn h := F.keep

theorem RowNew.to {h₀ h : Heap} {L a : Addr} {ns ns' : List Int} (e : ns = ns') (r : RowNew h₀ L h a ns) : RowNew h₀ L h a ns' := e ▸ r
theorem RowAt.to {h : Heap} {a : Addr} {ns ns' : List Int} (e : ns = ns') (r : RowAt h a ns) : RowAt h a ns' := e ▸ r
theorem mul_pow_ok {a : Int} {e : Nat} (h : e ≤ 60) : IntMulOk a (2 ^ e) := by
  refine IntMulOk.of_right (intBits_le_iff.mpr ?_)
  have : ((2 : Int) ^ e).natAbs = 2 ^ e := by rw [Int.natAbs_pow]; rfl
  rw [this]
  exact Nat.pow_lt_pow_right (by decide) (by omega)

/-- the sign of a comparison of x with y -/
abbrev GivesCmp (x y : Nat) : Heap → Addr → Value → Heap → Prop := fun _ _ v _ => ∃ k t, v = .int k t ∧ (k < 0 ↔ x < y) ∧ (0 < k ↔ y < x)
abbrev GivesNat : Heap → Addr → Value → Heap → Prop := fun _ _ v _ => ∃ k t, v = .int k t ∧ 0 ≤ k
section
variable {w : World} {p : Program} {loose : List Str} {mean : ExcName → Option Value} {mg mb : Str → Option Value}
  {f : Addr} {d : Nat} {vs : List Value} {Pre : Heap → Prop}
  {dp un : Nat} {gd : Option (List Code)} {cn : Str} {cs : Scope} {a : Addr} {ccd : Value} {cl : List (Str × Addr)} {outer : List Env} {A₀ : Around} {base h₀ : Heap} {L : Addr} {m : Str → Option Value} {news : List (Addr × Obj)} {s : Shared} {Q E : Value → Shared → Prop}
theorem cmp_of_int {x y : Nat} (C : Says w p loose mean mg mb f d vs Pre (GivesInt (if x < y then -1 else if x = y then 0 else 1))) : Says w p loose mean mg mb f d vs Pre (GivesCmp x y) :=
  fun _ _ _ _ _ _ _ _ _ _ _ _ _ _ _ _ _ _ B F X N T hk hd hu hp ret => C _ _ _ _ _ _ _ _ _ _ _ _ _ _ _ _ _ _ B F X N T hk hd hu hp fun v h' tk' F' N' S q => by
    obtain ⟨t, rfl⟩ := q
    refine ret _ h' tk' F' N' S ⟨_, t, rfl, ?_, ?_⟩
    · by_cases h : x < y
      · simp [h]
      · by_cases h2 : x = y <;> simp [h, h2]
    · by_cases h : x < y
      · simp [h]; omega
      · by_cases h2 : x = y
        · simp [h, h2]
        · simp [h, h2]; omega
theorem says_cmp {x y : Nat} (C : Says w p loose mean mg mb f d vs Pre (GivesCmp x y)) (B : Below A₀ base outer h₀) (F : Fr h₀ L s.heap m) (X : (hd.heap_39 w.params).In h₀) (N : News h₀ L s.heap news) (T : Top p loose mean mg mb h₀) (hk : cs.kind = .function)
    (hd : dp + d < recursionLimit) (hu : un + 100 * d < cLine) (hp : Pre s.heap)
    (ret : ∀ k t h' tk', (k < 0 ↔ x < y) → (0 < k ↔ y < x) → Fr h₀ L h' m → News h₀ L h' news → Q (.int k t) { s with heap := h', toks := tk' }) :
    wpAny (model PySem.Challenge.rw_nz0077_01.row.prog w) (ktrTop dp un gd cn cs L a ccd cl outer) (call (.ref f) vs) Q E s :=
  C _ _ _ _ _ _ _ _ _ _ _ _ _ _ _ _ _ _ B F X N T hk hd hu hp fun v h' tk' F' N' _ q => by
    obtain ⟨k, t, rfl, q1, q2⟩ := q
    exact ret k t h' tk' q1 q2 F' N'
theorem says_nat (C : Says w p loose mean mg mb f d vs Pre GivesNat) (B : Below A₀ base outer h₀) (F : Fr h₀ L s.heap m) (X : (hd.heap_39 w.params).In h₀) (N : News h₀ L s.heap news) (T : Top p loose mean mg mb h₀) (hk : cs.kind = .function)
    (hd : dp + d < recursionLimit) (hu : un + 100 * d < cLine) (hp : Pre s.heap)
    (ret : ∀ k t h' tk', 0 ≤ k → Fr h₀ L h' m → News h₀ L h' news → Q (.int k t) { s with heap := h', toks := tk' }) :
    wpAny (model PySem.Challenge.rw_nz0077_01.row.prog w) (ktrTop dp un gd cn cs L a ccd cl outer) (call (.ref f) vs) Q E s :=
  C _ _ _ _ _ _ _ _ _ _ _ _ _ _ _ _ _ _ B F X N T hk hd hu hp fun v h' tk' F' N' _ q => by
    obtain ⟨k, t, rfl, q1⟩ := q
    exact ret k t h' tk' q1 F' N'
end

theorem cmp_nat {w : World} {p : Program} {loose : List Str} {mean : ExcName → Option Value} {mg mb : Str → Option Value} {f : Addr} {d : Nat} {vs : List Value} {Pre : Heap → Prop} {x y : Nat}
    (hyx : y ≤ x) (C : Says w p loose mean mg mb f d vs Pre (GivesCmp x y)) : Says w p loose mean mg mb f d vs Pre GivesNat :=
  fun _ _ _ _ _ _ _ _ _ _ _ _ _ _ _ _ _ _ B F X N T hk hd hu hp ret => C _ _ _ _ _ _ _ _ _ _ _ _ _ _ _ _ _ _ B F X N T hk hd hu hp fun v h' tk' F' N' S q => by
    obtain ⟨k, t, rfl, q1, _⟩ := q
    exact ret _ h' tk' F' N' S ⟨k, t, rfl, by omega⟩
theorem rowNew_push {h₀ h : Heap} {L a : Addr} {news : List (Addr × Obj)} {vs : List Value} {n : Nat} {ns : List Int} {k : Int} {t : Tok} (N : News h₀ L h news) (hm : (a, listOf (vs.toArray.push (.int k t)) n) ∈ news) (hi : IntsAre vs ns) : RowNew h₀ L h a (ns ++ [k]) := by
  rw [List.push_toArray] at hm
  exact rowNew_news N hm (IntsAre.append hi (.cons k t .nil))
section
variable {prog : Program} {w : World} {A : Around} {h₀ : Heap} {L : Addr} {m : Str → Option Value} {env : Env} {ct elt : Expr} {x : Str} {scope : Scope} {cl : List (Str × Addr)} {s : Shared} {S : List (Addr × Obj) → Prop} {Fin : List Value → List (Addr × Obj) → Prop} {news : List (Addr × Obj)}
theorem foldl_stay {α β : Type} (l : List α) (b : β) : l.foldl (fun b _ => b) b = b := by
  induction l with
  | nil => rfl
  | cons a r ih => exact ih
/-- a comprehension whose test takes no item -/
theorem comp_none {vs : List Value} {ns : List Int} (hi : IntsAre vs ns)
    (turn : ∀ k t I oI C oC D m₂ ys l h tk (E' : Value → Shared → Prop), k ∈ ns → IntsAre ys l → LCg.NsObj oC m₂ → m₂ x = some (.int k t) → Fr h₀ L h m → News h₀ L h ((I, oI) :: (C, oC) :: (D, LCg.lst ys) :: news) → LCg.Off3 I C D news → ((@Ne Nat I C) ∧ (@Ne Nat I D) ∧ (@Ne Nat C D)) → KPfMark →
      wpAny (model prog w) A (isTrue ct (compEnvC scope cl C env) (eval ct (compEnvC scope cl C env))) (fun b s' => if b = true then wpAny (model prog w) A (eval elt (compEnvC scope cl C env)) (LCg.CompEnd h₀ L m { s with heap := h, toks := tk } I oI C oC D (LCg.lst ys) S (fun y news' => KCiEl news l l y news')) E' s'
        else LCg.CompEnd h₀ L m { s with heap := h, toks := tk } I oI C oC D (LCg.lst ys) S (fun _ news' => KCiNo news l l news') Value.none s') E' { s with heap := h, toks := tk })
    (fin : Fin [] news) : LCt.CompRestT prog w A h₀ L m env ct elt x scope cl s S (fun i v => vs.toArray[i]? = some v) Fin vs.toArray.size 0 [] news :=
  kci_list (fun l _ => l) hi turn (fun ys hy _ => by
    rw [foldl_stay] at hy
    cases hy
    exact fin) (fun l _ => Nat.le_succ l.length)
end
end Mine
end NzC
section NzM
namespace Mine
/-- the limbs of x in base 2 ^ W, the lowest first -/
def dig (W : Nat) (x : Nat) : List Int :=
  if h : 1 ≤ W ∧ 0 < x then ((x % 2 ^ W : Nat) : Int) :: dig W (x / 2 ^ W) else []
termination_by x
decreasing_by
  refine Nat.div_lt_self h.2 ?_
  calc 1 < 2 ^ 1 := by decide
    _ ≤ 2 ^ W := Nat.pow_le_pow_right (by decide) h.1
theorem dig_zero (W : Nat) : dig W 0 = [] := by
  rw [dig, dif_neg (by omega)]
theorem dig_pos {W x : Nat} (hW : 1 ≤ W) (hx : 0 < x) : dig W x = ((x % 2 ^ W : Nat) : Int) :: dig W (x / 2 ^ W) := by
  rw [dig, dif_pos ⟨hW, hx⟩]
theorem two_le {W : Nat} (hW : 1 ≤ W) : 2 ≤ 2 ^ W := by
  calc 2 = 2 ^ 1 := by decide
    _ ≤ 2 ^ W := Nat.pow_le_pow_right (by decide) hW
theorem div_lt_pow {W k x : Nat} (hW : 1 ≤ W) (h : x < 2 ^ (k + 1)) : x / 2 ^ W < 2 ^ k := by
  have h1 : x / 2 ^ W ≤ x / 2 := by
    refine Nat.div_le_div_left (two_le hW) (by decide)
  have h2 : x / 2 < 2 ^ k := by
    rw [Nat.div_lt_iff_lt_mul (by decide)]
    rw [Nat.pow_succ] at h
    exact h
  omega
theorem dig_len {W : Nat} (hW : 1 ≤ W) : ∀ (k x : Nat), x < 2 ^ k → (dig W x).length ≤ k
  | 0, x, h => by
    have : x = 0 := by simpa using h
    subst this
    rw [dig_zero]; exact Nat.le_refl _
  | k + 1, x, h => by
    by_cases hx : 0 < x
    · rw [dig_pos hW hx, List.length_cons]
      exact Nat.succ_le_succ (dig_len hW k _ (div_lt_pow hW h))
    · have : x = 0 := by omega
      subst this
      rw [dig_zero]; exact Nat.zero_le _
/-- small enough for the model's lines -/
def Sm (x : Nat) : Prop := x < 2 ^ 198
theorem Sm.len8 {W x : Nat} (h : Sm x) (hW : 1 ≤ W) : (dig W x).length ≤ 198 := dig_len hW 198 x h
theorem Sm.len {W x : Nat} (h : Sm x) (hW : 1 ≤ W) : (dig W x).length ≤ 200 := Nat.le_trans (h.len8 hW) (by decide)
theorem Sm.le {x y : Nat} (h : Sm y) (hx : x ≤ y) : Sm x := Nat.lt_of_le_of_lt hx h

theorem natPow_cast (k : Nat) : ((2 ^ k : Nat) : Int) = (2 : Int) ^ k := by
  induction k with
  | zero => rfl
  | succ n ih => rw [Nat.pow_succ, Int.pow_succ, ← ih]; omega
theorem fdiv_nat (x W : Nat) : ((x : Int)).fdiv (2 ^ W) = ((x / 2 ^ W : Nat) : Int) := by
  rw [← natPow_cast, Int.fdiv_eq_ediv_of_nonneg _ (Int.natCast_nonneg _)]; rfl
theorem fmod_nat (x W : Nat) : ((x : Int)).fmod (2 ^ W) = ((x % 2 ^ W : Nat) : Int) := by
  rw [← natPow_cast, Int.fmod_eq_emod_of_nonneg _ (Int.natCast_nonneg _)]; rfl

theorem row_start {W x : Nat} {xi : Int} (hx : xi = (x : Int)) : 0 ≤ xi ∧ ([] : List Int).length ≤ 200 ∧ [] ++ dig W xi.toNat = dig W x := by
  subst hx
  exact ⟨by omega, by simp, by simp⟩
theorem row_turn {W x : Nat} {f wi : Int} {l : List Int} (hW : 1 ≤ W) (hwi : wi = (W : Int)) (hlen : (dig W x).length ≤ 200) (hp : 0 < f) (h0 : 0 ≤ f) (h2 : l ++ dig W f.toNat = dig W x) :
    0 ≤ f.fdiv (2 ^ wi.toNat) ∧ (l ++ [f.fmod (2 ^ wi.toNat)]).length ≤ 200 ∧ l ++ [f.fmod (2 ^ wi.toNat)] ++ dig W (f.fdiv (2 ^ wi.toNat)).toNat = dig W x := by
  subst hwi
  obtain ⟨v, rfl⟩ := Int.eq_ofNat_of_zero_le h0
  have hv : 0 < v := by omega
  have e : ((W : Int)).toNat = W := by omega
  rw [e, fdiv_nat, fmod_nat]
  rw [Int.toNat_natCast, dig_pos hW hv] at h2
  rw [Int.toNat_natCast]
  have e3 : l ++ [((v % 2 ^ W : Nat) : Int)] ++ dig W (v / 2 ^ W) = dig W x := by
    rw [← h2, List.append_assoc]; rfl
  refine ⟨Int.natCast_nonneg _, ?_, e3⟩
  have e4 := congrArg List.length e3
  rw [List.length_append] at e4
  omega
theorem row_less {W : Nat} {f wi : Int} (hW : 1 ≤ W) (hwi : wi = (W : Int)) (hp : 0 < f) : (f.fdiv (2 ^ wi.toNat)).toNat < f.toNat := by
  subst hwi
  obtain ⟨v, rfl⟩ := Int.eq_ofNat_of_zero_le (Int.le_of_lt hp)
  have hv : 0 < v := by omega
  have e : ((W : Int)).toNat = W := by omega
  rw [e, fdiv_nat, Int.toNat_natCast, Int.toNat_natCast]
  exact Nat.div_lt_self hv (two_le hW)
theorem row_done {W x : Nat} {f : Int} {l : List Int} (h0 : 0 ≤ f) (h2 : l ++ dig W f.toNat = dig W x) (hn : ¬ 0 < f) : l = dig W x := by
  have e : f.toNat = 0 := by omega
  rw [e, dig_zero, List.append_nil] at h2
  exact h2
end Mine
end NzM
section NzM2
namespace Mine
theorem pow_pos' (k : Nat) : (0 : Int) < 2 ^ k := by rw [← natPow_cast]; exact Int.natCast_pos.mpr (Nat.two_pow_pos k)
/-- what a row of limbs is worth -/
def val (W : Nat) : List Int → Int
  | [] => 0
  | l :: r => l + 2 ^ W * val W r
def Dgs (W : Nat) (ns : List Int) : Prop := ∀ l ∈ ns, 0 ≤ l ∧ l < 2 ^ W
theorem Dgs.tail {W : Nat} {l : Int} {r : List Int} (h : Dgs W (l :: r)) : Dgs W r := fun y hy => h y (.tail _ hy)
theorem Dgs.head {W : Nat} {l : Int} {r : List Int} (h : Dgs W (l :: r)) : 0 ≤ l ∧ l < 2 ^ W := h l (.head _)
theorem Dgs.nil {W : Nat} : Dgs W [] := fun _ h => nomatch h
theorem Dgs.snoc {W : Nat} {l : Int} {r : List Int} (h : Dgs W r) (h0 : 0 ≤ l) (h1 : l < 2 ^ W) : Dgs W (r ++ [l]) := fun y hy => by
  rcases List.mem_append.mp hy with hy | hy
  · exact h y hy
  · rw [List.mem_singleton.mp hy]; exact ⟨h0, h1⟩
theorem Dgs.take {W : Nat} {r : List Int} (h : Dgs W r) (k : Nat) : Dgs W (r.take k) := fun y hy => h y (List.mem_of_mem_take hy)
theorem Dgs.drop {W : Nat} {r : List Int} (h : Dgs W r) (k : Nat) : Dgs W (r.drop k) := fun y hy => h y (List.mem_of_mem_drop hy)
theorem getD_at {xs : List Int} {k : Nat} (hk : k < xs.length) : xs.getD k 0 = xs[k] := by simp [List.getD, hk]
theorem Dgs.getD {W : Nat} {r : List Int} (h : Dgs W r) {k : Nat} (hk : k < r.length) : 0 ≤ r.getD k 0 ∧ r.getD k 0 < 2 ^ W := by
  rw [getD_at hk]
  exact h _ (List.getElem_mem hk)
theorem val_append (W : Nat) : ∀ a b : List Int, val W (a ++ b) = val W a + 2 ^ (W * a.length) * val W b
  | [], b => by simp [val]
  | l :: r, b => by
    rw [List.cons_append, val, val, val_append W r b, List.length_cons, Nat.mul_succ, Nat.add_comm, Int.pow_add, Int.mul_add, Int.mul_assoc]
    omega
theorem val_snoc (W : Nat) (a : List Int) (l : Int) : val W (a ++ [l]) = val W a + 2 ^ (W * a.length) * l := by
  rw [val_append]
  simp [val]
theorem val_nonneg {W : Nat} : ∀ {ns : List Int}, Dgs W ns → 0 ≤ val W ns
  | [], _ => Int.le_refl _
  | l :: r, h => by
    rw [val]
    exact Int.add_nonneg h.head.1 (Int.mul_nonneg (Int.le_of_lt (pow_pos' W)) (val_nonneg h.tail))
theorem val_lt {W : Nat} : ∀ {ns : List Int}, Dgs W ns → val W ns < 2 ^ (W * ns.length)
  | [], _ => by simp [val]
  | l :: r, h => by
    rw [val, List.length_cons, Nat.mul_succ, Nat.add_comm, Int.pow_add]
    have h1 := val_lt h.tail
    have h2 := h.head.2
    have h3 : 2 ^ W * (val W r + 1) ≤ 2 ^ W * 2 ^ (W * r.length) := Int.mul_le_mul_of_nonneg_left (by omega) (Int.le_of_lt (pow_pos' W))
    rw [Int.mul_add] at h3
    omega
theorem val_dig {W : Nat} (hW : 1 ≤ W) (x : Nat) : val W (dig W x) = (x : Int) := by
  induction x using Nat.strongRecOn with
  | ind x ih =>
    by_cases hx : 0 < x
    · rw [dig_pos hW hx, val, ih _ (Nat.div_lt_self hx (two_le hW)), ← natPow_cast]
      have := Nat.mod_add_div x (2 ^ W)
      exact_mod_cast this
    · have : x = 0 := by omega
      subst this
      rw [dig_zero]; rfl
theorem dig_in {W : Nat} (hW : 1 ≤ W) (x : Nat) : Dgs W (dig W x) := by
  induction x using Nat.strongRecOn with
  | ind x ih =>
    by_cases hx : 0 < x
    · rw [dig_pos hW hx]
      intro l hl
      rcases List.mem_cons.mp hl with rfl | hl
      · refine ⟨Int.natCast_nonneg _, ?_⟩
        rw [← natPow_cast]
        exact Int.ofNat_lt.mpr (Nat.mod_lt _ (Nat.two_pow_pos W))
      · exact ih _ (Nat.div_lt_self hx (two_le hW)) l hl
    · have : x = 0 := by omega
      subst this
      rw [dig_zero]; exact Dgs.nil
/-- no nought at the end -/
def NoZ (ns : List Int) : Prop := ns = [] ∨ ns.getD (ns.length - 1) 0 ≠ 0
theorem top_tail {l : Int} {r : List Int} (h : NoZ (l :: r)) : NoZ r := by
  rcases h with h | h
  · cases h
  · by_cases e : r = []
    · exact .inl e
    · refine .inr ?_
      obtain ⟨a, b, rfl⟩ := List.exists_cons_of_ne_nil e
      simpa using h
theorem top_pos {W : Nat} : ∀ {ns : List Int}, Dgs W ns → NoZ ns → ns ≠ [] → 0 < val W ns
  | [], _, _, h => absurd rfl h
  | [l], h, t, _ => by
    rcases t with t | t
    · cases t
    · have := h.head.1
      have t' : l ≠ 0 := by simpa using t
      simp only [val]
      omega
  | l :: a :: r, h, t, _ => by
    have := top_pos h.tail (top_tail t) (by simp)
    rw [val]
    have h2 := h.head.1
    have h3 := Int.mul_pos (pow_pos' W) this
    omega
theorem dig_unique {W : Nat} (hW : 1 ≤ W) : ∀ {ns : List Int}, Dgs W ns → NoZ ns → ns = dig W (val W ns).toNat
  | [], _, _ => by simp [val, dig_zero]
  | l :: r, h, t => by
    have hp := top_pos h t (by simp)
    have ih := dig_unique hW h.tail (top_tail t)
    have h0 := val_nonneg h.tail
    have h1 := h.head
    obtain ⟨v, hv⟩ := Int.eq_ofNat_of_zero_le h0
    obtain ⟨a, ha⟩ := Int.eq_ofNat_of_zero_le h1.1
    rw [val] at hp
    rw [hv] at ih hp
    rw [ha] at hp h1
    have e : l + 2 ^ W * val W r = ((a + 2 ^ W * v : Nat) : Int) := by
      rw [ha, hv, Int.natCast_add, Int.natCast_mul, natPow_cast]
    have ha2 : a < 2 ^ W := by
      have := h1.2
      rw [← natPow_cast] at this
      exact Int.ofNat_lt.mp this
    have hp2 : 0 < a + 2 ^ W * v := by
      rw [← natPow_cast] at hp
      exact_mod_cast hp
    rw [val, e, Int.toNat_natCast, dig_pos hW hp2, Nat.add_mul_mod_self_left, Nat.mod_eq_of_lt ha2, Nat.add_mul_div_left _ _ (Nat.two_pow_pos W), Nat.div_eq_of_lt ha2, Nat.zero_add]
    rw [Int.toNat_natCast] at ih
    rw [ha, ← ih]
theorem dig_eq {W x : Nat} {ns : List Int} (hW : 1 ≤ W) (h : Dgs W ns) (t : NoZ ns) (e : val W ns = (x : Int)) : ns = dig W x := by
  have := dig_unique hW h t
  rw [e, Int.toNat_natCast] at this
  exact this
theorem dig_top {W : Nat} (hW : 1 ≤ W) (x : Nat) : NoZ (dig W x) := by
  induction x using Nat.strongRecOn with
  | ind x ih =>
    by_cases hx : 0 < x
    · rw [dig_pos hW hx]
      have h2 := ih _ (Nat.div_lt_self hx (two_le hW))
      by_cases e : x / 2 ^ W = 0
      · rw [e, dig_zero]
        refine .inr ?_
        have : x % 2 ^ W = x := Nat.mod_eq_of_lt (by
          have := Nat.div_eq_zero_iff.mp e
          have := Nat.two_pow_pos W
          omega)
        rw [this]
        show ((x : Nat) : Int) ≠ 0
        omega
      · have h3 : dig W (x / 2 ^ W) ≠ [] := by
          rw [dig_pos hW (Nat.pos_of_ne_zero e)]; simp
        rcases h2 with h2 | h2
        · exact absurd h2 h3
        · refine .inr ?_
          obtain ⟨a, b, hab⟩ := List.exists_cons_of_ne_nil h3
          rw [hab] at h2 ⊢
          simpa using h2
    · have : x = 0 := by omega
      subst this
      rw [dig_zero]; exact .inl rfl
theorem getD_split {xs : List Int} {k : Nat} (hk : k < xs.length) : xs = xs.take k ++ (xs.getD k 0 :: xs.drop (k + 1)) := by
  rw [getD_at hk, List.getElem_cons_drop, List.take_append_drop]
theorem take_succ' {xs : List Int} {k : Nat} (hk : k < xs.length) : xs.take (k + 1) = xs.take k ++ [xs.getD k 0] := by
  rw [List.take_add_one, List.getElem?_eq_getElem hk, getD_at hk]
  rfl
theorem top_ge {W : Nat} {ns : List Int} (h : Dgs W ns) (t : NoZ ns) (hn : ns ≠ []) : 2 ^ (W * (ns.length - 1)) ≤ val W ns := by
  have hl : ns.length - 1 < ns.length := by
    have := List.length_pos_iff.mpr hn
    omega
  rcases t with t | t
  · exact absurd t hn
  · have e := getD_split hl
    have hd : ns.drop (ns.length - 1 + 1) = [] := List.drop_of_length_le (by omega)
    rw [hd] at e
    rw [e, val_snoc, List.length_take, Nat.min_eq_left (Nat.le_of_lt hl)]
    have h1 := val_nonneg (h.take (ns.length - 1))
    have h2 := (h.getD hl).1
    have h3 : 1 ≤ ns.getD (ns.length - 1) 0 := by omega
    have h4 := Int.mul_le_mul_of_nonneg_left h3 (Int.le_of_lt (pow_pos' (W * (ns.length - 1))))
    rw [Int.mul_one] at h4
    rw [List.length_append, List.length_take, Nat.min_eq_left (Nat.le_of_lt hl)]
    simp only [List.length_cons, List.length_nil]
    have e5 : ns.length - 1 + (0 + 1) - 1 = ns.length - 1 := by omega
    rw [e5]
    omega

theorem val_lt_of_len {W : Nat} {xs ys : List Int} (hx : Dgs W xs) (hy : Dgs W ys) (ty : NoZ ys) (h : xs.length < ys.length) : val W xs < val W ys := by
  have hn : ys ≠ [] := by rintro rfl; simp at h
  have h1 := val_lt hx
  have h2 := top_ge hy ty hn
  have h3 : (2 : Int) ^ (W * xs.length) ≤ 2 ^ (W * (ys.length - 1)) := by
    rw [← natPow_cast, ← natPow_cast]
    exact Int.ofNat_le.mpr (Nat.pow_le_pow_right (by decide) (Nat.mul_le_mul_left W (by omega)))
  omega
theorem val_lt_at {W : Nat} {xs ys : List Int} {k : Nat} (hx : Dgs W xs) (hy : Dgs W ys) (he : xs.length = ys.length) (hk : k < xs.length) (hd : xs.drop (k + 1) = ys.drop (k + 1)) (hl : xs.getD k 0 < ys.getD k 0) : val W xs < val W ys := by
  have hk2 : k < ys.length := by omega
  have ex := getD_split hk
  have ey := getD_split hk2
  have h1 := val_lt (hx.take k)
  have h2 := val_nonneg (hy.take k)
  rw [ex, ey, val_append, val_append, val, val, hd]
  rw [List.length_take, Nat.min_eq_left (Nat.le_of_lt hk)] at h1 ⊢
  rw [List.length_take, Nat.min_eq_left (Nat.le_of_lt hk2)]
  have h3 := Int.mul_le_mul_of_nonneg_left (show xs.getD k 0 + 1 ≤ ys.getD k 0 by omega) (Int.le_of_lt (pow_pos' (W * k)))
  rw [Int.mul_add, Int.mul_one] at h3
  rw [Int.mul_add, Int.mul_add]
  omega
theorem cmp_len_lt {W x y : Nat} (hW : 1 ≤ W) (h : ((dig W x).length : Int) < ((dig W y).length : Int)) : (-1 : Int) = (if x < y then -1 else if x = y then 0 else 1) := by
  have := val_lt_of_len (dig_in hW x) (dig_in hW y) (dig_top hW y) (by omega)
  rw [val_dig hW, val_dig hW] at this
  rw [if_pos (by omega)]
theorem cmp_len_gt {W x y : Nat} (hW : 1 ≤ W) (h : ((dig W x).length : Int) ≠ ((dig W y).length : Int)) (h2 : ¬ ((dig W x).length : Int) < ((dig W y).length : Int)) : (1 : Int) = (if x < y then -1 else if x = y then 0 else 1) := by
  have := val_lt_of_len (dig_in hW y) (dig_in hW x) (dig_top hW x) (by omega)
  rw [val_dig hW, val_dig hW] at this
  rw [if_neg (by omega), if_neg (by omega)]
theorem cmp_at_lt {W x y n : Nat} {k : Int} (hW : 1 ≤ W) (he : ((dig W x).length : Int) = ((dig W y).length : Int)) (hk : k = (dig W x).length - 1 - (n : Int)) (hn : n < (dig W x).length)
    (hd : (dig W x).drop ((dig W x).length - n) = (dig W y).drop ((dig W x).length - n)) (hl : (dig W x).getD k.toNat 0 < (dig W y).getD k.toNat 0) : (-1 : Int) = (if x < y then -1 else if x = y then 0 else 1) := by
  have e : k.toNat + 1 = (dig W x).length - n := by omega
  rw [← e] at hd
  have := val_lt_at (dig_in hW x) (dig_in hW y) (by omega) (by omega) hd hl
  rw [val_dig hW, val_dig hW] at this
  rw [if_pos (by omega)]
theorem cmp_at_gt {W x y n : Nat} {k : Int} (hW : 1 ≤ W) (he : ((dig W x).length : Int) = ((dig W y).length : Int)) (hk : k = (dig W x).length - 1 - (n : Int)) (hn : n < (dig W x).length)
    (hd : (dig W x).drop ((dig W x).length - n) = (dig W y).drop ((dig W x).length - n)) (hne : (dig W x).getD k.toNat 0 ≠ (dig W y).getD k.toNat 0) (hl : ¬ (dig W x).getD k.toNat 0 < (dig W y).getD k.toNat 0) : (1 : Int) = (if x < y then -1 else if x = y then 0 else 1) := by
  have e : k.toNat + 1 = (dig W x).length - n := by omega
  rw [← e] at hd
  have := val_lt_at (dig_in hW y) (dig_in hW x) (by omega) (by omega) hd.symm (by omega)
  rw [val_dig hW, val_dig hW] at this
  rw [if_neg (by omega), if_neg (by omega)]
theorem cmp_turn {xs ys : List Int} {n : Nat} {k : Int} (he : (xs.length : Int) = (ys.length : Int)) (hk : k = xs.length - 1 - (n : Int)) (hn : n < xs.length) (hd : xs.drop (xs.length - n) = ys.drop (xs.length - n)) (hq : xs.getD k.toNat 0 = ys.getD k.toNat 0) :
    xs.drop (xs.length - (n + 1)) = ys.drop (xs.length - (n + 1)) := by
  have e : k.toNat + 1 = xs.length - n := by omega
  have e2 : xs.length - (n + 1) = k.toNat := by omega
  rw [← e] at hd
  have h1 : k.toNat < xs.length := by omega
  have h2 : k.toNat < ys.length := by omega
  rw [e2, ← List.getElem_cons_drop h1, ← List.getElem_cons_drop h2, hd, ← getD_at h1, ← getD_at h2, hq]
theorem cmp_done {W x y n : Nat} (hW : 1 ≤ W) (hn : n = (dig W x).length) (hd : (dig W x).drop ((dig W x).length - n) = (dig W y).drop ((dig W x).length - n)) : (0 : Int) = (if x < y then -1 else if x = y then 0 else 1) := by
  subst hn
  rw [Nat.sub_self, List.drop_zero, List.drop_zero] at hd
  have := congrArg (val W) hd
  rw [val_dig hW, val_dig hW] at this
  rw [if_neg (by omega), if_pos (by omega)]

theorem whole_fold (W : Nat) (ns : List Int) : ns.reverse.foldl (fun (v l : Int) => v * 2 ^ W + l) 0 = val W ns := by
  rw [List.foldl_reverse]
  induction ns with
  | nil => rfl
  | cons l r ih => rw [List.foldr_cons, ih, val, Int.mul_comm]; omega
theorem whole_start {wi : Int} : (0 : Int) = ([] : List Int).foldl (fun (v l : Int) => v * 2 ^ wi.toNat + l) 0 := rfl
theorem whole_turn {wi v n : Int} {pre : List Int} (h : v = pre.foldl (fun (v l : Int) => v * 2 ^ wi.toNat + l) 0) : v * 2 ^ wi.toNat + n = (pre ++ [n]).foldl (fun (v l : Int) => v * 2 ^ wi.toNat + l) 0 := by
  rw [List.foldl_append, ← h]; rfl
theorem whole_done {W x : Nat} {wi v : Int} (hW : 1 ≤ W) (hwi : wi = (W : Int)) (h : v = (dig W x).reverse.foldl (fun (v l : Int) => v * 2 ^ wi.toNat + l) 0) : v = (x : Int) := by
  subst hwi
  rw [Int.toNat_natCast, whole_fold, val_dig hW] at h
  exact h
theorem val_zeros {W : Nat} : ∀ {ns : List Int}, (∀ i : Nat, ns.getD i 0 = 0) → val W ns = 0
  | [], _ => rfl
  | l :: r, h => by
    have h0 : l = 0 := h 0
    have h1 := val_zeros (W := W) (ns := r) fun i => h (i + 1)
    rw [val, h0, h1, Int.mul_zero]; rfl
theorem normal_start {ns : List Int} : 0 ≤ (ns.length : Int) ∧ (ns.length : Int) ≤ (ns.length : Int) ∧ ∀ i : Nat, (ns.length : Int) ≤ (i : Int) → ns.getD i 0 = 0 :=
  ⟨Int.natCast_nonneg _, Int.le_refl _, fun i hi => by
    have : ns.length ≤ i := by omega
    simp [List.getD, this]⟩
theorem normal_turn {ns : List Int} {k : Int} (hp : 0 < k) (h1 : k ≤ (ns.length : Int)) (h2 : ∀ i : Nat, k ≤ (i : Int) → ns.getD i 0 = 0) (hz : ns.getD (k - 1).toNat 0 = 0) :
    0 ≤ k - 1 ∧ k - 1 ≤ (ns.length : Int) ∧ ∀ i : Nat, k - 1 ≤ (i : Int) → ns.getD i 0 = 0 :=
  ⟨by omega, by omega, fun i hi => by
    by_cases e : k ≤ (i : Int)
    · exact h2 i e
    · have : i = (k - 1).toNat := by omega
      rw [this]; exact hz⟩
theorem normal_done {W x : Nat} {ns : List Int} {k : Int} (hW : 1 ≤ W) (hin : Dgs W ns) (hv : val W ns = (x : Int)) (h0 : 0 ≤ k) (h1 : k ≤ (ns.length : Int)) (h2 : ∀ i : Nat, k ≤ (i : Int) → ns.getD i 0 = 0) (hz : ¬ 0 < k ∨ ns.getD (k - 1).toNat 0 ≠ 0) :
    ns.take k.toNat = dig W x := by
  refine dig_eq hW (hin.take _) ?_ ?_
  · by_cases hk : 0 < k
    · refine .inr ?_
      rw [List.length_take, Nat.min_eq_left (by omega)]
      have e : k.toNat - 1 = (k - 1).toNat := by omega
      rw [e]
      rcases hz with hz | hz
      · exact absurd hk hz
      · have h3 : (k - 1).toNat < ns.length := by omega
        have h4 : (k - 1).toNat < (ns.take k.toNat).length := by rw [List.length_take]; omega
        rw [getD_at h4, List.getElem_take, ← getD_at h3]
        exact hz
    · left
      have : k.toNat = 0 := by omega
      rw [this]; rfl
  · rw [← hv]
    conv => rhs; rw [← List.take_append_drop k.toNat ns]
    rw [val_append]
    have h3 : val W (ns.drop k.toNat) = 0 := val_zeros fun i => by
      have h5 := h2 (k.toNat + i) (by omega)
      rw [List.getD_eq_getElem?_getD] at h5 ⊢
      rw [List.getElem?_drop]
      exact h5
    rw [h3, Int.mul_zero, Int.add_zero]
theorem normal_less {k : Int} (hp : 0 < k) : (k - 1).toNat < k.toNat := by omega
end Mine
namespace Mine
theorem flatten_ones {α : Type} (n : Nat) (a : α) : (List.replicate n [a]).flatten = List.replicate n a := by
  induction n with
  | zero => rfl
  | succ n ih => rw [List.replicate_succ, List.flatten_cons, ih]; rfl
theorem cmp_start {xs ys : List Int} (h : (xs.length : Int) = (ys.length : Int)) : xs.drop (xs.length - ([] : List Int).length) = ys.drop (xs.length - ([] : List Int).length) := by
  have : xs.length = ys.length := by omega
  simp [this]
end Mine
end NzM2
section NzM3
open PySem PySem.W PyProof.Rows
namespace Mine
theorem getD_out {xs : List Int} {k : Nat} (h : xs.length ≤ k) : xs.getD k 0 = 0 := by simp [List.getD, h]
theorem Dgs.rng {W : Nat} {xs : List Int} (h : Dgs W xs) (k : Nat) : 0 ≤ xs.getD k 0 ∧ xs.getD k 0 < 2 ^ W := by
  by_cases hk : k < xs.length
  · exact h.getD hk
  · rw [getD_out (by omega)]
    exact ⟨Int.le_refl _, pow_pos' W⟩
theorem val_take_succ {W : Nat} (X : List Int) (k : Nat) : val W (X.take (k + 1)) = val W (X.take k) + 2 ^ (W * k) * X.getD k 0 := by
  by_cases hk : k < X.length
  · rw [take_succ' hk, val_snoc, List.length_take, Nat.min_eq_left (Nat.le_of_lt hk)]
  · rw [List.take_of_length_le (by omega), List.take_of_length_le (by omega), getD_out (by omega), Int.mul_zero, Int.add_zero]
theorem add_core {W : Nat} {X Y found : List Int} {carry s : Int} {n : Nat} (hX : Dgs W X) (hY : Dgs W Y) (hn : found.length = n) (h0 : 0 ≤ carry) (h1 : carry ≤ 1) (hin : Dgs W found)
    (hv : val W found + carry * 2 ^ (W * n) = val W (X.take n) + val W (Y.take n)) (hs : s = carry + (X.getD n 0 + Y.getD n 0)) :
    0 ≤ s.fdiv (2 ^ W) ∧ s.fdiv (2 ^ W) ≤ 1 ∧ Dgs W (found ++ [Builtin.bitAnd s (1 * 2 ^ W - 1)]) ∧
      val W (found ++ [Builtin.bitAnd s (1 * 2 ^ W - 1)]) + s.fdiv (2 ^ W) * 2 ^ (W * (n + 1)) = val W (X.take (n + 1)) + val W (Y.take (n + 1)) := by
  have hx := hX.rng n
  have hy := hY.rng n
  have hp := pow_pos' W
  rw [Int.one_mul, kbt_maskF, val_take_succ, val_take_succ, val_snoc, hn, Nat.mul_succ, Int.pow_add]
  rw [Int.fdiv_eq_ediv_of_nonneg _ (Int.le_of_lt hp), Int.fmod_eq_emod_of_nonneg _ (Int.le_of_lt hp)]
  have e1 := Int.emod_add_mul_ediv s (2 ^ W)
  have e2 := Int.emod_nonneg s (Int.ne_of_gt hp)
  have e3 := Int.emod_lt_of_pos s hp
  have e4 : 0 ≤ s / 2 ^ W := Int.ediv_nonneg (by omega) (Int.le_of_lt hp)
  have e5 : s / 2 ^ W < 2 := Int.ediv_lt_of_lt_mul hp (by omega)
  refine ⟨e4, by omega, hin.snoc e2 e3, ?_⟩
  generalize s / 2 ^ W = q at *
  generalize s % 2 ^ W = r at *
  generalize (2 : Int) ^ (W * n) = P at *
  generalize (2 : Int) ^ W = B at *
  have e6 : q * (P * B) = P * (B * q) := by rw [Int.mul_comm q, Int.mul_assoc]
  have e7 : P * r + P * (B * q) = P * s := by rw [← Int.mul_add, e1]
  rw [e6, hs, Int.mul_add, Int.mul_add, Int.mul_comm P carry] at *
  omega
theorem add_turn {W : Nat} {X Y found pre : List Int} {carry s k wi : Int} {c : Nat} (hwi : wi = (W : Int)) (hX : Dgs W X) (hY : Dgs W Y) (h0 : 0 ≤ carry) (h1 : carry ≤ 1) (hl : found.length = c + pre.length) (hin : Dgs W found)
    (hv : val W found + carry * 2 ^ (W * found.length) = val W (X.take found.length) + val W (Y.take found.length)) (hlt : found.length < 200) (hk : k.toNat = found.length) (hs : s = carry + (X.getD k.toNat 0 + Y.getD k.toNat 0)) :
    0 ≤ s.fdiv (2 ^ wi.toNat) ∧ s.fdiv (2 ^ wi.toNat) ≤ 1 ∧ (found ++ [Builtin.bitAnd s (1 * 2 ^ wi.toNat - 1)]).length = c + (pre ++ [k]).length ∧ (found ++ [Builtin.bitAnd s (1 * 2 ^ wi.toNat - 1)]).length ≤ 200 ∧ Dgs W (found ++ [Builtin.bitAnd s (1 * 2 ^ wi.toNat - 1)]) ∧
      val W (found ++ [Builtin.bitAnd s (1 * 2 ^ wi.toNat - 1)]) + s.fdiv (2 ^ wi.toNat) * 2 ^ (W * (found ++ [Builtin.bitAnd s (1 * 2 ^ wi.toNat - 1)]).length) =
        val W (X.take (found ++ [Builtin.bitAnd s (1 * 2 ^ wi.toNat - 1)]).length) + val W (Y.take (found ++ [Builtin.bitAnd s (1 * 2 ^ wi.toNat - 1)]).length) := by
  subst hwi
  rw [hk] at hs
  obtain ⟨a1, a2, a3, a4⟩ := add_core hX hY rfl h0 h1 hin hv hs
  rw [Int.toNat_natCast]
  refine ⟨a1, a2, by simp only [List.length_append, List.length_cons, List.length_nil]; omega, by simp only [List.length_append, List.length_cons, List.length_nil]; omega, a3, ?_⟩
  rw [List.length_append]
  exact a4
theorem add_start {W : Nat} {X Y : List Int} : (0 : Int) ≤ 0 ∧ (0 : Int) ≤ 1 ∧ ([] : List Int).length = 0 + ([] : List Int).length ∧ ([] : List Int).length ≤ 200 ∧ Dgs W [] ∧
    val W [] + 0 * 2 ^ (W * ([] : List Int).length) = val W (X.take ([] : List Int).length) + val W (Y.take ([] : List Int).length) :=
  ⟨by decide, by decide, rfl, by decide, Dgs.nil, by simp [val]⟩
theorem add_mid {W : Nat} {X Y found : List Int} {carry l : Int} {c N : Nat}
    (hv : val W found + carry * 2 ^ (W * found.length) = val W (X.take found.length) + val W (Y.take found.length)) (hin : Dgs W found) (h0 : 0 ≤ carry) (h1 : carry ≤ 1) (hl : found.length = 0 + (rangeKs l N).length) (h2 : found.length ≤ 200) (hN : N = c) :
    0 ≤ carry ∧ carry ≤ 1 ∧ found.length = c + ([] : List Int).length ∧ found.length ≤ 200 ∧ Dgs W found ∧ val W found + carry * 2 ^ (W * found.length) = val W (X.take found.length) + val W (Y.take found.length) :=
  ⟨h0, h1, by rw [rangeKs_length] at hl; simp only [List.length_nil]; omega, h2, hin, hv⟩
theorem take_all {xs : List Int} {n : Nat} (h : xs.length ≤ n) : xs.take n = xs := List.take_of_length_le h
theorem add_done1 {W x y : Nat} {found : List Int} {carry l : Int} {N : Nat} (hW : 1 ≤ W)
    (hv : val W found + carry * 2 ^ (W * found.length) = val W ((dig W x).take found.length) + val W ((dig W y).take found.length)) (hin : Dgs W found) (hp : 0 < carry) (h1 : carry ≤ 1) (hl : found.length = min (dig W x).length (dig W y).length + (rangeKs l N).length) (hN : min (dig W x).length (dig W y).length + N = max (dig W x).length (dig W y).length) : found ++ [carry] = dig W (x + y) := by
  rw [rangeKs_length, hN] at hl
  rw [take_all (by omega), take_all (by omega), val_dig hW, val_dig hW] at hv
  refine dig_eq hW (hin.snoc (Int.le_of_lt hp) ?_) (.inr ?_) ?_
  · have h2 := two_le hW
    have h3 : (2 : Int) ≤ 2 ^ W := by rw [← natPow_cast]; exact_mod_cast h2
    omega
  · simp
    omega
  · rw [val_snoc, Int.mul_comm, hv, Int.natCast_add]
theorem add_done0 {W x y : Nat} {found : List Int} {carry l : Int} {N : Nat} (hW : 1 ≤ W)
    (hv : val W found + carry * 2 ^ (W * found.length) = val W ((dig W x).take found.length) + val W ((dig W y).take found.length)) (hin : Dgs W found) (h0 : 0 ≤ carry) (hp : ¬ 0 < carry) (hl : found.length = min (dig W x).length (dig W y).length + (rangeKs l N).length) (hN : min (dig W x).length (dig W y).length + N = max (dig W x).length (dig W y).length) : found = dig W (x + y) := by
  rw [rangeKs_length, hN] at hl
  have hc : carry = 0 := by omega
  rw [take_all (by omega), take_all (by omega), val_dig hW, val_dig hW, hc, Int.zero_mul, Int.add_zero] at hv
  refine dig_eq hW hin ?_ (by rw [hv, Int.natCast_add])
  by_cases hn : found = []
  · exact .inl hn
  · refine .inr fun hz => ?_
    have hpos := List.length_pos_iff.mpr hn
    have hk : found.length - 1 < found.length := by omega
    have e := getD_split hk
    rw [hz, List.drop_of_length_le (by omega)] at e
    have e2 := congrArg (val W) e
    rw [val_snoc, Int.mul_zero, Int.add_zero] at e2
    have e3 := val_lt (hin.take (found.length - 1))
    rw [List.length_take, Nat.min_eq_left (by omega)] at e3
    have key : ∀ z : Nat, (dig W z).length = found.length → (2 : Int) ^ (W * (found.length - 1)) ≤ (z : Int) := fun z hzl => by
      have := top_ge (dig_in hW z) (dig_top hW z) (by intro h; rw [h] at hzl; simp at hzl; omega)
      rw [val_dig hW, hzl] at this
      exact this
    rcases Nat.le_total (dig W x).length (dig W y).length with h | h
    · have := key y (by omega)
      omega
    · have := key x (by omega)
      omega
theorem sub_core {W : Nat} {X Y found : List Int} {borrow b d : Int} {n : Nat} (hn : found.length = n) (hin : Dgs W found) (h2 : 0 ≤ d) (h3 : d < 2 ^ W)
    (hv : val W found = val W (X.take n) - val W (Y.take n) + borrow * 2 ^ (W * n)) (hd : d = X.getD n 0 - borrow - Y.getD n 0 + b * 2 ^ W) :
    Dgs W (found ++ [d]) ∧ val W (found ++ [d]) = val W (X.take (n + 1)) - val W (Y.take (n + 1)) + b * 2 ^ (W * (n + 1)) := by
  refine ⟨hin.snoc h2 h3, ?_⟩
  rw [val_snoc, val_take_succ, val_take_succ, hn, hv, Nat.mul_succ, Int.pow_add]
  generalize (2 : Int) ^ (W * n) = P at *
  generalize (2 : Int) ^ W = B at *
  have e6 : b * (P * B) = P * (b * B) := by rw [Int.mul_left_comm]
  rw [e6, hd, Int.mul_add, Int.mul_sub, Int.mul_sub, Int.mul_comm P borrow]
  omega
theorem sub_start {W : Nat} {X Y : List Int} : (0 : Int) ≤ 0 ∧ (0 : Int) ≤ 1 ∧ ([] : List Int).length = ([] : List Int).length ∧ ([] : List Int).length ≤ 200 ∧ Dgs W [] ∧
    val W [] = val W (X.take ([] : List Int).length) - val W (Y.take ([] : List Int).length) + 0 * 2 ^ (W * ([] : List Int).length) :=
  ⟨by decide, by decide, rfl, by decide, Dgs.nil, by simp [val]⟩
theorem sub_neg {W : Nat} {X Y found pre : List Int} {borrow yk k wi : Int} (hwi : wi = (W : Int)) (hX : Dgs W X) (hY : Dgs W Y) (h0 : 0 ≤ borrow) (h1 : borrow ≤ 1) (hl : found.length = pre.length) (hin : Dgs W found)
    (hv : val W found = val W (X.take found.length) - val W (Y.take found.length) + borrow * 2 ^ (W * found.length)) (hlt : found.length < 200) (hk : k.toNat = found.length) (hy : yk = Y.getD k.toNat 0) (hneg : X.getD k.toNat 0 - borrow - yk < 0) :
    (0 : Int) ≤ 1 ∧ (1 : Int) ≤ 1 ∧ (found ++ [X.getD k.toNat 0 - borrow - yk + 1 * 2 ^ wi.toNat]).length = (pre ++ [k]).length ∧ (found ++ [X.getD k.toNat 0 - borrow - yk + 1 * 2 ^ wi.toNat]).length ≤ 200 ∧ Dgs W (found ++ [X.getD k.toNat 0 - borrow - yk + 1 * 2 ^ wi.toNat]) ∧
      val W (found ++ [X.getD k.toNat 0 - borrow - yk + 1 * 2 ^ wi.toNat]) = val W (X.take (found ++ [X.getD k.toNat 0 - borrow - yk + 1 * 2 ^ wi.toNat]).length) - val W (Y.take (found ++ [X.getD k.toNat 0 - borrow - yk + 1 * 2 ^ wi.toNat]).length) + 1 * 2 ^ (W * (found ++ [X.getD k.toNat 0 - borrow - yk + 1 * 2 ^ wi.toNat]).length) := by
  subst hwi
  subst hy
  rw [hk, Int.toNat_natCast] at *
  have hx := hX.rng found.length
  have hy := hY.rng found.length
  obtain ⟨a1, a2⟩ := sub_core (d := X.getD found.length 0 - borrow - Y.getD found.length 0 + 1 * 2 ^ W) (b := 1) rfl hin (by omega) (by omega) hv rfl
  refine ⟨by decide, by decide, by simp only [List.length_append, List.length_cons, List.length_nil]; omega, by simp only [List.length_append, List.length_cons, List.length_nil]; omega, a1, ?_⟩
  rw [List.length_append]
  exact a2
theorem sub_pos {W : Nat} {X Y found pre : List Int} {borrow yk k : Int} (hX : Dgs W X) (hY : Dgs W Y) (h0 : 0 ≤ borrow) (h1 : borrow ≤ 1) (hl : found.length = pre.length) (hin : Dgs W found)
    (hv : val W found = val W (X.take found.length) - val W (Y.take found.length) + borrow * 2 ^ (W * found.length)) (hlt : found.length < 200) (hk : k.toNat = found.length) (hy : yk = Y.getD k.toNat 0) (hneg : ¬ X.getD k.toNat 0 - borrow - yk < 0) :
    (0 : Int) ≤ 0 ∧ (0 : Int) ≤ 1 ∧ (found ++ [X.getD k.toNat 0 - borrow - yk]).length = (pre ++ [k]).length ∧ (found ++ [X.getD k.toNat 0 - borrow - yk]).length ≤ 200 ∧ Dgs W (found ++ [X.getD k.toNat 0 - borrow - yk]) ∧
      val W (found ++ [X.getD k.toNat 0 - borrow - yk]) = val W (X.take (found ++ [X.getD k.toNat 0 - borrow - yk]).length) - val W (Y.take (found ++ [X.getD k.toNat 0 - borrow - yk]).length) + 0 * 2 ^ (W * (found ++ [X.getD k.toNat 0 - borrow - yk]).length) := by
  subst hy
  rw [hk] at *
  have hx := hX.rng found.length
  have hy := hY.rng found.length
  obtain ⟨a1, a2⟩ := sub_core (d := X.getD found.length 0 - borrow - Y.getD found.length 0) (b := 0) rfl hin (by omega) (by omega) hv (by omega)
  refine ⟨by decide, by decide, by simp only [List.length_append, List.length_cons, List.length_nil]; omega, by simp only [List.length_append, List.length_cons, List.length_nil]; omega, a1, ?_⟩
  rw [List.length_append]
  exact a2
theorem sub_val {W x y : Nat} {found : List Int} {borrow l : Int} {N : Nat} (hW : 1 ≤ W) (hyx : y ≤ x)
    (hv : val W found = val W ((dig W x).take found.length) - val W ((dig W y).take found.length) + borrow * 2 ^ (W * found.length)) (hin : Dgs W found) (h0 : 0 ≤ borrow) (h1 : borrow ≤ 1) (hl : found.length = (rangeKs l N).length) (hN : N = (dig W x).length) : val W found = ((x - y : Nat) : Int) := by
  rw [rangeKs_length, hN] at hl
  have hly : (dig W y).length ≤ (dig W x).length := by
    rcases Nat.lt_or_ge (dig W x).length (dig W y).length with h | h
    · have := val_lt_of_len (dig_in hW x) (dig_in hW y) (dig_top hW y) h
      rw [val_dig hW, val_dig hW] at this
      omega
    · exact h
  rw [take_all (by omega), take_all (by omega), val_dig hW, val_dig hW] at hv
  have h3 := val_lt hin
  have h4 : borrow = 0 := by
    by_cases h : borrow = 0
    · exact h
    · have : borrow = 1 := by omega
      rw [this, Int.one_mul] at hv
      omega
  rw [h4, Int.zero_mul] at hv
  omega
theorem row_last {W x : Nat} (hW : 1 ≤ W) (h : decide (dig W x = []) = false) : 0 < (dig W x).getD ((dig W x).length - 1) 0 := by
  have hn : dig W x ≠ [] := of_decide_eq_false h
  rcases dig_top hW x with h2 | h2
  · exact absurd h2 hn
  · have := ((dig_in hW x).rng ((dig W x).length - 1)).1
    omega
theorem neg_one_le {l : List Int} (h : decide (l = []) = false) : -(l.length : Int) ≤ -1 := by
  have hn : l ≠ [] := of_decide_eq_false h
  have := List.length_pos_iff.mpr hn
  omega
theorem row_last' {W x : Nat} (hW : 1 ≤ W) (h : decide (dig W x = []) = false) : 0 < (dig W x).getD (-1 + (dig W x).length : Int).toNat 0 := by
  have h1 := row_last hW h
  have h2 := neg_one_le h
  have e : (-1 + (dig W x).length : Int).toNat = (dig W x).length - 1 := by omega
  rw [e]
  exact h1
theorem isrow_hi {W x : Nat} {k wi : Int} (hW : 1 ≤ W) (hwi : wi = (W : Int)) (h : ¬ k < 2 ^ wi.toNat) (hm : k ∈ dig W x) : False := by
  subst hwi
  rw [Int.toNat_natCast] at h
  exact h (dig_in hW x k hm).2
theorem isrow_lo {W x : Nat} {k : Int} (hW : 1 ≤ W) (h : ¬ 0 ≤ k) (hm : k ∈ dig W x) : False := h (dig_in hW x k hm).1
theorem total_turn {g k : Int} (h : 0 ≤ g) : 0 ≤ g * 65536 + k.fmod 65536 := by
  have := Int.fmod_nonneg_of_pos k (show (0 : Int) < 65536 by decide)
  omega
theorem mul_small_le {a b : Int} (h0 : 0 ≤ a) (h1 : a ≤ 1000) (h2 : 0 ≤ b) (h3 : b ≤ 1000) : a * b ≤ 1000000 := by
  have := Int.mul_le_mul h1 h3 h2 (by decide : (0 : Int) ≤ 1000)
  omega
theorem mul_small_ok {a b : Int} (h0 : 0 ≤ a) (h1 : a ≤ 1000000) : IntMulOk a b := by
  refine IntMulOk.of_left (intBits_le_iff.mpr ?_)
  omega
theorem sm_mul_ok {x y : Nat} (hx : Sm x) (hy : Sm y) : IntMulOk (x : Int) (y : Int) := by
  refine IntMulOk.of_le (m := 198) (n := 198) (intBits_le_iff.mpr ?_) (intBits_le_iff.mpr ?_) (by decide)
  · rw [Int.natAbs_natCast]; exact hx
  · rw [Int.natAbs_natCast]; exact hy
theorem pow_log2 {k : Nat} (h : k < 9000) : ((2 : Int) ^ k).natAbs.log2 < 9000 := by
  have := kbt_py (n := (k : Int)) (by omega)
  rwa [Int.toNat_natCast] at this
theorem pow_le_pow' {a b : Nat} (h : a ≤ b) : (2 : Int) ^ a ≤ 2 ^ b := by
  rw [← natPow_cast, ← natPow_cast]
  exact Int.ofNat_le.mpr (Nat.pow_le_pow_right (by decide) h)
theorem drawn_start {W : Nat} {ns : List Int} (h2 : ns.length = 2) (h3 : 0 ≤ ns.getD 0 0) (h4 : 0 ≤ ns.getD 1 0) : (0 : Int) ≤ 0 ∧ (0 : Int) < 2 ^ (W * ([] : List Int).length) ∧ ns.length = 2 ∧ 0 ≤ ns.getD 0 0 ∧ 0 ≤ ns.getD 1 0 :=
  ⟨by decide, pow_pos' _, h2, h3, h4⟩
theorem drawn_turn {W : Nat} {wi v x j k : Int} {ns pre : List Int} (hwi : wi = (W : Int)) (h0 : 0 ≤ v) (h1 : v < 2 ^ (W * pre.length)) (hx0 : 0 ≤ x) (hx1 : x < 2 ^ wi.toNat) (hj0 : 0 ≤ j) (hj1 : j < 3) (h2 : ns.length = 2) (h3 : 0 ≤ ns.getD 0 0) (h4 : 0 ≤ ns.getD 1 0) :
    0 ≤ v * 2 ^ wi.toNat + [x, 2 ^ wi.toNat - 1, 0].getD j.toNat 0 ∧ v * 2 ^ wi.toNat + [x, 2 ^ wi.toNat - 1, 0].getD j.toNat 0 < 2 ^ (W * (pre ++ [k]).length) ∧ ns.length = 2 ∧ 0 ≤ ns.getD 0 0 ∧ 0 ≤ ns.getD 1 0 := by
  subst hwi
  rw [Int.toNat_natCast] at *
  have hp := pow_pos' W
  have hd : 0 ≤ [x, 2 ^ W - 1, 0].getD j.toNat 0 ∧ [x, 2 ^ W - 1, 0].getD j.toNat 0 < 2 ^ W := by
    have : j.toNat = 0 ∨ j.toNat = 1 ∨ j.toNat = 2 := by omega
    rcases this with e | e | e <;> rw [e]
    · exact ⟨hx0, hx1⟩
    · show 0 ≤ (2 : Int) ^ W - 1 ∧ (2 : Int) ^ W - 1 < 2 ^ W
      omega
    · exact ⟨Int.le_refl _, hp⟩
  generalize [x, 2 ^ W - 1, 0].getD j.toNat 0 = d at *
  have e1 : (pre ++ [k]).length = pre.length + 1 := by simp
  rw [e1, Nat.mul_succ, Int.pow_add]
  have e2 := Int.mul_le_mul_of_nonneg_right (show v + 1 ≤ 2 ^ (W * pre.length) by omega) (Int.le_of_lt hp)
  rw [Int.add_mul, Int.one_mul] at e2
  have e3 := Int.mul_nonneg h0 (Int.le_of_lt hp)
  exact ⟨by omega, by omega, h2, h3, h4⟩
theorem wk_toNat {W : Nat} {wi k : Int} (hwi : wi = (W : Int)) (h0 : 0 ≤ k) : (wi * k).toNat = W * k.toNat := by
  subst hwi
  obtain ⟨z, rfl⟩ := Int.eq_ofNat_of_zero_le h0
  rw [← Int.natCast_mul, Int.toNat_natCast, Int.toNat_natCast]
theorem drawn_a {W : Nat} {wi k : Int} (hwi : wi = (W : Int)) (hW : 1 ≤ W) (h0 : 0 ≤ k) (h1 : k < 3) : 1 ≤ (2 : Int) ^ (wi * (1 + k)).toNat - 1 ∧ (2 : Int) ^ (wi * (1 + k)).toNat - 1 ≤ 2 ^ (W * 3) := by
  rw [wk_toNat hwi (by omega)]
  have h2 : 1 ≤ W * (1 + k).toNat := Nat.le_trans hW (Nat.le_mul_of_pos_right W (by omega))
  have h3 := pow_le_pow' h2
  have h4 := pow_le_pow' (Nat.mul_le_mul_left W (show (1 + k).toNat ≤ 3 by omega))
  have h5 : (2 : Int) ^ 1 = 2 := rfl
  omega
theorem drawn_b {W : Nat} {wi k : Int} (hwi : wi = (W : Int)) (h0 : 0 ≤ k) (h1 : k < 3) : 1 ≤ (2 : Int) ^ (wi * (1 + k - 1)).toNat ∧ (2 : Int) ^ (wi * (1 + k - 1)).toNat ≤ 2 ^ (W * 3) := by
  rw [wk_toNat hwi (by omega)]
  have h4 := pow_le_pow' (Nat.mul_le_mul_left W (show (1 + k - 1).toNat ≤ 3 by omega))
  have h5 := pow_pos' (W * (1 + k - 1).toNat)
  omega
theorem drawn_c {W N : Nat} {v l : Int} (h0 : 0 ≤ v) (h1 : v < 2 ^ (W * (rangeKs l N).length)) (h2 : N ≤ 3) : 1 ≤ v + 1 ∧ v + 1 ≤ 2 ^ (W * 3) := by
  rw [rangeKs_length] at h1
  have h4 := pow_le_pow' (Nat.mul_le_mul_left W h2)
  omega
theorem news_one {h₀ h : Heap} {L a : Addr} {o : Obj} {news : List (Addr × Obj)} (N : News h₀ L h news) (hm : (a, o) ∈ news) : News h₀ L h [(a, o)] := fun q hq => by
  rw [List.mem_singleton.mp hq]; exact N _ hm
theorem val_rep {W : Nat} (n : Nat) : val W (List.replicate n 0) = 0 := by
  induction n with
  | zero => rfl
  | succ n ih => rw [List.replicate_succ, val, ih, Int.mul_zero]; rfl
theorem rep_dig {W n O : Nat} (hW : 1 ≤ W) (hO : O = 2 ^ (W * n)) : List.replicate n 0 ++ [1] = dig W O := by
  subst hO
  refine dig_eq hW ?_ (.inr ?_) ?_
  · intro l hl
    rcases List.mem_append.mp hl with h | h
    · rw [List.eq_of_mem_replicate h]; exact ⟨Int.le_refl _, pow_pos' W⟩
    · rw [List.mem_singleton.mp h]
      have h2 := two_le hW
      have h3 : (2 : Int) ≤ 2 ^ W := by rw [← natPow_cast]; exact_mod_cast h2
      omega
  · simp
  · rw [val_snoc, val_rep, List.length_replicate, Int.zero_add, Int.mul_one, natPow_cast]
theorem drop_dig {W : Nat} (hW : 1 ≤ W) : ∀ (n z : Nat), (dig W z).drop n = dig W (z / 2 ^ (W * n))
  | 0, z => by simp
  | n + 1, z => by
    by_cases hz : 0 < z
    · rw [dig_pos hW hz, List.drop_succ_cons, drop_dig hW n, Nat.div_div_eq_div_mul, ← Nat.pow_add, Nat.mul_succ, Nat.add_comm]
    · have : z = 0 := by omega
      subst this
      simp [dig_zero]
theorem drop_dig' {W n O z : Nat} (hW : 1 ≤ W) (hO : O = 2 ^ (W * n)) : (dig W z).drop n = dig W (z / O) := by rw [hO, drop_dig hW]
theorem dig_one {W : Nat} (hW : 1 ≤ W) : dig W 1 = [1] := by
  have h2 := two_le hW
  rw [dig_pos hW (by decide), Nat.mod_eq_of_lt (by omega), Nat.div_eq_of_lt (by omega), dig_zero]
  rfl
theorem says_to {w : World} {p : Program} {loose : List Str} {mean : ExcName → Option Value} {mg mb : Str → Option Value} {f : Addr} {d : Nat} {vs : List Value} {Pre : Heap → Prop} {ns ns' : List Int} (e : ns = ns')
    (C : Says w p loose mean mg mb f d vs Pre (GivesRow ns)) : Says w p loose mean mg mb f d vs Pre (GivesRow ns') := e ▸ C
theorem Sm.sub {x y : Nat} (h : Sm x) : Sm (x - y) := h.le (Nat.sub_le _ _)
theorem Sm.div {x y : Nat} (h : Sm x) : Sm (x / y) := h.le (Nat.div_le_self _ _)
theorem news_back {h₀ h h' : Heap} {L ga : Addr} {o : Obj} {news : List (Addr × Obj)} (N : News h₀ L h news) (hm : (ga, o) ∈ news) (K : ∀ b x, b ≠ ga → h.get? b = some x → h'.get? b = some x) (hg : h'.get? ga = some o) : News h₀ L h' news := fun q hq => by
  refine ⟨?_, (N q hq).2⟩
  by_cases e : q.1 = ga
  · have h1 := (N q hq).1
    have h2 := N.get hm
    rw [e, h2] at h1
    rw [e, hg]
    exact h1
  · exact K _ _ e (N q hq).1
theorem news_cons {h₀ h : Heap} {L D : Addr} {o : Obj} {news : List (Addr × Obj)} (N : News h₀ L h news) (N2 : News h₀ L h [(D, o)]) : News h₀ L h ((D, o) :: news) := fun q hq => by
  rcases List.mem_cons.mp hq with rfl | hq
  · exact N2 _ (.head _)
  · exact N q hq
theorem news_sub {h₀ h : Heap} {L : Addr} {news news' : List (Addr × Obj)} (N : News h₀ L h news) (hs : ∀ q ∈ news', q ∈ news) : News h₀ L h news' := fun q hq => N q (hs q hq)
theorem rowAt_kept {h g : Heap} {ga rb : Addr} {ns : List Int} (r : RowAt h rb ns) (hne : rb ≠ ga) (k : ∀ b x, b ≠ ga → h.get? b = some x → g.get? b = some x) : RowAt g rb ns :=
  let ⟨vs, ⟨o, h1, h2⟩, hi⟩ := r; ⟨vs, ⟨o, k _ _ hne h1, h2⟩, hi⟩
/-- small, as an int -/
def SmI (z : Int) : Prop := z.natAbs < 2 ^ 198
theorem smI_of {x : Nat} (h : Sm x) : SmI (x : Int) := by
  unfold SmI
  rw [Int.natAbs_natCast]
  exact h
theorem smI_mul {a b : Int} (ha : SmI a) (hb : SmI b) : IntMulOk a b := IntMulOk.of_le (m := 198) (n := 198) (intBits_le_iff.mpr ha) (intBits_le_iff.mpr hb) (by decide)
/-- what the law asks of a step -/
def StepEnd (G V O R : Nat) : Prop :=
  (0 ≤ (O : Int) - V * G → 0 ≤ ((O : Int) - V * R) * O - ((O : Int) - V * G) * ((O : Int) - V * G) ∧ ((O : Int) - V * R) * O - ((O : Int) - V * G) * ((O : Int) - V * G) < V * O) ∧
  (¬ 0 ≤ (O : Int) - V * G → 0 ≤ ((O : Int) - V * G) * ((O : Int) - V * G) - ((O : Int) - V * R) * O ∧ ((O : Int) - V * G) * ((O : Int) - V * G) - ((O : Int) - V * R) * O < V * O)
theorem step_end {G V O R : Nat} (hO : 0 < O) (hV : 1 ≤ V) (hge : G * (G * V - O) / O ≤ G) (hR : R = if O < G * V then G - G * (G * V - O) / O else G + G * (O - G * V) / O) : StepEnd G V O R := by
  have hcomm : ((V : Int) * G) = ((G * V : Nat) : Int) := by rw [Int.natCast_mul, Int.mul_comm]
  have hVO : (0 : Int) < (V : Int) * O := Int.mul_pos (by omega) (by omega)
  refine ⟨fun h => ?_, fun h => ?_⟩
  · have hle : G * V ≤ O := by omega
    rw [if_neg (by omega)] at hR
    obtain ⟨l, hl⟩ : ∃ l, O - G * V = l := ⟨_, rfl⟩
    have hl2 : O = G * V + l := by omega
    rw [hl] at hR
    have e1 := Nat.mod_add_div (G * l) O
    have e2 := Nat.mod_lt (G * l) hO
    generalize G * l / O = q at *
    generalize G * l % O = r at *
    have key : ((O : Int) - V * R) * O - ((O : Int) - V * G) * ((O : Int) - V * G) = V * r := by
      have h3 : ((O : Int) - V * G) = l := by rw [hcomm]; omega
      have h4 : ((O : Int) - V * R) = l - V * q := by rw [hR, Int.natCast_add, Int.mul_add]; omega
      have h5 : (r : Int) + O * q = G * l := by exact_mod_cast e1
      have h6 : (O : Int) = G * V + l := by rw [hl2]; simp
      rw [h3, h4, Int.sub_mul]
      have h7 : (V : Int) * q * O = V * (G * l) - V * r := by
        rw [← h5, Int.mul_add, Int.mul_assoc, Int.mul_comm (q : Int) O]
        omega
      have h8 : (l : Int) * O = V * (G * l) + l * l := by
        rw [h6, Int.mul_add, Int.mul_left_comm (l : Int) G V, ← Int.mul_assoc, Int.mul_comm (G : Int) l, Int.mul_comm ((l : Int) * G) V, Int.mul_comm (l : Int) G]
      rw [h7, h8]
      omega
    rw [key]
    refine ⟨Int.mul_nonneg (by omega) (by omega), Int.mul_lt_mul_of_pos_left (by omega) (by omega)⟩
  · have hlt : O < G * V := by omega
    rw [if_pos hlt] at hR
    obtain ⟨l, hl⟩ : ∃ l, G * V - O = l := ⟨_, rfl⟩
    have hl2 : G * V = O + l := by omega
    rw [hl] at hR hge
    have e1 := Nat.mod_add_div (G * l) O
    have e2 := Nat.mod_lt (G * l) hO
    generalize G * l / O = q at *
    generalize G * l % O = r at *
    have key : ((O : Int) - V * G) * ((O : Int) - V * G) - ((O : Int) - V * R) * O = V * r := by
      have h3 : ((O : Int) - V * G) = -l := by rw [hcomm]; omega
      have h4 : ((O : Int) - V * R) = V * q - l := by rw [hR, Int.natCast_sub hge, Int.mul_sub]; omega
      have h5 : (r : Int) + O * q = G * l := by exact_mod_cast e1
      have h6 : (G : Int) * V = O + l := by exact_mod_cast hl2
      rw [h3, h4, Int.sub_mul, Int.neg_mul_neg]
      have h7 : (V : Int) * q * O = V * (G * l) - V * r := by
        rw [← h5, Int.mul_add, Int.mul_assoc, Int.mul_comm (q : Int) O]
        omega
      have h8 : (l : Int) * O + l * l = V * (G * l) := by
        rw [← Int.mul_add, ← h6, Int.mul_left_comm (l : Int) G V, ← Int.mul_assoc, Int.mul_comm ((G : Int) * l) V]
      rw [h7]
      omega
    rw [key]
    refine ⟨Int.mul_nonneg (by omega) (by omega), Int.mul_lt_mul_of_pos_left (by omega) (by omega)⟩
theorem news_two {h₀ h : Heap} {L a b : Addr} {o o' : Obj} {news : List (Addr × Obj)} (N : News h₀ L h news) (hm : (a, o) ∈ news) (hm' : (b, o') ∈ news) : News h₀ L h [(a, o), (b, o')] := fun q hq => by
  rcases List.mem_cons.mp hq with rfl | hq
  · exact N _ hm
  · rw [List.mem_singleton.mp hq]; exact N _ hm'
theorem news_back2 {h₀ h h' : Heap} {L a b : Addr} {o o' : Obj} {news : List (Addr × Obj)} (N : News h₀ L h news) (hm : (a, o) ∈ news) (hm' : (b, o') ∈ news) (K : ∀ c x, c ∉ [(a, o), (b, o')].map (·.1) → h.get? c = some x → h'.get? c = some x)
    (hg : h'.get? a = some o) (hg' : h'.get? b = some o') : News h₀ L h' news := fun q hq => by
  refine ⟨?_, (N q hq).2⟩
  by_cases e : q.1 = a
  · have h1 := (N q hq).1
    rw [e, N.get hm] at h1
    rw [e, hg]; exact h1
  · by_cases e2 : q.1 = b
    · have h1 := (N q hq).1
      rw [e2, N.get hm'] at h1
      rw [e2, hg']; exact h1
    · refine K _ _ (fun hq' => ?_) (N q hq).1
      simp only [List.map_cons, List.map_nil] at hq'
      rcases List.mem_cons.mp hq' with h2 | h2
      · exact e h2
      · exact e2 (List.mem_singleton.mp h2)
theorem kept_news {g h₀ h' : Heap} {l : List Addr} {L : Addr} {m : Str → Option Value} (k : ∀ b x, b ∉ l → h₀.get? b = some x → g.get? b = some x) (F : Fr g L h' m) : ∀ b x, b ∉ l → h₀.get? b = some x → h'.get? b = some x :=
  fun b x hb e => F.keep b x (k b x hb e)
end Mine
end NzM3
section NzBox
open PySem PySem.W PyProof.Rows PySem.Calls
namespace Mine
set_option maxRecDepth 100000
/-- entering a def that may turn one list, the box: all else that stands is kept -/
theorem enter_box {prog : Program} {w : World} {A₀ A : Around} {s : Shared} {base h₀ : Heap} {outer : List Env} {L : Addr} {m mg mb : Str → Option Value} {env : Env} {K : Frag} {p : Program} {loose : List Str} {mean : ExcName → Option Value}
    {R : Result → Shared → Prop} {name qual : Str} {params : Arguments} {body : List Stmt} {scope : Scope} {dV kV doc pm cdv ct oc : Value} {an od : Option Addr} {osl : Array (Option Value)} {f : Addr} {args : Args} {binds : List (Str × Value)} {box : Addr} {o : Obj}
    (B : Below A₀ base outer h₀) (F : Fr h₀ L s.heap m) (X₀ : K.In h₀) (N : News h₀ L s.heap [(box, o)]) (T : Top p loose mean mg mb h₀) (hA : A.frames = some (env :: outer)) (hf : env.frame = some L) (hke : env.scope.kind = .function)
    (ho : K.lookup f = some ⟨oc, od, .func (fnOf name qual params body scope dV kV doc pm an cdv ct), osl⟩) (hcd : codeIn K cdv qual = true) (hroom : A.depth < recursionLimit)
    (hbind : BindsTo s (fnOf name qual params body scope dV kV doc pm an cdv ct) args binds) (hloc : ∀ y ∈ binds, scope.names.lookup y.1 = some .local)
    (h : ∀ g L' h₁, (∀ b x, b ≠ box → s.heap.get? b = some x → g.get? b = some x) → Fr g L' h₁ (fun y => binds.reverse.lookup y) → News g L' h₁ [(box, o)] → Below A base (env :: outer) g → K.In g → Top p loose mean mg mb g →
      wpAny (model prog w) (A.deeper (envOf qual scope L' f cdv)) (execs body (envOf qual scope L' f cdv))
        (fun fl s' => LeaveK h₀ L m g R (match fl with | .ret v => v | _ => .none) s')
        (fun e s' => wpAny (model prog w) (A.deeper (envOf qual scope L' f cdv)) (leaving (envOf qual scope L' f cdv) e) (fun _ s'' => R (.error e) s'') (fun e' s'' => R (.error e') s'') s')
        { s with heap := h₁, toks := s.toks + binds.length })
    (hco : scope.isCoroutine = false) (hgen : scope.isGenerator = false) (hk : scope.kind = .function)
    (hcell : ∀ x ∈ scope.names, x.2 ≠ .cell) : codeAny (model prog w) A (.call (.ref f) args) R s :=
  code_defG B F X₀ N T hA hf hke ho hcd hroom hbind hloc (fun g L' h₁ _ F' N' B' X' T' G => h g L' h₁ (fun b x hb e => G b x e fun hm => hb (List.mem_singleton.mp hm)) F' N' B' X' T') hco hgen hk hcell

/-- entering a def with some objects in the ledger: all else that stands is kept -/
theorem enter_news {prog : Program} {w : World} {A₀ A : Around} {s : Shared} {base h₀ : Heap} {outer : List Env} {L : Addr} {m mg mb : Str → Option Value} {env : Env} {K : Frag} {p : Program} {loose : List Str} {mean : ExcName → Option Value}
    {R : Result → Shared → Prop} {name qual : Str} {params : Arguments} {body : List Stmt} {scope : Scope} {dV kV doc pm cdv ct oc : Value} {an od : Option Addr} {osl : Array (Option Value)} {f : Addr} {args : Args} {binds : List (Str × Value)} {news : List (Addr × Obj)}
    (B : Below A₀ base outer h₀) (F : Fr h₀ L s.heap m) (X₀ : K.In h₀) (N : News h₀ L s.heap news) (T : Top p loose mean mg mb h₀) (hA : A.frames = some (env :: outer)) (hf : env.frame = some L) (hke : env.scope.kind = .function)
    (ho : K.lookup f = some ⟨oc, od, .func (fnOf name qual params body scope dV kV doc pm an cdv ct), osl⟩) (hcd : codeIn K cdv qual = true) (hroom : A.depth < recursionLimit)
    (hbind : BindsTo s (fnOf name qual params body scope dV kV doc pm an cdv ct) args binds) (hloc : ∀ y ∈ binds, scope.names.lookup y.1 = some .local)
    (h : ∀ g L' h₁, (∀ b x, b ∉ news.map (·.1) → s.heap.get? b = some x → g.get? b = some x) → Fr g L' h₁ (fun y => binds.reverse.lookup y) → News g L' h₁ news → Below A base (env :: outer) g → K.In g → Top p loose mean mg mb g →
      wpAny (model prog w) (A.deeper (envOf qual scope L' f cdv)) (execs body (envOf qual scope L' f cdv))
        (fun fl s' => LeaveK h₀ L m g R (match fl with | .ret v => v | _ => .none) s')
        (fun e s' => wpAny (model prog w) (A.deeper (envOf qual scope L' f cdv)) (leaving (envOf qual scope L' f cdv) e) (fun _ s'' => R (.error e) s'') (fun e' s'' => R (.error e') s'') s')
        { s with heap := h₁, toks := s.toks + binds.length })
    (hco : scope.isCoroutine = false) (hgen : scope.isGenerator = false) (hk : scope.kind = .function)
    (hcell : ∀ x ∈ scope.names, x.2 ≠ .cell) : codeAny (model prog w) A (.call (.ref f) args) R s :=
  code_defG B F X₀ N T hA hf hke ho hcd hroom hbind hloc (fun g L' h₁ _ F' N' B' X' T' G => h g L' h₁ (fun b x hb e => G b x e hb) F' N' B' X' T') hco hgen hk hcell

section
variable (w : World) (p : Program) (loose : List Str) (mean : ExcName → Option Value) (mg mb : Str → Option Value)
/-- a call of the def at f that draws from the box: it gives an int of which Post holds, and turns the box alone -/
def Draws (f : Addr) (d : Nat) (box : Addr) (vs : List Value) (Post : Int → Prop) : Prop :=
  ∀ (dp un : Nat) (gd : Option (List Code)) (cn : Str) (cs : Scope) (a : Addr) (ccd : Value) (cl : List (Str × Addr)) (outer : List Env) (A₀ : Around) (base h₀ : Heap) (L : Addr) (m : Str → Option Value) (s : Shared) (Q E : Value → Shared → Prop) (us : List Value) (n : Nat) (ns : List Int),
    Below A₀ base outer h₀ → Fr h₀ L s.heap m → (hd.heap_39 w.params).In h₀ → News h₀ L s.heap [(box, listOf us.toArray n)] → Top p loose mean mg mb h₀ → cs.kind = .function → dp + d < recursionLimit → un + 100 * d < cLine →
    IntsAre us ns → ns.length = 2 → 0 ≤ ns.getD 0 0 → 0 ≤ ns.getD 1 0 →
    (∀ k t us' n' ns' h' tk', Post k → Fr h₀ L h' m → News h₀ L h' [(box, listOf us'.toArray n')] → (∀ b x, b ≠ box → s.heap.get? b = some x → h'.get? b = some x) → IntsAre us' ns' → ns'.length = 2 → 0 ≤ ns'.getD 0 0 → 0 ≤ ns'.getD 1 0 → Q (.int k t) { s with heap := h', toks := tk' }) →
    wpAny (model PySem.Challenge.rw_nz0077_01.row.prog w) (ktrTop dp un gd cn cs L a ccd cl outer) (call (.ref f) vs) Q E s
end
section
variable {w : World} {p : Program} {loose : List Str} {mean : ExcName → Option Value} {mg mb : Str → Option Value}
  {f : Addr} {d : Nat} {vs : List Value} {Post : Int → Prop} {box : Addr} {us : List Value} {n : Nat} {ns : List Int} {g : Obj → List (Addr × Obj)}
  {dp un : Nat} {gd : Option (List Code)} {cn : Str} {cs : Scope} {a : Addr} {ccd : Value} {cl : List (Str × Addr)} {outer : List Env} {A₀ : Around} {base h₀ : Heap} {L : Addr} {m : Str → Option Value} {news : List (Addr × Obj)} {s : Shared} {Q E : Value → Shared → Prop}
theorem draws_use (C : Draws w p loose mean mg mb f d box vs Post) (B : Below A₀ base outer h₀) (F : Fr h₀ L s.heap m) (X : (hd.heap_39 w.params).In h₀) (N : News h₀ L s.heap news) (T : Top p loose mean mg mb h₀) (hk : cs.kind = .function)
    (hd : dp + d < recursionLimit) (hu : un + 100 * d < cLine) (U : UpdF box (listOf us.toArray n) news g) (hi : IntsAre us ns) (h2 : ns.length = 2) (h0 : 0 ≤ ns.getD 0 0) (h1 : 0 ≤ ns.getD 1 0)
    (ret : ∀ k t us' n' ns' h' tk', Post k → Fr h₀ L h' m → News h₀ L h' (g (listOf us'.toArray n')) → IntsAre us' ns' → ns'.length = 2 → 0 ≤ ns'.getD 0 0 → 0 ≤ ns'.getD 1 0 → Q (.int k t) { s with heap := h', toks := tk' }) :
    wpAny (model PySem.Challenge.rw_nz0077_01.row.prog w) (ktrTop dp un gd cn cs L a ccd cl outer) (call (.ref f) vs) Q E s := by
  obtain ⟨pre, post, e, eg, n1, n2⟩ := U.split
  refine C _ _ _ _ _ _ _ _ _ _ _ _ _ _ _ _ _ us n ns B F X (fun q hq => N q ?_) T hk hd hu hi h2 h0 h1 fun k t us' n' ns' h' tk' hP F' N' K' hi' h2' h0' h1' => ret k t us' n' ns' h' tk' hP F' (fun q hq => ?_) hi' h2' h0' h1'
  · rw [List.mem_singleton.mp hq, e]
    exact List.mem_append_right _ (.head _)
  · rw [eg] at hq
    rcases List.mem_append.mp hq with hq | hq
    · have := N q (by rw [e]; exact List.mem_append_left _ hq)
      exact ⟨K' _ _ (n1 q hq) this.1, this.2⟩
    · rcases List.mem_cons.mp hq with rfl | hq
      · exact N' _ (.head _)
      · have := N q (by rw [e]; exact List.mem_append_right _ (.tail _ hq))
        exact ⟨K' _ _ (n2 q hq) this.1, this.2⟩
end
theorem two_of {us : List Value} {ns : List Int} (hi : IntsAre us ns) (h2 : ns.length = 2) : ∃ v c t u, ns = [v, c] ∧ us = [.int v t, .int c u] := by
  cases hi with
  | nil => simp at h2
  | cons v t hi =>
    cases hi with
    | nil => simp at h2
    | cons c u hi =>
      cases hi with
      | nil => exact ⟨v, c, t, u, rfl, rfl⟩
      | cons z y hi => simp at h2
theorem kept_box {g h₀ h' : Heap} {box L : Addr} {m : Str → Option Value} (k : ∀ b x, b ≠ box → h₀.get? b = some x → g.get? b = some x) (F : Fr g L h' m) : ∀ b x, b ≠ box → h₀.get? b = some x → h'.get? b = some x :=
  fun b x hb e => F.keep b x (k b x hb e)
theorem mod_rng {a b : Int} (hb : 0 < b) : 0 ≤ a.fmod b ∧ a.fmod b < b := ⟨Int.fmod_nonneg_of_pos a hb, Int.fmod_lt_of_pos a hb⟩
theorem div_nonneg {a b : Int} (ha : 0 ≤ a) (hb : 0 < b) : 0 ≤ a.fdiv b := Int.fdiv_nonneg ha (Int.le_of_lt hb)
end Mine
end NzBox
section NzRow
open PySem PySem.W PyProof.Rows PySem.Calls
namespace Mine
set_option maxRecDepth 100000
local macro_rules | `(tactic| kst_facts1) => `(tactic| exact IntsAre.nil)
set_option maxHeartbeats 4000000 in
theorem row_says {w : World} {p : Program} {loose : List Str} {mean : ExcName → Option Value} {mg mb : Str → Option Value} {x W : Nat} {xi wi : Int} {t1 t2 : Tok} (hxi : xi = (x : Int)) (hwi : wi = (W : Int)) (hW1 : 1 ≤ W) (hW2 : W ≤ 16) (hlen : (dig W x).length ≤ 200) :
   Says w p loose mean mg mb 116 1 [.int xi t1, .int wi t2] (fun _ => True) (GivesRow (dig W x)) := by
  k_with_none
  w_top off
  unfold Says
  intro dp un gd cn cs a ccd cl outer A₀ base h₀ L m news s Q E B F X N T hk hd hu hpre hret
  revert X; k_fill; intro X
  refine wpAny_call ?_
  k_dflt (refine' enter_def (binds := [(Str.ofString "value", Value.int xi t1), (Str.ofString "w", Value.int wi t2)]) ?k1 ?k2 ?k3 ?k5 ?kA ?kF ?kK ?k6 ?k7 ?k8 ?k9 ?kB ?_ ?c2 ?c3 ?c4 ?c5; (case kA => exact rfl); (case kF => exact rfl); (case kK => assumption); (case k1 => k_asm); (case k2 => k_asm); (case k3 => k_asm); (case k5 => k_asm); (case k6 => k_is); (case k7 => k_is); (case k8 => ktr_room); (case k9 => exact BindsTo.of_eq rfl); (case c5 => decide); (case kB => exact locs rfl); (case c2 => exact rfl); (case c3 => exact rfl); (case c4 => exact rfl); k_whole; intro L' h' F' N' B' X' T'; (try dsimp only); (try k_fold))
  (k_with "exec While Compare cons nil" => k_while (fun script found value => 0 ≤ value ∧ found.length ≤ 200 ∧ found ++ dig W value.toNat = dig W x) (fun script found value => value.toNat) "found" "value")
  (k_with "state" => first | exact row_start hxi | exact row_turn hW1 hwi hlen (by assumption) (by assumption) (by assumption))
  (k_with "measure" => exact row_less hW1 hwi (by assumption))
  repeat' (first | (k_unfold; (try dsimp only)) | (k_end; wrow_close) | walk1 | (dsimp only; walk1))
  exact hret _ _ _ (by k_asm) (News.stays (by assumption) (stays_of (by k_asm))) (stays_of (by k_asm)) ⟨_, rfl, RowNew.to (row_done (by assumption) (by assumption) (by assumption)) (rowNew_news (by assumption) (by k_mem) (by assumption))⟩
end Mine
end NzRow
section NzNormal
open PySem PySem.W PyProof.Rows PySem.Calls
namespace Mine
set_option maxRecDepth 100000
local macro_rules | `(tactic| walk_at "spacer") => `(tactic| fail "spacer")
local macro_rules | `(tactic| kst_facts1) => `(tactic| exact IntsAre.nil)
set_option maxHeartbeats 4000000 in
theorem normal_says {w : World} {p : Program} {loose : List Str} {mean : ExcName → Option Value} {mg mb : Str → Option Value} {x W : Nat} {ns : List Int} {r : Addr} (hW1 : 1 ≤ W) (hin : Dgs W ns) (hv : val W ns = (x : Int)) (hlen : ns.length ≤ 200) :
   Says w p loose mean mg mb 46 1 [.ref r] (fun h => RowAt h r ns) (GivesRow (dig W x)) := by
  k_with_none
  w_top off
  unfold Says
  intro dp un gd cn cs a ccd cl outer A₀ base h₀ L m news s Q E B F X N T hk hd hu hpre hret
  revert X; k_fill; intro X
  refine wpAny_call ?_
  k_dflt (refine' enter_def (binds := [(Str.ofString "a", Value.ref r)]) ?k1 ?k2 ?k3 ?k5 ?kA ?kF ?kK ?k6 ?k7 ?k8 ?k9 ?kB ?_ ?c2 ?c3 ?c4 ?c5; (case kA => exact rfl); (case kF => exact rfl); (case kK => assumption); (case k1 => k_asm); (case k2 => k_asm); (case k3 => k_asm); (case k5 => k_asm); (case k6 => k_is); (case k7 => k_is); (case k8 => ktr_room); (case k9 => exact BindsTo.of_eq rfl); (case c5 => decide); (case kB => exact locs rfl); (case c2 => exact rfl); (case c3 => exact rfl); (case c4 => exact rfl); k_whole; intro L' h' F' N' B' X' T'; (try dsimp only); (try k_fold))
  obtain ⟨vs, hl, hi⟩ := hpre
  (k_with "exec While BoolOp" => k_while (fun script k => 0 ≤ k ∧ k ≤ (ns.length : Int) ∧ ∀ i : Nat, k ≤ (i : Int) → ns.getD i 0 = 0) (fun script k => k.toNat) "end")
  (k_with "state" => first | exact normal_start | exact normal_turn (by assumption) (by assumption) (by assumption) (by assumption))
  (k_with "measure" => exact normal_less (by assumption))
  repeat' (first | (k_unfold; (try dsimp only)) | (k_end; wrow_close) | walk1 | (dsimp only; walk1))
  all_goals exact hret _ _ _ (by k_asm) (News.stays (by assumption) (stays_of (by k_asm))) (stays_of (by k_asm)) ⟨_, rfl, RowNew.to (normal_done hW1 hin hv (by assumption) (by assumption) (by assumption) (by first | exact .inl (by assumption) | exact .inr (by assumption))) (rowNew_news (by assumption) (by k_mem) (by assumption))⟩
end Mine
end NzNormal
section NzWhole
open PySem PySem.W PyProof.Rows PySem.Calls
namespace Mine
set_option maxRecDepth 100000
local macro_rules | `(tactic| walk_at "spacer") => `(tactic| fail "spacer")
local macro_rules | `(tactic| kst_facts1) => `(tactic| exact IntsAre.nil)
local macro_rules | `(tactic| walk_at "binaryOp Mult int int") => `(tactic| refine mul_int (hm := mul_pow_ok (by omega)) ?_)
set_option maxHeartbeats 4000000 in
theorem whole_says {w : World} {p : Program} {loose : List Str} {mean : ExcName → Option Value} {mg mb : Str → Option Value} {x W : Nat} {wi : Int} {r : Addr} {t2 : Tok} (hwi : wi = (W : Int)) (hW1 : 1 ≤ W) (hW2 : W ≤ 16) (hlen : (dig W x).length ≤ 200) :
   Says w p loose mean mg mb 123 1 [.ref r, .int wi t2] (fun h => RowAt h r (dig W x)) (GivesInt (x : Int)) := by
  k_with_none
  w_top off
  unfold Says
  intro dp un gd cn cs a ccd cl outer A₀ base h₀ L m news s Q E B F X N T hk hd hu hpre hret
  revert X; k_fill; intro X
  refine wpAny_call ?_
  k_dflt (refine' enter_def (binds := [(Str.ofString "row", Value.ref r), (Str.ofString "w", Value.int wi t2)]) ?k1 ?k2 ?k3 ?k5 ?kA ?kF ?kK ?k6 ?k7 ?k8 ?k9 ?kB ?_ ?c2 ?c3 ?c4 ?c5; (case kA => exact rfl); (case kF => exact rfl); (case kK => assumption); (case k1 => k_asm); (case k2 => k_asm); (case k3 => k_asm); (case k5 => k_asm); (case k6 => k_is); (case k7 => k_is); (case k8 => ktr_room); (case k9 => exact BindsTo.of_eq rfl); (case c5 => decide); (case kB => exact locs rfl); (case c2 => exact rfl); (case c3 => exact rfl); (case c4 => exact rfl); k_whole; intro L' h' F' N' B' X' T'; (try dsimp only); (try k_fold))
  obtain ⟨vs, hl, hi⟩ := hpre
  (k_with "pyIter ref" => k_state (fun pre value => value = pre.foldl (fun (v l : Int) => v * 2 ^ wi.toNat + l) 0) "value")
  (k_with "state" => first | exact whole_start | exact whole_turn (by assumption))
  repeat' (first | (k_unfold; (try dsimp only)) | (k_end; wrow_close) | walk1 | (dsimp only; walk1))
  exact hret _ _ _ (by k_asm) (News.stays (by assumption) (stays_of (by k_asm))) (stays_of (by k_asm)) ⟨_, congrArg (fun z => Value.int z _) (whole_done hW1 hwi (by assumption))⟩
end Mine
end NzWhole
section NzDown
open PySem PySem.W PyProof.Rows PySem.Calls
namespace Mine
set_option maxRecDepth 100000
local macro_rules | `(tactic| kst_facts1) => `(tactic| exact IntsAre.nil)
local macro_rules | `(tactic| walk_at "subscriptTail Name Slice ref ref") => `(tactic| (k_here; (with_reducible show wpAny _ _ (subscriptTail _ (PySem.Expr.Slice _ _ none _) (Value.ref _) (Value.ref _)) _ _ _); k_dflt (refine' kmk_slice_ints ?F ?N ?l ?p ?q ?i ?m ?c ?_ ?s ?t ?z; (case F => k_asm); (case N => k_asm); (case l => kmk_list); (case p => kmk_part); (case q => kmk_part); (case i => l_ints); (case m => exact kmk_from (by l_ints) (by omega)); (case c => kmk_len); (case s => with_unfolding_all rfl); (case t => kmk_pure); (case z => (refine kmk_sz (by l_ints) ?_; rw [sizeLine_eq]; omega))); intro D' ws' h' F' N' l1 hI' hC' hL'; (try k_lt l1); (try k_sweep)))
set_option maxHeartbeats 4000000 in
theorem down_says {w : World} {p : Program} {loose : List Str} {mean : ExcName → Option Value} {mg mb : Str → Option Value} {ns : List Int} {n : Nat} {ni : Int} {r : Addr} {t2 : Tok} (hni : ni = (n : Int)) (hn : n ≤ 200) (hlen : ns.length ≤ 200) :
   Says w p loose mean mg mb 81 1 [.ref r, .int ni t2] (fun h => RowAt h r ns) (GivesRow (ns.drop n)) := by
  k_with_none
  w_top off
  unfold Says
  intro dp un gd cn cs a ccd cl outer A₀ base h₀ L m news s Q E B F X N T hk hd hu hpre hret
  revert X; k_fill; intro X
  refine wpAny_call ?_
  k_dflt (refine' enter_def (binds := [(Str.ofString "a", Value.ref r), (Str.ofString "spot", Value.int ni t2)]) ?k1 ?k2 ?k3 ?k5 ?kA ?kF ?kK ?k6 ?k7 ?k8 ?k9 ?kB ?_ ?c2 ?c3 ?c4 ?c5; (case kA => exact rfl); (case kF => exact rfl); (case kK => assumption); (case k1 => k_asm); (case k2 => k_asm); (case k3 => k_asm); (case k5 => k_asm); (case k6 => k_is); (case k7 => k_is); (case k8 => ktr_room); (case k9 => exact BindsTo.of_eq rfl); (case c5 => decide); (case kB => exact locs rfl); (case c2 => exact rfl); (case c3 => exact rfl); (case c4 => exact rfl); k_whole; intro L' h' F' N' B' X' T'; (try dsimp only); (try k_fold))
  obtain ⟨vs, hl, hi⟩ := hpre
  repeat' (first | (k_unfold; (try dsimp only)) | (k_end; wrow_close) | walk1 | (dsimp only; walk1))
  exact hret _ _ _ (by k_asm) (News.stays (by assumption) (stays_of (by k_asm))) (stays_of (by k_asm)) ⟨_, rfl, RowNew.to (show ns.drop ni.toNat = ns.drop n by rw [hni]; rfl) (rowNew_news (by assumption) (by k_mem) (by assumption))⟩
set_option maxHeartbeats 4000000 in
theorem lifted_says {w : World} {p : Program} {loose : List Str} {mean : ExcName → Option Value} {mg mb : Str → Option Value} {n : Nat} {ni : Int} {r : Addr} {t2 : Tok} (hni : ni = (n : Int)) (hn : n ≤ 200) :
   Says w p loose mean mg mb 74 1 [.ref r, .int ni t2] (fun h => RowAt h r [1]) (GivesRow (List.replicate n 0 ++ [1])) := by
  unfold Says
  intro dp un gd cn cs a ccd cl outer A₀ base h₀ L m news s Q E B F X N T hk hd hu hpre hret
  revert X; k_fill; intro X
  refine wpAny_call ?_
  k_dflt (refine' enter_def (binds := [(Str.ofString "a", Value.ref r), (Str.ofString "spot", Value.int ni t2)]) ?k1 ?k2 ?k3 ?k5 ?kA ?kF ?kK ?k6 ?k7 ?k8 ?k9 ?kB ?_ ?c2 ?c3 ?c4 ?c5; (case kA => exact rfl); (case kF => exact rfl); (case kK => assumption); (case k1 => k_asm); (case k2 => k_asm); (case k3 => k_asm); (case k5 => k_asm); (case k6 => k_is); (case k7 => k_is); (case k8 => ktr_room); (case k9 => exact BindsTo.of_eq rfl); (case c5 => decide); (case kB => exact locs rfl); (case c2 => exact rfl); (case c3 => exact rfl); (case c4 => exact rfl); k_whole; intro L' h' F' N' B' X' T'; (try dsimp only); (try k_fold))
  obtain ⟨vs, hl, hi⟩ := hpre
  repeat' (first | (k_unfold; (try dsimp only)) | (k_end; wrow_close) | walk1 | (dsimp only; walk1))
  exact hret _ _ _ (by k_asm) (News.stays (by assumption) (stays_of (by k_asm))) (stays_of (by k_asm)) ⟨_, rfl, RowNew.to (show (List.replicate ni.toNat [(0 : Int)]).flatten ++ [1] = List.replicate n 0 ++ [1] by rw [hni, Int.toNat_natCast, flatten_ones]) (rowNew_news (by assumption) (by k_mem) (by assumption))⟩
end Mine
end NzDown
section NzCompare
open PySem PySem.W PyProof.Rows PySem.Calls
namespace Mine
set_option maxRecDepth 100000
local macro_rules | `(tactic| kst_facts1) => `(tactic| exact IntsAre.nil)
set_option maxHeartbeats 4000000 in
theorem compare_says {w : World} {p : Program} {loose : List Str} {mean : ExcName → Option Value} {mg mb : Str → Option Value} {x y W : Nat} {r1 r2 : Addr} (hW1 : 1 ≤ W) (hx : (dig W x).length ≤ 200) (hy : (dig W y).length ≤ 200) :
   Says w p loose mean mg mb 53 1 [.ref r1, .ref r2] (fun h => RowAt h r1 (dig W x) ∧ RowAt h r2 (dig W y)) (GivesInt (if x < y then -1 else if x = y then 0 else 1)) := by
  k_with_none
  w_top off
  unfold Says
  intro dp un gd cn cs a ccd cl outer A₀ base h₀ L m news s Q E B F X N T hk hd hu hpre hret
  revert X; k_fill; intro X
  refine wpAny_call ?_
  k_dflt (refine' enter_def (binds := [(Str.ofString "a", Value.ref r1), (Str.ofString "b", Value.ref r2)]) ?k1 ?k2 ?k3 ?k5 ?kA ?kF ?kK ?k6 ?k7 ?k8 ?k9 ?kB ?_ ?c2 ?c3 ?c4 ?c5; (case kA => exact rfl); (case kF => exact rfl); (case kK => assumption); (case k1 => k_asm); (case k2 => k_asm); (case k3 => k_asm); (case k5 => k_asm); (case k6 => k_is); (case k7 => k_is); (case k8 => ktr_room); (case k9 => exact BindsTo.of_eq rfl); (case c5 => decide); (case kB => exact locs rfl); (case c2 => exact rfl); (case c3 => exact rfl); (case c4 => exact rfl); k_whole; intro L' h' F' N' B' X' T'; (try dsimp only); (try k_fold))
  obtain ⟨⟨vs, hl, hi⟩, ⟨us, hl2, hi2⟩⟩ := hpre
  (k_with "pyIter ref" => ((rename IsRange _ _ _ _ _ _ _ _ => rgX); (rename Fr _ _ _ _ => lF'); (rename News _ _ _ _ => lN'); (with_unfolding_all refine' kst_rangeD (σ := Unit) (fun _ => []) (fun _ => []) (fun _ => True) [] (fun pre _ => (dig W x).drop ((dig W x).length - pre.length) = (dig W y).drop ((dig W x).length - pre.length)) () rfl rgX (small_down (by omega) (by omega) (by omega) (by omega)) (rangeSize_downNat _ _) lF' lN' True.intro (List.forall_mem_nil _) (cmp_start (by assumption)) ?_ ?_); (all_goals (try clear lF' lN')); (all_goals (try (intro kC kPre kN kT kU kH kTk kOwn kEq kLt kOff kFacts kInv kFr kNews))); (all_goals (try (intro kC kU kH kTk kFacts kInv kFr kNews))); (all_goals (try dsimp only [List.nil_append])); (all_goals (try k_fold))))
  repeat' (first | (k_unfold; (try dsimp only)) | (k_end; wrow_close) | walk1 | (dsimp only; walk1))
  all_goals first
    | exact hret _ _ _ (by k_asm) (News.stays (by assumption) (stays_of (by k_asm))) (stays_of (by k_asm)) ⟨_, congrArg (fun z => Value.int z _) (cmp_len_lt hW1 (by assumption))⟩
    | exact hret _ _ _ (by k_asm) (News.stays (by assumption) (stays_of (by k_asm))) (stays_of (by k_asm)) ⟨_, congrArg (fun z => Value.int z _) (cmp_len_gt hW1 (by assumption) (by assumption))⟩
    | exact hret _ _ _ (by k_asm) (News.stays (by assumption) (stays_of (by k_asm))) (stays_of (by k_asm)) ⟨_, congrArg (fun z => Value.int z _) (cmp_at_lt hW1 (by assumption) kEq (by omega) kInv (by assumption))⟩
    | exact hret _ _ _ (by k_asm) (News.stays (by assumption) (stays_of (by k_asm))) (stays_of (by k_asm)) ⟨_, congrArg (fun z => Value.int z _) (cmp_at_gt hW1 (by assumption) kEq (by omega) kInv (by assumption) (by assumption))⟩
    | exact hret _ _ _ (by k_asm) (News.stays (by assumption) (stays_of (by k_asm))) (stays_of (by k_asm)) ⟨_, congrArg (fun z => Value.int z _) (cmp_done hW1 (by rw [downKs_length]; omega) kInv)⟩
    | exact kst_end () kFr kNews (fun _ h => nomatch h) (fun q hq => List.mem_append.mpr (.inr hq)) rfl True.intro (List.forall_mem_nil _) (fun z h1 _ _ => by simp [h1, kstB]) (by rw [List.length_append]; exact cmp_turn (by assumption) kEq (by omega) kInv (by assumption))
end Mine
end NzCompare
section NzIsRow
open PySem PySem.W PyProof.Rows PySem.Calls
namespace Mine
set_option maxRecDepth 100000
local macro_rules | `(tactic| kst_facts1) => `(tactic| exact IntsAre.nil)
local macro_rules | `(tactic| walk_at "call ref") => `(tactic| (k_here; k_extra "call ref"))
local macro_rules | `(tactic| walk_at "eval ListComp") => `(tactic| (k_here; k_dflt (refine LCt.ListComp_T (F₀ := by k_asm) (by with_unfolding_all rfl) (by decide) (by rfl) (by decide) (by rfl) ?_); k_dflt lct_toSrc))
local macro_rules | `(tactic| walk_at "CompSrcT") => `(tactic| (k_here; k_dflt (refine LCt.CompSrcT.base (by rfl) (by k_asm) (by k_asm) (by assumption) (by size_fits) ?_; intro g'; (refine' comp_none (by assumption) (fun k' t' I' oI' C' oC' D' m' ys' l' h' tk' E' hk' hI' hC' hx' F' N' off' ne' => ?_) ?_); (all_goals (try (simp only [LCg.Off3, and_true] at off'))); (all_goals (try ((show KPfMark → _); intro hMark'))))))
local macro_rules | `(tactic| walk_at "compareOp NotEq ref ref") => `(tactic| (k_here; (with_reducible show wpAny _ _ (compareOp CmpOp.NotEq (Value.ref _) (Value.ref _)) _ _ _); k_dflt (refine' ne_intsK ?k1 ?k2 ?k3 ?k4 ?k5 ?_; (case k1 => is_list); (case k2 => l_ints); (case k3 => is_list); (case k4 => l_ints); (case k5 => ktr_units); k_whole); (try simp only [eq_self, decide_true, Bool.not_true])))
local macro_rules | `(tactic| walk_at "compareOp Eq ref ref") => `(tactic| (k_here; (with_reducible show wpAny _ _ (compareOp CmpOp.Eq (Value.ref _) (Value.ref _)) _ _ _); k_dflt (refine' eq_intsK ?k1 ?k2 ?k3 ?k4 ?k5 ?_; (case k1 => is_list); (case k2 => l_ints); (case k3 => is_list); (case k4 => l_ints); (case k5 => ktr_units); k_whole); (try simp only [eq_self, decide_true, Bool.not_true])))
local macro_rules | `(tactic| walk_at "subscriptTail Name UnaryOp ref int") => `(tactic| (k_here; (with_reducible show wpAny _ _ (subscriptTail _ _ (Value.ref _) (Value.int _ _)) _ _ _); (with_unfolding_all refine' item_list_ints_neg ?k1 ?k2 ?k3 ?k4 ?k5 ?_; (case k1 => is_list); (case k2 => l_ints); (case k3 => decide); (case k4 => k_extra "len"); (case k5 => decide); k_whole); intro _))
set_option maxHeartbeats 4000000 in
theorem isrow_says {w : World} {p : Program} {loose : List Str} {mean : ExcName → Option Value} {mg mb : Str → Option Value} {x W : Nat} {wi : Int} {r : Addr} {t2 : Tok} (hwi : wi = (W : Int)) (hW1 : 1 ≤ W) (hW2 : W ≤ 16) (hlen : (dig W x).length ≤ 200) :
   Says w p loose mean mg mb 128 1 [.ref r, .int wi t2] (fun h => RowAt h r (dig W x)) (GivesBool true) := by
  k_with_none
  w_top off
  unfold Says
  intro dp un gd cn cs a ccd cl outer A₀ base h₀ L m news s Q E B F X N T hk hd hu hpre hret
  revert X; k_fill; intro X
  refine wpAny_call ?_
  k_dflt (refine' enter_defC (binds := [(Str.ofString "row", Value.ref r), (Str.ofString "w", Value.int wi t2)]) ?k1 ?k2 ?k3 ?k5 ?kA ?kF ?kK ?k6 ?k7 ?k8 ?k9 ?kB ?kD ?_ ?c2 ?c3 ?c4; (case kA => exact rfl); (case kF => exact rfl); (case kK => assumption); (case k1 => k_asm); (case k2 => k_asm); (case k3 => k_asm); (case k5 => k_asm); (case k6 => k_is); (case k7 => k_is); (case k8 => ktr_room); (case k9 => exact BindsTo.of_eq rfl); (case kB => exact rfl); (case kD => decide +kernel); (case c2 => exact rfl); (case c3 => exact rfl); (case c4 => exact rfl); k_whole; intro L' h' tk' cells' F' N' Y' B' X' T'; k_cells Y'; (try simp only [List.cons_append, List.nil_append, List.append_nil] at N'); (try dsimp only); (try k_fold))
  obtain ⟨vs, hl, hi⟩ := hpre
  (k_with "len" => exact neg_one_le (by assumption))
  repeat' (first | (k_unfold; (try dsimp only)) | (k_end; wrow_close) | walk1 | (dsimp only; walk1))
  all_goals first
    | exact (isrow_hi hW1 hwi (by assumption) (by assumption)).elim
    | exact (isrow_lo hW1 (by assumption) (by assumption)).elim
    | (rename decide _ = true => h8; rw [h8]; exact hret _ _ _ (by k_asm) (News.stays (by assumption) (stays_of (by k_asm))) (stays_of (by k_asm)) rfl)
    | (exact hret _ _ _ (by k_asm) (News.stays (by assumption) (stays_of (by k_asm))) (stays_of (by k_asm)) (congrArg Value.bool (decide_eq_true (row_last' hW1 (by assumption)))))
    | fail "an end is left"
end Mine
end NzIsRow
section NzTotal
open PySem PySem.W PyProof.Rows PySem.Calls
namespace Mine
set_option maxRecDepth 100000
local macro_rules | `(tactic| kst_facts1) => `(tactic| exact IntsAre.nil)
local macro_rules | `(tactic| walk_at "call ref") => `(tactic| (k_here; k_extra "call ref"))

set_option maxHeartbeats 4000000 in
theorem total_says {w : World} {p : Program} {loose : List Str} {mean : ExcName → Option Value} {mg mb : Str → Option Value} {ns : List Int} {r : Addr} (hlen : ns.length ≤ 63) :
   Says w p loose mean mg mb 109 1 [.ref r] (fun h => RowAt h r ns) GivesNat := by
  k_with_none
  w_top off
  unfold Says
  intro dp un gd cn cs a ccd cl outer A₀ base h₀ L m news s Q E B F X N T hk hd hu hpre hret
  revert X; k_fill; intro X
  refine wpAny_call ?_
  k_dflt (refine' enter_def (binds := [(Str.ofString "script", Value.ref r)]) ?k1 ?k2 ?k3 ?k5 ?kA ?kF ?kK ?k6 ?k7 ?k8 ?k9 ?kB ?_ ?c2 ?c3 ?c4 ?c5; (case kA => exact rfl); (case kF => exact rfl); (case kK => assumption); (case k1 => k_asm); (case k2 => k_asm); (case k3 => k_asm); (case k5 => k_asm); (case k6 => k_is); (case k7 => k_is); (case k8 => ktr_room); (case k9 => exact BindsTo.of_eq rfl); (case c5 => decide); (case kB => exact locs rfl); (case c2 => exact rfl); (case c3 => exact rfl); (case c4 => exact rfl); k_whole; intro L' h' F' N' B' X' T'; (try dsimp only); (try k_fold))
  obtain ⟨vs, hl, hi⟩ := hpre
  (k_with "pyIter ref" => k_state (fun pre great => 0 ≤ great) "great")
  (k_with "state" => first | exact Int.le_refl _ | exact total_turn (by assumption))
  repeat' (first | (k_unfold; (try dsimp only)) | (k_end; wrow_close) | walk1 | (dsimp only; walk1))
  exact hret _ _ _ (by k_asm) (News.stays (by assumption) (stays_of (by k_asm))) (stays_of (by k_asm)) ⟨_, _, rfl, by assumption⟩
end Mine
end NzTotal
section NzTake
open PySem PySem.W PyProof.Rows PySem.Calls
namespace Mine
set_option maxRecDepth 100000
local macro_rules | `(tactic| kst_facts1) => `(tactic| exact IntsAre.nil)
local macro_rules | `(tactic| walk_at "call ref") => `(tactic| (k_here; k_extra "call ref"))
local macro_rules | `(tactic| walk_at "binaryOp FloorDiv int int") => `(tactic| (k_here; (with_reducible refine floordiv_int ?kbe ?_ (Or.inl (PyProof.noPylong_of_log2 ?kbp))); (case kbe => omega); (case kbp => k_asm)))
local macro_rules | `(tactic| walk_at "binaryOp Mod int int") => `(tactic| (k_here; (with_reducible refine mod_int' ?kbe ?_); (case kbe => omega)))
set_option maxHeartbeats 4000000 in
theorem take_says {w : World} {p : Program} {loose : List Str} {mean : ExcName → Option Value} {mg mb : Str → Option Value} {mi : Int} {box : Addr} {t2 : Tok} (hm : 0 < mi) (hml : mi.natAbs.log2 < 9000) :
   Draws w p loose mean mg mb 102 1 box [.ref box, .int mi t2] (fun k => 0 ≤ k ∧ k < mi) := by
  k_with_none
  w_top off
  unfold Draws
  intro dp un gd cn cs a ccd cl outer A₀ base h₀ L m s Q E us n ns B F X N T hk hd hu hI h2 h0 h1 hret
  revert X; k_fill; intro X
  refine wpAny_call ?_
  k_dflt (refine' enter_box (binds := [(Str.ofString "box", Value.ref box), (Str.ofString "many", Value.int mi t2)]) ?k1 ?k2 ?k3 ?k4 ?k5 ?kA ?kF ?kK ?k6 ?k7 ?k8 ?k9 ?kB ?_ ?c2 ?c3 ?c4 ?c5; (case kA => exact rfl); (case kF => exact rfl); (case kK => assumption); (case k1 => k_asm); (case k2 => k_asm); (case k3 => k_asm); (case k4 => k_asm); (case k5 => k_asm); (case k6 => k_is); (case k7 => k_is); (case k8 => ktr_room); (case k9 => exact BindsTo.of_eq rfl); (case c5 => decide); (case kB => exact locs rfl); (case c2 => exact rfl); (case c3 => exact rfl); (case c4 => exact rfl); k_whole; intro g' L' h' hkeep F' N' B' X' T'; (try dsimp only); (try k_fold))
  obtain ⟨v, c, t, u, rfl, rfl⟩ := two_of hI h2
  repeat' (first | (k_unfold; (try dsimp only)) | (k_end; wrow_close) | walk1 | (dsimp only; walk1))
  · exact hret _ _ _ _ [_, _] _ _ (mod_rng hm) (by k_asm) (by assumption) (kept_box hkeep (by k_asm)) (.cons _ _ (.cons _ _ .nil)) rfl (div_nonneg (show (0 : Int) ≤ v from h0) hm) (Int.add_nonneg (show (0 : Int) ≤ c from h1) (by decide))
  · exact hret _ _ _ _ [_, _] _ _ (mod_rng hm) (by k_asm) (by assumption) (kept_box hkeep (by k_asm)) (.cons _ _ (.cons _ _ .nil)) rfl (show (0 : Int) ≤ v from h0) (Int.add_nonneg (show (0 : Int) ≤ c from h1) (by decide))
end Mine
end NzTake
section NzDrawn
open PySem PySem.W PyProof.Rows PySem.Calls
namespace Mine
set_option maxRecDepth 100000
local macro_rules | `(tactic| walk_at "spacer") => `(tactic| fail "spacer")
local macro_rules | `(tactic| kst_facts1) => `(tactic| exact IntsAre.nil)
local macro_rules | `(tactic| walk_at "call ref") => `(tactic| (k_here; k_extra "call ref"))
local macro_rules | `(tactic| walk_at "binaryOp Mult int int") => `(tactic| (k_here; (refine' mul_int ?_ ?kh); (case kh => k_extra "mul")))
local macro_rules | `(tactic| walk_at "binaryOp Pow int int") => `(tactic| (k_here; (with_reducible refine pow_int_small ?kb1 ?kb2 ?kb3 ?_); (case kb1 => first | omega | exact Int.mul_nonneg (by omega) (by omega)); (case kb2 => first | omega | exact mul_small_le (by omega) (by omega) (by omega) (by omega)); (case kb3 => decide)))
set_option maxHeartbeats 4000000 in
theorem drawn_says {w : World} {p : Program} {loose : List Str} {mean : ExcName → Option Value} {mg mb : Str → Option Value} {W : Nat} {wi : Int} {box : Addr} {t2 t3 : Tok} (hwi : wi = (W : Int)) (hW1 : 1 ≤ W) (hW2 : W ≤ 16) :
   Draws w p loose mean mg mb 149 2 box [.ref box, .int wi t2, .int 3 t3] (fun k => 1 ≤ k ∧ k ≤ 2 ^ (W * 3)) := by
  k_with_none
  w_top off
  unfold Draws
  intro dp un gd cn cs a ccd cl outer A₀ base h₀ L m s Q E us n ns B F X N T hk hd hu hI h2 h0 h1 hret
  revert X; k_fill; intro X
  refine wpAny_call ?_
  k_dflt (refine' enter_box (binds := [(Str.ofString "box", Value.ref box), (Str.ofString "w", Value.int wi t2), (Str.ofString "most", Value.int 3 t3)]) ?k1 ?k2 ?k3 ?k4 ?k5 ?kA ?kF ?kK ?k6 ?k7 ?k8 ?k9 ?kB ?_ ?c2 ?c3 ?c4 ?c5; (case kA => exact rfl); (case kF => exact rfl); (case kK => assumption); (case k1 => k_asm); (case k2 => k_asm); (case k3 => k_asm); (case k4 => k_asm); (case k5 => k_asm); (case k6 => k_is); (case k7 => k_is); (case k8 => ktr_room); (case k9 => exact BindsTo.of_eq rfl); (case c5 => decide); (case kB => exact locs rfl); (case c2 => exact rfl); (case c3 => exact rfl); (case c4 => exact rfl); k_whole; intro g' L' h' hkeep F' N' B' X' T'; (try dsimp only); (try k_fold))
  (k_with "mul" => first | exact mul_pow_ok (by omega) | exact mul_small_ok (by omega) (by omega))
  (k_with "call ref" => ((with_reducible show wpAny _ _ (call (Value.ref 102) _) _ _ _); k_dflt (refine' draws_use (take_says (by first | omega | exact pow_pos' _) (by first | decide | exact pow_log2 (by omega))) ?k1 ?k2 ?k3 ?k4 ?k5 ?kK ?kd ?ku ?kU ?kI ?kl ?ka ?kb ?_; (case k1 => k_asm); (case k2 => k_asm); (case k3 => k_asm); (case k4 => k_asm); (case k5 => k_asm); (case kK => first | exact rfl | assumption); (case kd => ktr_room); (case ku => ktr_units); (case kU => k_updF); (case kI => l_ints); (case kl => first | assumption | rfl); (case ka => first | assumption | exact Int.le_refl _); (case kb => first | assumption | exact Int.le_refl _); (intro k9 t9 us9 n9 ns9 h9 tk9 P9 F9 N9 I9 l9 a9 b9); (try dsimp only at P9 N9); (try obtain ⟨p9, q9⟩ := P9); (try k_sweep); (try dsimp only); (try k_fold))))
  (k_with "pyIter ref" => k_state (fun pre value box => 0 ≤ value ∧ value < 2 ^ (W * pre.length) ∧ box.length = 2 ∧ 0 ≤ box.getD 0 0 ∧ 0 ≤ box.getD 1 0) "value" "box")
  (k_with "state" => first | exact drawn_start (by assumption) (by assumption) (by assumption) | exact drawn_turn hwi (by assumption) (by assumption) (by assumption) (by assumption) (by assumption) (by assumption) (by assumption) (by assumption) (by assumption))
  repeat' (first | (k_unfold; (try dsimp only)) | (k_end; wrow_close) | walk1 | (dsimp only; walk1))
  · exact hret _ _ _ _ _ _ _ (drawn_a hwi hW1 (by assumption) (by assumption)) (by k_asm) (news_one (by assumption) (by k_mem)) (kept_box hkeep (by k_asm)) (by assumption) (by assumption) (by assumption) (by assumption)
  · exact hret _ _ _ _ _ _ _ (drawn_b hwi (by assumption) (by assumption)) (by k_asm) (news_one (by assumption) (by k_mem)) (kept_box hkeep (by k_asm)) (by assumption) (by assumption) (by assumption) (by assumption)
  · exact hret _ _ _ _ _ _ _ (drawn_c (by assumption) (by assumption) (by omega)) (by k_asm) (news_one (by assumption) (by k_mem)) (kept_box hkeep (by k_asm)) (by assumption) (by assumption) (by assumption) (by assumption)
end Mine
end NzDrawn
section NzTimes
open PySem PySem.W PyProof.Rows PySem.Calls
namespace Mine
set_option maxRecDepth 100000
local macro_rules | `(tactic| kst_facts1) => `(tactic| exact IntsAre.nil)
local macro_rules | `(tactic| walk_at "call ref") => `(tactic| (k_here; k_extra "call ref"))
local macro_rules | `(tactic| walk_at "binaryOp Mult int int") => `(tactic| (k_here; (refine' mul_int ?_ ?kh); (case kh => k_extra "mul")))
set_option maxHeartbeats 4000000 in
theorem times_says {w : World} {p : Program} {loose : List Str} {mean : ExcName → Option Value} {mg mb : Str → Option Value} {x y W : Nat} {wi : Int} {r1 r2 : Addr} {t2 : Tok} (hwi : wi = (W : Int)) (hW1 : 1 ≤ W) (hW2 : W ≤ 16) (hx : Sm x) (hy : Sm y) (hxy : Sm (x * y)) :
   Says w p loose mean mg mb 135 2 [.ref r1, .ref r2, .int wi t2] (fun h => RowAt h r1 (dig W x) ∧ RowAt h r2 (dig W y)) (GivesRow (dig W (x * y))) := by
  k_with_none
  w_top off
  unfold Says
  intro dp un gd cn cs a ccd cl outer A₀ base h₀ L m news s Q E B F X N T hk hd hu hpre hret
  revert X; k_fill; intro X
  refine wpAny_call ?_
  k_dflt (refine' enter_def (binds := [(Str.ofString "one", Value.ref r1), (Str.ofString "other", Value.ref r2), (Str.ofString "w", Value.int wi t2)]) ?k1 ?k2 ?k3 ?k5 ?kA ?kF ?kK ?k6 ?k7 ?k8 ?k9 ?kB ?_ ?c2 ?c3 ?c4 ?c5; (case kA => exact rfl); (case kF => exact rfl); (case kK => assumption); (case k1 => k_asm); (case k2 => k_asm); (case k3 => k_asm); (case k5 => k_asm); (case k6 => k_is); (case k7 => k_is); (case k8 => ktr_room); (case k9 => exact BindsTo.of_eq rfl); (case c5 => decide); (case kB => exact locs rfl); (case c2 => exact rfl); (case c3 => exact rfl); (case c4 => exact rfl); k_whole; intro L' h' F' N' B' X' T'; (try dsimp only); (try k_fold))
  obtain ⟨⟨vs, hl, hi⟩, ⟨us, hl2, hi2⟩⟩ := hpre
  (k_with "mul" => exact sm_mul_ok hx hy)
  (k_with "call ref" => first | ((with_reducible show wpAny _ _ (call (Value.ref 123) _) _ _ _); k_dflt (refine' says_int (whole_says (x := x) hwi hW1 hW2 (hx.len hW1)) ?k1 ?k2 ?k3 ?k4 ?k5 ?kK ?kd ?ku ?kp ?_; (case k1 => k_asm); (case k2 => k_asm); (case k3 => k_asm); (case k4 => k_asm); (case k5 => k_asm); (case kK => first | exact rfl | assumption); (case kd => ktr_room); (case ku => ktr_units); (case kp => ((try dsimp only); (first | exact rowAt_news (by k_asm) (by k_mem) (by l_ints) | exact rowAt_list (by assumption) (by assumption) (by k_asm) | exact rowAt_base (by assumption) (by k_asm)))); intro t9 h9 tk9 F9 N9; (try k_sweep); (try dsimp only); (try k_fold))) | ((with_reducible show wpAny _ _ (call (Value.ref 123) _) _ _ _); k_dflt (refine' says_int (whole_says (x := y) hwi hW1 hW2 (hy.len hW1)) ?k1 ?k2 ?k3 ?k4 ?k5 ?kK ?kd ?ku ?kp ?_; (case k1 => k_asm); (case k2 => k_asm); (case k3 => k_asm); (case k4 => k_asm); (case k5 => k_asm); (case kK => first | exact rfl | assumption); (case kd => ktr_room); (case ku => ktr_units); (case kp => ((try dsimp only); (first | exact rowAt_news (by k_asm) (by k_mem) (by l_ints) | exact rowAt_list (by assumption) (by assumption) (by k_asm) | exact rowAt_base (by assumption) (by k_asm)))); intro t9 h9 tk9 F9 N9; (try k_sweep); (try dsimp only); (try k_fold))) | ((with_reducible show wpAny _ _ (call (Value.ref 116) _) _ _ _); k_dflt (refine' says_row (row_says (x := x * y) (Int.natCast_mul x y).symm hwi hW1 hW2 (hxy.len hW1)) ?k1 ?k2 ?k3 ?k4 ?k5 ?kK ?kd ?ku ?kp ?_; (case k1 => k_asm); (case k2 => k_asm); (case k3 => k_asm); (case k4 => k_asm); (case k5 => k_asm); (case kK => first | exact rfl | assumption); (case kd => ktr_room); (case ku => ktr_units); (case kp => ((try dsimp only); (first | done | trivial))); intro D9 us9 n9 h9 tk9 F9 I9 N9; (try k_sweep); (try dsimp only); (try k_fold))))
  repeat' (first | (k_unfold; (try dsimp only)) | (k_end; wrow_close) | walk1 | (dsimp only; walk1))
  exact hret _ _ _ (by k_asm) (News.stays (by assumption) (stays_of (by k_asm))) (stays_of (by k_asm)) ⟨_, rfl, rowNew_news (by assumption) (by k_mem) (by assumption)⟩
end Mine
end NzTimes
section NzSub
open PySem PySem.W PyProof.Rows PySem.Calls
namespace Mine
set_option maxRecDepth 100000
local macro_rules | `(tactic| kst_facts1) => `(tactic| exact IntsAre.nil)
local macro_rules | `(tactic| walk_at "call ref") => `(tactic| (k_here; k_extra "call ref"))

set_option maxHeartbeats 4000000 in
theorem sub_says {w : World} {p : Program} {loose : List Str} {mean : ExcName → Option Value} {mg mb : Str → Option Value} {x y W : Nat} {wi : Int} {r1 r2 : Addr} {t2 : Tok} (hwi : wi = (W : Int)) (hW1 : 1 ≤ W) (hW2 : W ≤ 16) (hx : (dig W x).length ≤ 200) (hy : (dig W y).length ≤ 200) (hyx : y ≤ x) :
   Says w p loose mean mg mb 67 2 [.ref r1, .ref r2, .int wi t2] (fun h => RowAt h r1 (dig W x) ∧ RowAt h r2 (dig W y)) (GivesRow (dig W (x - y))) := by
  k_with_none
  w_top off
  unfold Says
  intro dp un gd cn cs a ccd cl outer A₀ base h₀ L m news s Q E B F X N T hk hd hu hpre hret
  revert X; k_fill; intro X
  refine wpAny_call ?_
  k_dflt (refine' enter_def (binds := [(Str.ofString "a", Value.ref r1), (Str.ofString "b", Value.ref r2), (Str.ofString "w", Value.int wi t2)]) ?k1 ?k2 ?k3 ?k5 ?kA ?kF ?kK ?k6 ?k7 ?k8 ?k9 ?kB ?_ ?c2 ?c3 ?c4 ?c5; (case kA => exact rfl); (case kF => exact rfl); (case kK => assumption); (case k1 => k_asm); (case k2 => k_asm); (case k3 => k_asm); (case k5 => k_asm); (case k6 => k_is); (case k7 => k_is); (case k8 => ktr_room); (case k9 => exact BindsTo.of_eq rfl); (case c5 => decide); (case kB => exact locs rfl); (case c2 => exact rfl); (case c3 => exact rfl); (case c4 => exact rfl); k_whole; intro L' h' F' N' B' X' T'; (try dsimp only); (try k_fold))
  obtain ⟨⟨vs, hl, hi⟩, ⟨us, hl2, hi2⟩⟩ := hpre
  (k_with "call ref" => first | ((with_reducible show wpAny _ _ (call (Value.ref 53) _) _ _ _); k_dflt (refine' says_nat (cmp_nat hyx (cmp_of_int (compare_says (x := x) (y := y) hW1 hx hy))) ?k1 ?k2 ?k3 ?k4 ?k5 ?kK ?kd ?ku ?kp ?_; (case k1 => k_asm); (case k2 => k_asm); (case k3 => k_asm); (case k4 => k_asm); (case k5 => k_asm); (case kK => first | exact rfl | assumption); (case kd => ktr_room); (case ku => ktr_units); (case kp => ((try dsimp only); exact And.intro (by (first | exact rowAt_news (by k_asm) (by k_mem) (by l_ints) | exact rowAt_list (by assumption) (by assumption) (by k_asm) | exact rowAt_base (by assumption) (by k_asm))) (by (first | exact rowAt_news (by k_asm) (by k_mem) (by l_ints) | exact rowAt_list (by assumption) (by assumption) (by k_asm) | exact rowAt_base (by assumption) (by k_asm))))); intro k9 t9 h9 tk9 C9 F9 N9; (try k_sweep); (try dsimp only); (try k_fold))) | ((with_reducible show wpAny _ _ (call (Value.ref 46) _) _ _ _); k_dflt (refine' says_row (normal_says (x := x - y) hW1 (by assumption) (sub_val hW1 hyx (by assumption) (by assumption) (by assumption) (by assumption) (by assumption) (by omega)) (by assumption)) ?k1 ?k2 ?k3 ?k4 ?k5 ?kK ?kd ?ku ?kp ?_; (case k1 => k_asm); (case k2 => k_asm); (case k3 => k_asm); (case k4 => k_asm); (case k5 => k_asm); (case kK => first | exact rfl | assumption); (case kd => ktr_room); (case ku => ktr_units); (case kp => ((try dsimp only); (first | exact rowAt_news (by k_asm) (by k_mem) (by l_ints) | exact rowAt_list (by assumption) (by assumption) (by k_asm) | exact rowAt_base (by assumption) (by k_asm)))); intro D9 us9 n9 h9 tk9 F9 I9 N9; (try k_sweep); (try dsimp only); (try k_fold))))
  (k_with "pyIter ref" => k_state (fun pre borrow found => 0 ≤ borrow ∧ borrow ≤ 1 ∧ found.length = pre.length ∧ found.length ≤ 200 ∧ Dgs W found ∧ val W found = val W ((dig W x).take found.length) - val W ((dig W y).take found.length) + borrow * 2 ^ (W * found.length)) "borrow" "found")
  (k_with "state" => first | exact sub_start | exact sub_neg hwi (dig_in hW1 x) (dig_in hW1 y) (by assumption) (by assumption) (by assumption) (by assumption) (by assumption) (by omega) (by omega) (by first | rfl | exact (getD_out (by omega)).symm) (by assumption) | exact sub_pos (dig_in hW1 x) (dig_in hW1 y) (by assumption) (by assumption) (by assumption) (by assumption) (by assumption) (by omega) (by omega) (by first | rfl | exact (getD_out (by omega)).symm) (by assumption))
  repeat' (first | (k_unfold; (try dsimp only)) | (k_end; wrow_close) | walk1 | (dsimp only; walk1))
  all_goals first | (exfalso; omega) | exact hret _ _ _ (by k_asm) (News.stays (by assumption) (stays_of (by k_asm))) (stays_of (by k_asm)) ⟨_, rfl, rowNew_news (by assumption) (by k_mem) (by assumption)⟩ | fail "an end is left"
end Mine
end NzSub
section NzAdd
open PySem PySem.W PyProof.Rows PySem.Calls
namespace Mine
set_option maxRecDepth 100000
local macro_rules | `(tactic| walk_at "spacer") => `(tactic| fail "spacer")
local macro_rules | `(tactic| kst_facts1) => `(tactic| exact IntsAre.nil)
local macro_rules | `(tactic| walk_at "call ref") => `(tactic| (k_here; k_extra "call ref"))

set_option maxHeartbeats 4000000 in
theorem add_says {w : World} {p : Program} {loose : List Str} {mean : ExcName → Option Value} {mg mb : Str → Option Value} {x y W : Nat} {wi : Int} {r1 r2 : Addr} {t2 : Tok} (hwi : wi = (W : Int)) (hW1 : 1 ≤ W) (hW2 : W ≤ 16) (hx : (dig W x).length ≤ 198) (hy : (dig W y).length ≤ 198) :
   Says w p loose mean mg mb 60 1 [.ref r1, .ref r2, .int wi t2] (fun h => RowAt h r1 (dig W x) ∧ RowAt h r2 (dig W y)) (GivesRow (dig W (x + y))) := by
  k_with_none
  w_top off
  unfold Says
  intro dp un gd cn cs a ccd cl outer A₀ base h₀ L m news s Q E B F X N T hk hd hu hpre hret
  revert X; k_fill; intro X
  refine wpAny_call ?_
  k_dflt (refine' enter_def (binds := [(Str.ofString "a", Value.ref r1), (Str.ofString "b", Value.ref r2), (Str.ofString "w", Value.int wi t2)]) ?k1 ?k2 ?k3 ?k5 ?kA ?kF ?kK ?k6 ?k7 ?k8 ?k9 ?kB ?_ ?c2 ?c3 ?c4 ?c5; (case kA => exact rfl); (case kF => exact rfl); (case kK => assumption); (case k1 => k_asm); (case k2 => k_asm); (case k3 => k_asm); (case k5 => k_asm); (case k6 => k_is); (case k7 => k_is); (case k8 => ktr_room); (case k9 => exact BindsTo.of_eq rfl); (case c5 => decide); (case kB => exact locs rfl); (case c2 => exact rfl); (case c3 => exact rfl); (case c4 => exact rfl); k_whole; intro L' h' F' N' B' X' T'; (try dsimp only); (try k_fold))
  obtain ⟨⟨vs, hl, hi⟩, ⟨us, hl2, hi2⟩⟩ := hpre
  (k_with "pyIter ref" => first
    | ((fail_if_success (rename Dgs _ _ => hDg)); k_state (fun pre carry found => 0 ≤ carry ∧ carry ≤ 1 ∧ found.length = 0 + pre.length ∧ found.length ≤ 200 ∧ Dgs W found ∧ val W found + carry * 2 ^ (W * found.length) = val W ((dig W x).take found.length) + val W ((dig W y).take found.length)) "carry" "found")
    | k_state (fun pre carry found => 0 ≤ carry ∧ carry ≤ 1 ∧ found.length = min (dig W x).length (dig W y).length + pre.length ∧ found.length ≤ 200 ∧ Dgs W found ∧ val W found + carry * 2 ^ (W * found.length) = val W ((dig W x).take found.length) + val W ((dig W y).take found.length)) "carry" "found")
  (k_with "state" => first
    | exact add_start
    | exact add_turn hwi (dig_in hW1 x) (dig_in hW1 y) (by assumption) (by assumption) (by assumption) (by assumption) (by assumption) (by omega) (by omega) (by first | omega | ((have e9 := getD_out (xs := dig W x) (k := kN.toNat) (by omega)); omega) | ((have e9 := getD_out (xs := dig W y) (k := kN.toNat) (by omega)); omega))
    | exact add_mid (by assumption) (by assumption) (by assumption) (by assumption) (by assumption) (by assumption) (by omega))
  repeat' (first | (k_unfold; (try dsimp only)) | (k_end; wrow_close) | walk1 | (dsimp only; walk1))
  all_goals first
    | exact hret _ _ _ (by k_asm) (News.stays (by assumption) (stays_of (by k_asm))) (stays_of (by k_asm)) ⟨_, rfl, RowNew.to (add_done1 hW1 (by assumption) (by assumption) (by assumption) (by assumption) (by assumption) (by omega)) (rowNew_push (by assumption) (by k_mem) (by assumption))⟩
    | exact hret _ _ _ (by k_asm) (News.stays (by assumption) (stays_of (by k_asm))) (stays_of (by k_asm)) ⟨_, rfl, RowNew.to (add_done0 hW1 (by assumption) (by assumption) (by assumption) (by assumption) (by assumption) (by omega)) (rowNew_news (by assumption) (by k_mem) (by assumption))⟩
    | fail "add: an end is left"
end Mine
end NzAdd
section NzNewton
open PySem PySem.W PyProof.Rows PySem.Calls
namespace Mine
set_option maxRecDepth 100000
local macro_rules | `(tactic| kst_facts1) => `(tactic| exact IntsAre.nil)
local macro_rules | `(tactic| walk_at "call ref") => `(tactic| (k_here; k_extra "call ref"))

set_option maxHeartbeats 4000000 in
theorem newton_says {w : World} {p : Program} {loose : List Str} {mean : ExcName → Option Value} {mg mb : Str → Option Value} {G V n W O : Nat} {ni wi : Int} {r1 r2 : Addr} {t2 t3 : Tok} (hO : O = 2 ^ (W * n)) (hni : ni = (n : Int)) (hn : n ≤ 200) (hwi : wi = (W : Int)) (hW1 : 1 ≤ W) (hW2 : W ≤ 16)
    (sG : Sm G) (sB : Sm V) (sO : Sm O) (sGB : Sm (G * V)) (s1 : Sm (G * (G * V - O))) (s2 : Sm (G * (O - G * V))) (hge : G * (G * V - O) / O ≤ G) :
   Says w p loose mean mg mb 95 3 [.ref r1, .ref r2, .int ni t2, .int wi t3, .ref 135] (fun h => RowAt h r1 (dig W G) ∧ RowAt h r2 (dig W V)) (GivesRow (dig W (if O < G * V then G - G * (G * V - O) / O else G + G * (O - G * V) / O))) := by
  k_with_none
  w_top off
  unfold Says
  intro dp un gd cn cs a ccd cl outer A₀ base h₀ L m news s Q E B F X N T hk hd hu hpre hret
  revert X; k_fill; intro X
  refine wpAny_call ?_
  k_dflt (refine' enter_def (binds := [(Str.ofString "guess", Value.ref r1), (Str.ofString "b", Value.ref r2), (Str.ofString "n", Value.int ni t2), (Str.ofString "w", Value.int wi t3), (Str.ofString "mul", Value.ref 135)]) ?k1 ?k2 ?k3 ?k5 ?kA ?kF ?kK ?k6 ?k7 ?k8 ?k9 ?kB ?_ ?c2 ?c3 ?c4 ?c5; (case kA => exact rfl); (case kF => exact rfl); (case kK => assumption); (case k1 => k_asm); (case k2 => k_asm); (case k3 => k_asm); (case k5 => k_asm); (case k6 => k_is); (case k7 => k_is); (case k8 => ktr_room); (case k9 => exact BindsTo.of_eq rfl); (case c5 => decide); (case kB => exact locs rfl); (case c2 => exact rfl); (case c3 => exact rfl); (case c4 => exact rfl); k_whole; intro L' h' F' N' B' X' T'; (try dsimp only); (try k_fold))
  obtain ⟨⟨vs, hl, hi⟩, ⟨us, hl2, hi2⟩⟩ := hpre
  (k_with "call ref" => first
    | ((with_reducible show wpAny _ _ (call (Value.ref 74) _) _ _ _); k_dflt (refine' says_row (says_to (rep_dig hW1 hO) (lifted_says hni hn)) ?k1 ?k2 ?k3 ?k4 ?k5 ?kK ?kd ?ku ?kp ?_; (case k1 => k_asm); (case k2 => k_asm); (case k3 => k_asm); (case k4 => k_asm); (case k5 => k_asm); (case kK => first | exact rfl | assumption); (case kd => ktr_room); (case ku => ktr_units); (case kp => ((try dsimp only); (first | exact rowAt_news (by k_asm) (by k_mem) (by l_ints) | exact rowAt_list (by assumption) (by assumption) (by k_asm) | exact rowAt_base (by assumption) (by k_asm)))); intro D9 us9 n9 h9 tk9 F9 I9 N9; (try k_sweep); (try dsimp only); (try k_fold)))
    | ((with_reducible show wpAny _ _ (call (Value.ref 53) _) _ _ _); k_dflt (refine' says_cmp (cmp_of_int (compare_says (x := G * V) (y := O) hW1 (sGB.len hW1) (sO.len hW1))) ?k1 ?k2 ?k3 ?k4 ?k5 ?kK ?kd ?ku ?kp ?_; (case k1 => k_asm); (case k2 => k_asm); (case k3 => k_asm); (case k4 => k_asm); (case k5 => k_asm); (case kK => first | exact rfl | assumption); (case kd => ktr_room); (case ku => ktr_units); (case kp => ((try dsimp only); exact And.intro (by (first | exact rowAt_news (by k_asm) (by k_mem) (by l_ints) | exact rowAt_list (by assumption) (by assumption) (by k_asm) | exact rowAt_base (by assumption) (by k_asm))) (by (first | exact rowAt_news (by k_asm) (by k_mem) (by l_ints) | exact rowAt_list (by assumption) (by assumption) (by k_asm) | exact rowAt_base (by assumption) (by k_asm))))); intro k9 t9 h9 tk9 C9 c9 F9 N9; (try k_sweep); (try dsimp only); (try k_fold)))
    | ((with_reducible show wpAny _ _ (call (Value.ref 60) _) _ _ _); k_dflt (refine' says_row (add_says (x := G) (y := G * (O - G * V) / O) hwi hW1 hW2 (sG.len8 hW1) (s2.div.len8 hW1)) ?k1 ?k2 ?k3 ?k4 ?k5 ?kK ?kd ?ku ?kp ?_; (case k1 => k_asm); (case k2 => k_asm); (case k3 => k_asm); (case k4 => k_asm); (case k5 => k_asm); (case kK => first | exact rfl | assumption); (case kd => ktr_room); (case ku => ktr_units); (case kp => ((try dsimp only); exact And.intro (by (first | exact rowAt_news (by k_asm) (by k_mem) (by l_ints) | exact rowAt_list (by assumption) (by assumption) (by k_asm) | exact rowAt_base (by assumption) (by k_asm))) (by (first | exact rowAt_news (by k_asm) (by k_mem) (by l_ints) | exact rowAt_list (by assumption) (by assumption) (by k_asm) | exact rowAt_base (by assumption) (by k_asm))))); intro D9 us9 n9 h9 tk9 F9 I9 N9; (try k_sweep); (try dsimp only); (try k_fold)))
    | ((with_reducible show wpAny _ _ (call (Value.ref 81) _) _ _ _); k_dflt (refine' says_row (says_to (drop_dig' hW1 hO) (down_says (ns := dig W (G * (G * V - O))) hni hn (s1.len hW1))) ?k1 ?k2 ?k3 ?k4 ?k5 ?kK ?kd ?ku ?kp ?_; (case k1 => k_asm); (case k2 => k_asm); (case k3 => k_asm); (case k4 => k_asm); (case k5 => k_asm); (case kK => first | exact rfl | assumption); (case kd => ktr_room); (case ku => ktr_units); (case kp => ((try dsimp only); (first | exact rowAt_news (by k_asm) (by k_mem) (by l_ints) | exact rowAt_list (by assumption) (by assumption) (by k_asm) | exact rowAt_base (by assumption) (by k_asm)))); intro D9 us9 n9 h9 tk9 F9 I9 N9; (try k_sweep); (try dsimp only); (try k_fold)))
    | ((with_reducible show wpAny _ _ (call (Value.ref 81) _) _ _ _); k_dflt (refine' says_row (says_to (drop_dig' hW1 hO) (down_says (ns := dig W (G * (O - G * V))) hni hn (s2.len hW1))) ?k1 ?k2 ?k3 ?k4 ?k5 ?kK ?kd ?ku ?kp ?_; (case k1 => k_asm); (case k2 => k_asm); (case k3 => k_asm); (case k4 => k_asm); (case k5 => k_asm); (case kK => first | exact rfl | assumption); (case kd => ktr_room); (case ku => ktr_units); (case kp => ((try dsimp only); (first | exact rowAt_news (by k_asm) (by k_mem) (by l_ints) | exact rowAt_list (by assumption) (by assumption) (by k_asm) | exact rowAt_base (by assumption) (by k_asm)))); intro D9 us9 n9 h9 tk9 F9 I9 N9; (try k_sweep); (try dsimp only); (try k_fold)))
    | ((with_reducible show wpAny _ _ (call (Value.ref 135) _) _ _ _); k_dflt (refine' says_row (times_says (x := G) (y := G * V - O) hwi hW1 hW2 sG sGB.sub s1) ?k1 ?k2 ?k3 ?k4 ?k5 ?kK ?kd ?ku ?kp ?_; (case k1 => k_asm); (case k2 => k_asm); (case k3 => k_asm); (case k4 => k_asm); (case k5 => k_asm); (case kK => first | exact rfl | assumption); (case kd => ktr_room); (case ku => ktr_units); (case kp => ((try dsimp only); exact And.intro (by (first | exact rowAt_news (by k_asm) (by k_mem) (by l_ints) | exact rowAt_list (by assumption) (by assumption) (by k_asm) | exact rowAt_base (by assumption) (by k_asm))) (by (first | exact rowAt_news (by k_asm) (by k_mem) (by l_ints) | exact rowAt_list (by assumption) (by assumption) (by k_asm) | exact rowAt_base (by assumption) (by k_asm))))); intro D9 us9 n9 h9 tk9 F9 I9 N9; (try k_sweep); (try dsimp only); (try k_fold)))
    | ((with_reducible show wpAny _ _ (call (Value.ref 135) _) _ _ _); k_dflt (refine' says_row (times_says (x := G) (y := O - G * V) hwi hW1 hW2 sG sO.sub s2) ?k1 ?k2 ?k3 ?k4 ?k5 ?kK ?kd ?ku ?kp ?_; (case k1 => k_asm); (case k2 => k_asm); (case k3 => k_asm); (case k4 => k_asm); (case k5 => k_asm); (case kK => first | exact rfl | assumption); (case kd => ktr_room); (case ku => ktr_units); (case kp => ((try dsimp only); exact And.intro (by (first | exact rowAt_news (by k_asm) (by k_mem) (by l_ints) | exact rowAt_list (by assumption) (by assumption) (by k_asm) | exact rowAt_base (by assumption) (by k_asm))) (by (first | exact rowAt_news (by k_asm) (by k_mem) (by l_ints) | exact rowAt_list (by assumption) (by assumption) (by k_asm) | exact rowAt_base (by assumption) (by k_asm))))); intro D9 us9 n9 h9 tk9 F9 I9 N9; (try k_sweep); (try dsimp only); (try k_fold)))
    | ((with_reducible show wpAny _ _ (call (Value.ref 135) _) _ _ _); k_dflt (refine' says_row (times_says (x := G) (y := V) hwi hW1 hW2 sG sB sGB) ?k1 ?k2 ?k3 ?k4 ?k5 ?kK ?kd ?ku ?kp ?_; (case k1 => k_asm); (case k2 => k_asm); (case k3 => k_asm); (case k4 => k_asm); (case k5 => k_asm); (case kK => first | exact rfl | assumption); (case kd => ktr_room); (case ku => ktr_units); (case kp => ((try dsimp only); exact And.intro (by (first | exact rowAt_news (by k_asm) (by k_mem) (by l_ints) | exact rowAt_list (by assumption) (by assumption) (by k_asm) | exact rowAt_base (by assumption) (by k_asm))) (by (first | exact rowAt_news (by k_asm) (by k_mem) (by l_ints) | exact rowAt_list (by assumption) (by assumption) (by k_asm) | exact rowAt_base (by assumption) (by k_asm))))); intro D9 us9 n9 h9 tk9 F9 I9 N9; (try k_sweep); (try dsimp only); (try k_fold)))
    | ((with_reducible show wpAny _ _ (call (Value.ref 67) _) _ _ _); k_dflt (refine' says_row (sub_says (x := G * V) (y := O) hwi hW1 hW2 (sGB.len hW1) (sO.len hW1) (by omega)) ?k1 ?k2 ?k3 ?k4 ?k5 ?kK ?kd ?ku ?kp ?_; (case k1 => k_asm); (case k2 => k_asm); (case k3 => k_asm); (case k4 => k_asm); (case k5 => k_asm); (case kK => first | exact rfl | assumption); (case kd => ktr_room); (case ku => ktr_units); (case kp => ((try dsimp only); exact And.intro (by (first | exact rowAt_news (by k_asm) (by k_mem) (by l_ints) | exact rowAt_list (by assumption) (by assumption) (by k_asm) | exact rowAt_base (by assumption) (by k_asm))) (by (first | exact rowAt_news (by k_asm) (by k_mem) (by l_ints) | exact rowAt_list (by assumption) (by assumption) (by k_asm) | exact rowAt_base (by assumption) (by k_asm))))); intro D9 us9 n9 h9 tk9 F9 I9 N9; (try k_sweep); (try dsimp only); (try k_fold)))
    | ((with_reducible show wpAny _ _ (call (Value.ref 67) _) _ _ _); k_dflt (refine' says_row (sub_says (x := O) (y := G * V) hwi hW1 hW2 (sO.len hW1) (sGB.len hW1) (by omega)) ?k1 ?k2 ?k3 ?k4 ?k5 ?kK ?kd ?ku ?kp ?_; (case k1 => k_asm); (case k2 => k_asm); (case k3 => k_asm); (case k4 => k_asm); (case k5 => k_asm); (case kK => first | exact rfl | assumption); (case kd => ktr_room); (case ku => ktr_units); (case kp => ((try dsimp only); exact And.intro (by (first | exact rowAt_news (by k_asm) (by k_mem) (by l_ints) | exact rowAt_list (by assumption) (by assumption) (by k_asm) | exact rowAt_base (by assumption) (by k_asm))) (by (first | exact rowAt_news (by k_asm) (by k_mem) (by l_ints) | exact rowAt_list (by assumption) (by assumption) (by k_asm) | exact rowAt_base (by assumption) (by k_asm))))); intro D9 us9 n9 h9 tk9 F9 I9 N9; (try k_sweep); (try dsimp only); (try k_fold)))
    | ((with_reducible show wpAny _ _ (call (Value.ref 67) _) _ _ _); k_dflt (refine' says_row (sub_says (x := G) (y := G * (G * V - O) / O) hwi hW1 hW2 (sG.len hW1) (s1.div.len hW1) hge) ?k1 ?k2 ?k3 ?k4 ?k5 ?kK ?kd ?ku ?kp ?_; (case k1 => k_asm); (case k2 => k_asm); (case k3 => k_asm); (case k4 => k_asm); (case k5 => k_asm); (case kK => first | exact rfl | assumption); (case kd => ktr_room); (case ku => ktr_units); (case kp => ((try dsimp only); exact And.intro (by (first | exact rowAt_news (by k_asm) (by k_mem) (by l_ints) | exact rowAt_list (by assumption) (by assumption) (by k_asm) | exact rowAt_base (by assumption) (by k_asm))) (by (first | exact rowAt_news (by k_asm) (by k_mem) (by l_ints) | exact rowAt_list (by assumption) (by assumption) (by k_asm) | exact rowAt_base (by assumption) (by k_asm))))); intro D9 us9 n9 h9 tk9 F9 I9 N9; (try k_sweep); (try dsimp only); (try k_fold))))
  repeat' (first | (k_unfold; (try dsimp only)) | (k_end; wrow_close) | walk1 | (dsimp only; walk1))
  all_goals first
    | exact hret _ _ _ (by k_asm) (News.stays (by assumption) (stays_of (by k_asm))) (stays_of (by k_asm)) ⟨_, rfl, RowNew.to (congrArg (dig W) (if_pos (by omega)).symm) (rowNew_news (by assumption) (by k_mem) (by assumption))⟩
    | exact hret _ _ _ (by k_asm) (News.stays (by assumption) (stays_of (by k_asm))) (stays_of (by k_asm)) ⟨_, rfl, RowNew.to (congrArg (dig W) (if_neg (by omega)).symm) (rowNew_news (by assumption) (by k_mem) (by assumption))⟩
    | fail "an end is left"
end Mine
end NzNewton
section NzStep
open PySem PySem.W PyProof.Rows PySem.Calls
namespace Mine
set_option maxRecDepth 100000
local macro_rules | `(tactic| kst_facts1) => `(tactic| exact IntsAre.nil)
local macro_rules | `(tactic| walk_at "call ref") => `(tactic| (k_here; k_extra "call ref"))
local macro_rules | `(tactic| walk_at "binaryOp Mult int int") => `(tactic| (k_here; (refine' mul_int ?_ ?kh); (case kh => k_extra "mul")))
local macro_rules | `(tactic| walk_at "binaryOp Pow int int") => `(tactic| (k_here; (with_reducible refine pow_int_small ?kb1 ?kb2 ?kb3 ?_); (case kb1 => first | omega | exact Int.mul_nonneg (by omega) (by omega)); (case kb2 => first | omega | exact mul_small_le (by omega) (by omega) (by omega) (by omega)); (case kb3 => decide)))
set_option maxHeartbeats 4000000 in
theorem step_says {w : World} {p : Program} {loose : List Str} {mean : ExcName → Option Value} {mg mb : Str → Option Value} {G V n W O R : Nat} {bi ni gi wi : Int} {t1 t2 t3 t4 : Tok} (hO : O = 2 ^ (W * n)) (hbi : bi = (V : Int)) (hni : ni = (n : Int)) (hn : n ≤ 200) (hgi : gi = (G : Int)) (hwi : wi = (W : Int)) (hW1 : 1 ≤ W) (hW2 : W ≤ 16)
    (sG : Sm G) (sV : Sm V) (sO : Sm O) (sGV : Sm (G * V)) (s1 : Sm (G * (G * V - O))) (s2 : Sm (G * (O - G * V))) (hge : G * (G * V - O) / O ≤ G) (hR : R = if O < G * V then G - G * (G * V - O) / O else G + G * (O - G * V) / O) (sR : Sm R)
    (hone : (2 : Int) ^ (wi * ni).toNat = (O : Int)) (sL : SmI ((O : Int) - bi * gi)) (sM : SmI ((O : Int) - bi * (R : Int))) (hend : StepEnd G V O R) :
   Says w p loose mean mg mb 156 4 [.int bi t1, .int ni t2, .int gi t3, .int wi t4] (fun _ => True) (GivesBool true) := by
  k_with_none
  w_top off
  unfold Says
  intro dp un gd cn cs a ccd cl outer A₀ base h₀ L m news s Q E B F X N T hk hd hu hpre hret
  revert X; k_fill; intro X
  refine wpAny_call ?_
  k_dflt (refine' enter_def (binds := [(Str.ofString "b", Value.int bi t1), (Str.ofString "n", Value.int ni t2), (Str.ofString "guess", Value.int gi t3), (Str.ofString "w", Value.int wi t4)]) ?k1 ?k2 ?k3 ?k5 ?kA ?kF ?kK ?k6 ?k7 ?k8 ?k9 ?kB ?_ ?c2 ?c3 ?c4 ?c5; (case kA => exact rfl); (case kF => exact rfl); (case kK => assumption); (case k1 => k_asm); (case k2 => k_asm); (case k3 => k_asm); (case k5 => k_asm); (case k6 => k_is); (case k7 => k_is); (case k8 => ktr_room); (case k9 => exact BindsTo.of_eq rfl); (case c5 => decide); (case kB => exact locs rfl); (case c2 => exact rfl); (case c3 => exact rfl); (case c4 => exact rfl); k_whole; intro L' h' F' N' B' X' T'; (try dsimp only); (try k_fold))
  have sB' : SmI bi := hbi ▸ smI_of sV
  have sG' : SmI gi := hgi ▸ smI_of sG
  have sR' : SmI (R : Int) := smI_of sR
  have sO' : SmI (O : Int) := smI_of sO
  (k_with "mul" => first | exact mul_small_ok (by omega) (by omega) | exact smI_mul (by first | assumption | (rw [hone]; assumption)) (by first | assumption | (rw [hone]; assumption)))
  (k_with "call ref" => first
    | ((with_reducible show wpAny _ _ (call (Value.ref 116) _) _ _ _); k_dflt (refine' says_row (row_says (x := G) hgi hwi hW1 hW2 (sG.len hW1)) ?k1 ?k2 ?k3 ?k4 ?k5 ?kK ?kd ?ku ?kp ?_; (case k1 => k_asm); (case k2 => k_asm); (case k3 => k_asm); (case k4 => k_asm); (case k5 => k_asm); (case kK => first | exact rfl | assumption); (case kd => ktr_room); (case ku => ktr_units); (case kp => ((try dsimp only); (first | done | trivial))); intro D9 us9 n9 h9 tk9 F9 I9 N9; (try k_sweep); (try dsimp only); (try k_fold)))
    | ((with_reducible show wpAny _ _ (call (Value.ref 116) _) _ _ _); k_dflt (refine' says_row (row_says (x := V) hbi hwi hW1 hW2 (sV.len hW1)) ?k1 ?k2 ?k3 ?k4 ?k5 ?kK ?kd ?ku ?kp ?_; (case k1 => k_asm); (case k2 => k_asm); (case k3 => k_asm); (case k4 => k_asm); (case k5 => k_asm); (case kK => first | exact rfl | assumption); (case kd => ktr_room); (case ku => ktr_units); (case kp => ((try dsimp only); (first | done | trivial))); intro D9 us9 n9 h9 tk9 F9 I9 N9; (try k_sweep); (try dsimp only); (try k_fold)))
    | ((with_reducible show wpAny _ _ (call (Value.ref 95) _) _ _ _); k_dflt (refine' says_row (says_to (congrArg (dig W) hR.symm) (newton_says (G := G) (V := V) hO hni hn hwi hW1 hW2 sG sV sO sGV s1 s2 hge)) ?k1 ?k2 ?k3 ?k4 ?k5 ?kK ?kd ?ku ?kp ?_; (case k1 => k_asm); (case k2 => k_asm); (case k3 => k_asm); (case k4 => k_asm); (case k5 => k_asm); (case kK => first | exact rfl | assumption); (case kd => ktr_room); (case ku => ktr_units); (case kp => ((try dsimp only); exact And.intro (by (first | exact rowAt_news (by k_asm) (by k_mem) (by l_ints) | exact rowAt_list (by assumption) (by assumption) (by k_asm) | exact rowAt_base (by assumption) (by k_asm))) (by (first | exact rowAt_news (by k_asm) (by k_mem) (by l_ints) | exact rowAt_list (by assumption) (by assumption) (by k_asm) | exact rowAt_base (by assumption) (by k_asm))))); intro D9 us9 n9 h9 tk9 F9 I9 N9; (try k_sweep); (try dsimp only); (try k_fold)))
    | ((with_reducible show wpAny _ _ (call (Value.ref 128) _) _ _ _); k_dflt (refine' says_bool (isrow_says (x := R) hwi hW1 hW2 (sR.len hW1)) ?k1 ?k2 ?k3 ?k4 ?k5 ?kK ?kd ?ku ?kp ?_; (case k1 => k_asm); (case k2 => k_asm); (case k3 => k_asm); (case k4 => k_asm); (case k5 => k_asm); (case kK => first | exact rfl | assumption); (case kd => ktr_room); (case ku => ktr_units); (case kp => ((try dsimp only); (first | exact rowAt_news (by k_asm) (by k_mem) (by l_ints) | exact rowAt_list (by assumption) (by assumption) (by k_asm) | exact rowAt_base (by assumption) (by k_asm)))); intro h9 tk9 F9 N9; (try k_sweep); (try dsimp only); (try k_fold)))
    | ((with_reducible show wpAny _ _ (call (Value.ref 123) _) _ _ _); k_dflt (refine' says_int (whole_says (x := R) hwi hW1 hW2 (sR.len hW1)) ?k1 ?k2 ?k3 ?k4 ?k5 ?kK ?kd ?ku ?kp ?_; (case k1 => k_asm); (case k2 => k_asm); (case k3 => k_asm); (case k4 => k_asm); (case k5 => k_asm); (case kK => first | exact rfl | assumption); (case kd => ktr_room); (case ku => ktr_units); (case kp => ((try dsimp only); (first | exact rowAt_news (by k_asm) (by k_mem) (by l_ints) | exact rowAt_list (by assumption) (by assumption) (by k_asm) | exact rowAt_base (by assumption) (by k_asm)))); intro t9 h9 tk9 F9 N9; (try k_sweep); (try dsimp only); (try k_fold))))
  repeat' (first | (k_unfold; (try dsimp only)) | (k_end; wrow_close) | walk1 | (dsimp only; walk1))
  · exact hret _ _ _ (by k_asm) (News.stays (by assumption) (stays_of (by k_asm))) (stays_of (by k_asm)) (congrArg Value.bool (decide_eq_true (by (have hc := (by assumption : 0 ≤ (2 : Int) ^ (wi * ni).toNat - bi * gi)); (rw [hone, hbi, hgi] at hc); (rw [hone, hbi, hgi]); exact (hend.1 hc).2)))
  · exact hret _ _ _ (by k_asm) (News.stays (by assumption) (stays_of (by k_asm))) (stays_of (by k_asm)) (congrArg Value.bool (decide_eq_true (by (have hc := (by assumption : 0 ≤ (2 : Int) ^ (wi * ni).toNat - bi * gi)); (rw [hone, hbi, hgi] at hc); (rw [hone, hbi, hgi]); exact (hend.1 hc).1)))
  · exact hret _ _ _ (by k_asm) (News.stays (by assumption) (stays_of (by k_asm))) (stays_of (by k_asm)) (congrArg Value.bool (decide_eq_true (by (have hc := (by assumption : ¬ 0 ≤ (2 : Int) ^ (wi * ni).toNat - bi * gi)); (rw [hone, hbi, hgi] at hc); (rw [hone, hbi, hgi]); exact (hend.2 hc).2)))
  · exact hret _ _ _ (by k_asm) (News.stays (by assumption) (stays_of (by k_asm))) (stays_of (by k_asm)) (congrArg Value.bool (decide_eq_true (by (have hc := (by assumption : ¬ 0 ≤ (2 : Int) ^ (wi * ni).toNat - bi * gi)); (rw [hone, hbi, hgi] at hc); (rw [hone, hbi, hgi]); exact (hend.2 hc).1)))
end Mine
end NzStep
section NzCorr
open PySem PySem.W PyProof.Rows PySem.Calls
namespace Mine
set_option maxRecDepth 100000
local macro_rules | `(tactic| kst_facts1) => `(tactic| exact IntsAre.nil)
local macro_rules | `(tactic| walk_at "call ref") => `(tactic| (k_here; k_extra "call ref"))
local macro_rules | `(tactic| walk_at "KswEnd") => `(tactic| k_extra "KswEnd")
/-- a state of corrected's loops: two rows and where they stand; what the first is worth -/
structure CS where
  g : Addr
  t : Addr
  v1 : List Value
  v2 : List Value
  n1 : Nat
  n2 : Nat
  x : Nat
def Mark1 : Prop := True
def Mark2 : Prop := True
theorem one_len {W : Nat} (hW : 1 ≤ W) : (dig W 1).length ≤ 200 := by rw [dig_one hW]; decide
theorem one_len8 {W : Nat} (hW : 1 ≤ W) : (dig W 1).length ≤ 198 := by rw [dig_one hW]; decide
theorem corr_pos {x B O : Nat} (h : O < x * B) : 1 ≤ x := by
  rcases Nat.eq_zero_or_pos x with h2 | h2
  · rw [h2, Nat.zero_mul] at h; omega
  · exact h2
theorem corr_ge {x B O : Nat} (h : O < x * B) : B ≤ x * B := Nat.le_mul_of_pos_left B (corr_pos h)
theorem corr_le {x B O : Nat} (hB : 1 ≤ B) (h : x * B ≤ O) : x ≤ O := Nat.le_trans (Nat.le_mul_of_pos_right x hB) h
theorem corr_i1 {vs : List Value} {W x B : Nat} (h : IntsAre vs (dig W (x * B - B))) : IntsAre vs (dig W ((x - 1) * B)) := by rw [Nat.sub_mul, Nat.one_mul]; exact h
theorem corr_i2 {vs : List Value} {W x B O : Nat} (h : IntsAre vs (dig W (O - x * B - B))) : IntsAre vs (dig W (O - (x + 1) * B)) := by rw [Nat.add_mul, Nat.one_mul, Nat.sub_add_eq]; exact h
theorem corr_l1 {x : Nat} (h : 1 ≤ x) : x - 1 < x := by omega
theorem corr_p2 {x B O : Nat} (h : x * B ≤ O) (h2 : ¬ O - x * B < B) : (x + 1) * B ≤ O := by rw [Nat.add_mul, Nat.one_mul]; omega
theorem corr_l2 {x B O : Nat} (hB : 1 ≤ B) (h : x * B ≤ O) (h2 : ¬ O - x * B < B) : O - (x + 1) * B < O - x * B := by rw [Nat.add_mul, Nat.one_mul]; omega
theorem corr_q {x B O : Nat} (hB : 1 ≤ B) (h : x * B ≤ O) (h2 : O - x * B < B) : x = O / B := by
  symm
  refine Nat.div_eq_of_lt_le h ?_
  rw [Nat.add_mul, Nat.one_mul]; omega
set_option maxHeartbeats 4000000 in
theorem corrected_says {w : World} {p : Program} {loose : List Str} {mean : ExcName → Option Value} {mg mb : Str → Option Value} {G B n W O : Nat} {ni wi : Int} {ga rb : Addr} {t2 t3 : Tok} (hO : O = 2 ^ (W * n)) (hni : ni = (n : Int)) (hn : n ≤ 200) (hwi : wi = (W : Int)) (hW1 : 1 ≤ W) (hW2 : W ≤ 16) (hB : 1 ≤ B)
    (sG : Sm G) (sB : Sm B) (sO : Sm O) (sGB : Sm (G * B)) 
    (dp un : Nat) (gd : Option (List Code)) (cn : Str) (cs : Scope) (a : Addr) (ccd : Value) (cl : List (Str × Addr)) (outer : List Env) (A₀ : Around) (base h₀ : Heap) (L : Addr) (m : Str → Option Value) (news : List (Addr × Obj)) (s : Shared) (Q E : Value → Shared → Prop) (us ub : List Value) (nn nb : Nat)
    (BB : Below A₀ base outer h₀) (F : Fr h₀ L s.heap m) (X : (hd.heap_39 w.params).In h₀) (NN : News h₀ L s.heap news) (T : Top p loose mean mg mb h₀) (hk : cs.kind = .function) (hd : dp + 3 < recursionLimit) (hu : un + 100 * 3 < cLine)
    (hm : (ga, listOf us.toArray nn) ∈ news) (hI : IntsAre us (dig W G)) (hmb : (rb, listOf ub.toArray nb) ∈ news) (hIb : IntsAre ub (dig W B))
    (hret : ∀ D us' n' h' tk', Fr h₀ L h' m → IntsAre us' (dig W (O / B)) → News h₀ L h' ((D, listOf us'.toArray n') :: news) → Q (.ref D) { s with heap := h', toks := tk' }) :
    wpAny (model PySem.Challenge.rw_nz0077_01.row.prog w) (ktrTop dp un gd cn cs L a ccd cl outer) (call (.ref 88) [.ref ga, .ref rb, .int ni t2, .int wi t3, .ref 135]) Q E s := by
  k_with_none
  w_top off
  revert X; k_fill; intro X
  have N := news_two NN hm hmb
  refine wpAny_call ?_
  k_dflt (refine' enter_news (binds := [(Str.ofString "guess", Value.ref ga), (Str.ofString "b", Value.ref rb), (Str.ofString "n", Value.int ni t2), (Str.ofString "w", Value.int wi t3), (Str.ofString "mul", Value.ref 135)]) ?k1 ?k2 ?k3 ?k4 ?k5 ?kA ?kF ?kK ?k6 ?k7 ?k8 ?k9 ?kB ?_ ?c2 ?c3 ?c4 ?c5; (case kA => exact rfl); (case kF => exact rfl); (case kK => assumption); (case k1 => k_asm); (case k2 => k_asm); (case k3 => k_asm); (case k4 => exact N); (case k5 => k_asm); (case k6 => k_is); (case k7 => k_is); (case k8 => ktr_room); (case k9 => exact BindsTo.of_eq rfl); (case c5 => decide); (case kB => exact locs rfl); (case c2 => exact rfl); (case c3 => exact rfl); (case c4 => exact rfl); k_whole; intro g' L' h' hkeep F' N' B' X' T'; (try dsimp only); (try k_fold))
  (k_with "call ref" => first
    | ((with_reducible show wpAny _ _ (call (Value.ref 74) _) _ _ _); k_dflt (refine' says_row (says_to (rep_dig hW1 hO) (lifted_says hni hn)) ?k1 ?k2 ?k3 ?k4 ?k5 ?kK ?kd ?ku ?kp ?_; (case k1 => k_asm); (case k2 => k_asm); (case k3 => k_asm); (case k4 => k_asm); (case k5 => k_asm); (case kK => first | exact rfl | assumption); (case kd => ktr_room); (case ku => ktr_units); (case kp => ((try dsimp only); (first | exact rowAt_news (by k_asm) (by k_mem) (by l_ints) | exact rowAt_list (by assumption) (by assumption) (by k_asm) | exact rowAt_base (by assumption) (by k_asm)))); intro DOne usOne nOne hOne tkOne FOne IOne NOne; (try k_sweep); (try dsimp only); (try k_fold)))
    | ((with_reducible show wpAny _ _ (call (Value.ref 135) _) _ _ _); k_dflt (refine' says_row (times_says (x := G) (y := B) hwi hW1 hW2 sG sB sGB) ?k1 ?k2 ?k3 ?k4 ?k5 ?kK ?kd ?ku ?kp ?_; (case k1 => k_asm); (case k2 => k_asm); (case k3 => k_asm); (case k4 => k_asm); (case k5 => k_asm); (case kK => first | exact rfl | assumption); (case kd => ktr_room); (case ku => ktr_units); (case kp => ((try dsimp only); exact And.intro (by (first | exact rowAt_news (by k_asm) (by k_mem) (by l_ints) | exact rowAt_list (by assumption) (by assumption) (by k_asm) | exact rowAt_base (by assumption) (by k_asm))) (by (first | exact rowAt_news (by k_asm) (by k_mem) (by l_ints) | exact rowAt_list (by assumption) (by assumption) (by k_asm) | exact rowAt_base (by assumption) (by k_asm))))); intro DTld usTld nTld hTld tkTld FTld ITld NTld; (try k_sweep); (try dsimp only); (try k_fold)))
    | ((fail_if_success (rename Mark2 => hM2)); (first
      | ((with_reducible show wpAny _ _ (call (Value.ref 53) _) _ _ _); k_dflt (refine' says_cmp (cmp_of_int (compare_says (x := cS.x * B) (y := O) hW1 (Sm.len (sGB.le (Nat.mul_le_mul_right B pS)) hW1) (sO.len hW1))) ?k1 ?k2 ?k3 ?k4 ?k5 ?kK ?kd ?ku ?kp ?_; (case k1 => k_asm); (case k2 => k_asm); (case k3 => k_asm); (case k4 => k_asm); (case k5 => k_asm); (case kK => first | exact rfl | assumption); (case kd => ktr_room); (case ku => ktr_units); (case kp => ((try dsimp only); exact And.intro (by (first | exact rowAt_news (by k_asm) (by k_mem) (by l_ints) | exact rowAt_list (by assumption) (by assumption) (by k_asm) | exact rowAt_base (by assumption) (by k_asm))) (by (first | exact rowAt_news (by k_asm) (by k_mem) (by l_ints) | exact rowAt_list (by assumption) (by assumption) (by k_asm) | exact rowAt_base (by assumption) (by k_asm))))); intro k9 t9 h9 tk9 C9 c9 F9 N9; (try k_sweep); (try dsimp only); (try k_fold)))
      | ((with_reducible show wpAny _ _ (call (Value.ref 67) _) _ _ _); k_dflt (refine' says_row (sub_says (x := cS.x) (y := 1) hwi hW1 hW2 (Sm.len (sG.le pS) hW1) (one_len hW1) (corr_pos (x := cS.x) (B := B) (O := O) (by omega))) ?k1 ?k2 ?k3 ?k4 ?k5 ?kK ?kd ?ku ?kp ?_; (case k1 => k_asm); (case k2 => k_asm); (case k3 => k_asm); (case k4 => k_asm); (case k5 => k_asm); (case kK => first | exact rfl | assumption); (case kd => ktr_room); (case ku => ktr_units); (case kp => ((try dsimp only); exact And.intro (by (first | exact rowAt_news (by k_asm) (by k_mem) (by l_ints) | exact rowAt_list (by assumption) (by assumption) (by k_asm) | exact rowAt_base (by assumption) (by k_asm))) (RowAt.to (dig_one hW1).symm (by (first | exact rowAt_news (by k_asm) (by k_mem) (by l_ints) | exact rowAt_list (by assumption) (by assumption) (by k_asm) | exact rowAt_base (by assumption) (by k_asm)))))); intro DGs usGs nGs hGs tkGs FGs IGs NGs; (try k_sweep); (try dsimp only); (try k_fold)))
      | ((with_reducible show wpAny _ _ (call (Value.ref 67) _) _ _ _); k_dflt (refine' says_row (sub_says (x := cS.x * B) (y := B) hwi hW1 hW2 (Sm.len (sGB.le (Nat.mul_le_mul_right B pS)) hW1) (sB.len hW1) (corr_ge (x := cS.x) (B := B) (O := O) (by omega))) ?k1 ?k2 ?k3 ?k4 ?k5 ?kK ?kd ?ku ?kp ?_; (case k1 => k_asm); (case k2 => k_asm); (case k3 => k_asm); (case k4 => k_asm); (case k5 => k_asm); (case kK => first | exact rfl | assumption); (case kd => ktr_room); (case ku => ktr_units); (case kp => ((try dsimp only); exact And.intro (by (first | exact rowAt_news (by k_asm) (by k_mem) (by l_ints) | exact rowAt_list (by assumption) (by assumption) (by k_asm) | exact rowAt_base (by assumption) (by k_asm))) (by (first | exact rowAt_news (by k_asm) (by k_mem) (by l_ints) | exact rowAt_list (by assumption) (by assumption) (by k_asm) | exact rowAt_base (by assumption) (by k_asm))))); intro DUt usUt nUt hUt tkUt FUt IUt NUt; (try k_sweep); (try dsimp only); (try k_fold)))
      | ((with_reducible show wpAny _ _ (call (Value.ref 67) _) _ _ _); k_dflt (refine' says_row (sub_says (x := O) (y := cS.x * B) hwi hW1 hW2 (sO.len hW1) (Sm.len (sGB.le (Nat.mul_le_mul_right B pS)) hW1) (by omega)) ?k1 ?k2 ?k3 ?k4 ?k5 ?kK ?kd ?ku ?kp ?_; (case k1 => k_asm); (case k2 => k_asm); (case k3 => k_asm); (case k4 => k_asm); (case k5 => k_asm); (case kK => first | exact rfl | assumption); (case kd => ktr_room); (case ku => ktr_units); (case kp => ((try dsimp only); exact And.intro (by (first | exact rowAt_news (by k_asm) (by k_mem) (by l_ints) | exact rowAt_list (by assumption) (by assumption) (by k_asm) | exact rowAt_base (by assumption) (by k_asm))) (by (first | exact rowAt_news (by k_asm) (by k_mem) (by l_ints) | exact rowAt_list (by assumption) (by assumption) (by k_asm) | exact rowAt_base (by assumption) (by k_asm))))); intro DRst usRst nRst hRst tkRst FRst IRst NRst; (try k_sweep); (try dsimp only); (try k_fold)))))
    | ((with_reducible show wpAny _ _ (call (Value.ref 53) _) _ _ _); k_dflt (refine' says_cmp (cmp_of_int (compare_says (x := O - cS.x * B) (y := B) hW1 (sO.sub.len hW1) (sB.len hW1))) ?k1 ?k2 ?k3 ?k4 ?k5 ?kK ?kd ?ku ?kp ?_; (case k1 => k_asm); (case k2 => k_asm); (case k3 => k_asm); (case k4 => k_asm); (case k5 => k_asm); (case kK => first | exact rfl | assumption); (case kd => ktr_room); (case ku => ktr_units); (case kp => ((try dsimp only); exact And.intro (by (first | exact rowAt_news (by k_asm) (by k_mem) (by l_ints) | exact rowAt_list (by assumption) (by assumption) (by k_asm) | exact rowAt_base (by assumption) (by k_asm))) (by (first | exact rowAt_news (by k_asm) (by k_mem) (by l_ints) | exact rowAt_list (by assumption) (by assumption) (by k_asm) | exact rowAt_base (by assumption) (by k_asm))))); intro k9 t9 h9 tk9 C9 c9 F9 N9; (try k_sweep); (try dsimp only); (try k_fold)))
    | ((with_reducible show wpAny _ _ (call (Value.ref 60) _) _ _ _); k_dflt (refine' says_row (add_says (x := cS.x) (y := 1) hwi hW1 hW2 (Sm.len8 (sO.le (corr_le hB pS)) hW1) (one_len8 hW1)) ?k1 ?k2 ?k3 ?k4 ?k5 ?kK ?kd ?ku ?kp ?_; (case k1 => k_asm); (case k2 => k_asm); (case k3 => k_asm); (case k4 => k_asm); (case k5 => k_asm); (case kK => first | exact rfl | assumption); (case kd => ktr_room); (case ku => ktr_units); (case kp => ((try dsimp only); exact And.intro (by (first | exact rowAt_news (by k_asm) (by k_mem) (by l_ints) | exact rowAt_list (by assumption) (by assumption) (by k_asm) | exact rowAt_base (by assumption) (by k_asm))) (RowAt.to (dig_one hW1).symm (by (first | exact rowAt_news (by k_asm) (by k_mem) (by l_ints) | exact rowAt_list (by assumption) (by assumption) (by k_asm) | exact rowAt_base (by assumption) (by k_asm)))))); intro DGs usGs nGs hGs tkGs FGs IGs NGs; (try k_sweep); (try dsimp only); (try k_fold)))
    | ((with_reducible show wpAny _ _ (call (Value.ref 67) _) _ _ _); k_dflt (refine' says_row (sub_says (x := O - cS.x * B) (y := B) hwi hW1 hW2 (sO.sub.len hW1) (sB.len hW1) (by omega)) ?k1 ?k2 ?k3 ?k4 ?k5 ?kK ?kd ?ku ?kp ?_; (case k1 => k_asm); (case k2 => k_asm); (case k3 => k_asm); (case k4 => k_asm); (case k5 => k_asm); (case kK => first | exact rfl | assumption); (case kd => ktr_room); (case ku => ktr_units); (case kp => ((try dsimp only); exact And.intro (by (first | exact rowAt_news (by k_asm) (by k_mem) (by l_ints) | exact rowAt_list (by assumption) (by assumption) (by k_asm) | exact rowAt_base (by assumption) (by k_asm))) (by (first | exact rowAt_news (by k_asm) (by k_mem) (by l_ints) | exact rowAt_list (by assumption) (by assumption) (by k_asm) | exact rowAt_base (by assumption) (by k_asm))))); intro DUt usUt nUt hUt tkUt FUt IUt NUt; (try k_sweep); (try dsimp only); (try k_fold))))
  (k_with "exec While Compare cons nil" => first
    | ((fail_if_success (rename Mark1 => hM)); (have hM1 : Mark1 := True.intro); (rename Fr _ _ _ _ => lF'); (rename News _ _ _ _ => lN'); (with_unfolding_all refine' ksw_while (σ := CS) (fun c => [(c.g, listOf c.v1.toArray c.n1), (c.t, listOf c.v2.toArray c.n2), (ga, listOf us.toArray nn), (rb, listOf ub.toArray nb), (DOne, listOf usOne.toArray nOne)]) (fun c => [(Str.ofString "guess", Value.ref c.g), (Str.ofString "told", Value.ref c.t)]) (fun c => IntsAre c.v1 (dig W c.x) ∧ IntsAre c.v2 (dig W (c.x * B))) [] (fun c => c.x ≤ G) (fun c => c.x) ⟨ga, DTld, us, usTld, nn, nTld, G⟩ lF' ?kn ⟨hI, ITld⟩ ?kk (Nat.le_refl _) ?_); (case kn => exact news_sub lN' (by (with_unfolding_all k_allIn))); (case kk => kst_all); (clear lF' lN'); (intro cS uS hS tkS fS pS FS NS); (obtain ⟨f1, f2⟩ := fS); (try dsimp only at FS NS); (try k_fold))
    | ((have hM2 : Mark2 := True.intro); (rename Fr _ _ _ _ => lF'); (rename News _ _ _ _ => lN'); (with_unfolding_all refine' ksw_while (σ := CS) (fun c => [(c.g, listOf c.v1.toArray c.n1), (c.t, listOf c.v2.toArray c.n2), (ga, listOf us.toArray nn), (rb, listOf ub.toArray nb)]) (fun c => [(Str.ofString "guess", Value.ref c.g), (Str.ofString "rest", Value.ref c.t)]) (fun c => IntsAre c.v1 (dig W c.x) ∧ IntsAre c.v2 (dig W (O - c.x * B))) [] (fun c => c.x * B ≤ O) (fun c => O - c.x * B) ⟨cS.g, DRst, cS.v1, usRst, cS.n1, nRst, cS.x⟩ lF' ?kn ⟨f1, IRst⟩ ?kk (by first | omega | (dsimp only; omega)) ?_); (case kn => exact news_sub lN' (by (with_unfolding_all k_allIn))); (case kk => kst_all); (clear lF' lN'); (clear f1 f2 pS); (intro cS uS hS tkS fS pS FS NS); (obtain ⟨f1, f2⟩ := fS); (try dsimp only at FS NS); (try k_fold)))
  (k_with "KswEnd" => first
    | exact ksw_end (σ := CS) ⟨DGs, DUt, usGs, usUt, nGs, nUt, cS.x - 1⟩ (by k_asm) (by k_asm) (by (with_unfolding_all k_allIn)) ⟨IGs, corr_i1 IUt⟩ (by kst_all) (fun z h2 _ => by (have a1 := h2 _ (.head _)); (have a2 := h2 _ (.tail _ (.head _))); (dsimp only at a1 a2); (simp [kstB, a1, a2])) (Nat.le_trans (Nat.sub_le _ _) pS) (corr_l1 (corr_pos (x := cS.x) (B := B) (O := O) (by omega)))
    | exact ksw_end (σ := CS) ⟨DGs, DUt, usGs, usUt, nGs, nUt, cS.x + 1⟩ (by k_asm) (by k_asm) (by (with_unfolding_all k_allIn)) ⟨IGs, corr_i2 IUt⟩ (by kst_all) (fun z h2 _ => by (have a1 := h2 _ (.head _)); (have a2 := h2 _ (.tail _ (.head _))); (dsimp only at a1 a2); (simp [kstB, a1, a2])) (corr_p2 pS (by omega)) (corr_l2 hB pS (by omega)))
  repeat' (first | (k_unfold; (try dsimp only)) | (k_end; wrow_close) | walk1 | (dsimp only; walk1))
  · have kF9 := ‹Fr g' L' _ _›
    have hK := kept_news hkeep kF9
    have hq := corr_q (x := cS.x) (B := B) (O := O) hB pS (by omega)
    refine hret _ cS.v1 cS.n1 _ _ (by k_asm) (by rw [← hq]; exact f1) (news_cons (news_back2 NN hm hmb hK (News.get (by assumption) (by k_mem)) (News.get (by assumption) (by k_mem))) (news_one (by assumption) (by k_mem)))
end Mine
end NzCorr
section NzL
open PySem PySem.W PyProof.Rows
namespace Mine
theorem dig_len_le {W k z : Nat} (hW : 1 ≤ W) (h : z < 2 ^ (W * k)) : (dig W z).length ≤ k := by
  by_cases hn : dig W z = []
  · rw [hn]; exact Nat.zero_le _
  · have h1 := top_ge (dig_in hW z) (dig_top hW z) hn
    rw [val_dig hW, ← natPow_cast] at h1
    have h2 : 2 ^ (W * ((dig W z).length - 1)) < 2 ^ (W * k) := by omega
    have h3 : W * ((dig W z).length - 1) < W * k := (Nat.pow_lt_pow_iff_right (by decide)).mp h2
    have h4 : (dig W z).length - 1 < k := Nat.lt_of_mul_lt_mul_left h3
    have h5 := List.length_pos_iff.mpr hn
    omega
theorem dig_lt {W z : Nat} (hW : 1 ≤ W) : z < 2 ^ (W * (dig W z).length) := by
  have h1 := val_lt (dig_in hW z)
  rw [val_dig hW, ← natPow_cast] at h1
  omega
/-- what the law draws: the limbs' width, the divisor, the places, one, what is right -/
structure LawFacts (W V n O q : Nat) : Prop where
  hW1 : 1 ≤ W
  hW2 : W ≤ 16
  hn : n ≤ 200
  hO : O = 2 ^ (W * n)
  hV : 1 ≤ V
  hVO : V ≤ O
  hO63 : O ≤ 2 ^ 63
  hq : O / V = q
theorem LawFacts.q1 {W V n O q : Nat} (L : LawFacts W V n O q) : 1 ≤ q := by
  rw [← L.hq]
  exact (Nat.one_le_div_iff L.hV).mpr L.hVO
theorem LawFacts.qV {W V n O q : Nat} (L : LawFacts W V n O q) : q * V ≤ O := by
  rw [← L.hq]
  exact Nat.div_mul_le_self O V
theorem LawFacts.qO {W V n O q : Nat} (L : LawFacts W V n O q) : q ≤ O := Nat.le_trans (Nat.le_mul_of_pos_right q L.hV) L.qV
theorem LawFacts.O1 {W V n O q : Nat} (L : LawFacts W V n O q) : 1 ≤ O := Nat.le_trans L.hV L.hVO
theorem LawFacts.len {W V n O q : Nat} (L : LawFacts W V n O q) : Sm V := Nat.lt_of_le_of_lt (Nat.le_trans L.hVO L.hO63) (by decide)
theorem sm_of_le {z a : Nat} (h : z ≤ a * 2 ^ 63) (ha : a ≤ 16) : Sm z := by
  unfold Sm
  have : a * 2 ^ 63 ≤ 16 * 2 ^ 63 := Nat.mul_le_mul_right _ ha
  have h2 : 16 * 2 ^ 63 < 2 ^ 198 := by decide
  omega
theorem sm_of_le2 {z a O : Nat} (h : z ≤ a * (O * O)) (ha : a ≤ 16) (hO : O ≤ 2 ^ 63) : Sm z := by
  unfold Sm
  have h1 : a * (O * O) ≤ 16 * (2 ^ 63 * 2 ^ 63) := Nat.mul_le_mul ha (Nat.mul_le_mul hO hO)
  have h2 : 16 * (2 ^ 63 * 2 ^ 63) < 2 ^ 198 := by decide
  omega
theorem law_pack {kW kB kM : Int} (h1 : 0 ≤ kW) (h2 : kW < 8) (h3 : 1 ≤ kB) (h4 : kB ≤ 2 ^ ((2 + kW).toNat * 3)) (h5 : 0 ≤ kM) (h6 : kM < 4) :
    ∃ W V n O q : Nat, 2 + kW = (W : Int) ∧ kB = (V : Int) ∧ ((dig (2 + kW).toNat kB.toNat).length : Int) + kM = (n : Int) ∧ ((2 : Int) ^ ((2 + kW) * (((dig (2 + kW).toNat kB.toNat).length : Int) + kM)).toNat) = (O : Int) ∧
      ((2 : Int) ^ ((2 + kW) * (((dig (2 + kW).toNat kB.toNat).length : Int) + kM)).toNat).fdiv kB = (q : Int) ∧ LawFacts W V n O q := by
  obtain ⟨w, rfl⟩ := Int.eq_ofNat_of_zero_le h1
  obtain ⟨V, rfl⟩ := Int.eq_ofNat_of_zero_le (show 0 ≤ kB by omega)
  obtain ⟨d, rfl⟩ := Int.eq_ofNat_of_zero_le h5
  have e1 : (2 + (w : Int)).toNat = 2 + w := by omega
  have e0 : (2 + (w : Int)) = ((2 + w : Nat) : Int) := by omega
  rw [e1] at h4
  rw [e1, Int.toNat_natCast]
  have hW : 1 ≤ 2 + w := by omega
  have hV4 : V < 2 ^ ((2 + w) * 4) := by
    rw [← natPow_cast] at h4
    have h7 : V ≤ 2 ^ ((2 + w) * 3) := by omega
    have h8 : 2 ^ ((2 + w) * 3) < 2 ^ ((2 + w) * 4) := Nat.pow_lt_pow_right (by decide) (by omega)
    omega
  have hl := dig_len_le hW hV4
  have hlt := dig_lt (z := V) hW
  generalize hL : (dig (2 + w) V).length = l at *
  have e2 : ((l : Int) + (d : Int)) = ((l + d : Nat) : Int) := by omega
  have e3 : ((2 + (w : Int)) * ((l : Int) + (d : Int))).toNat = (2 + w) * (l + d) := by
    rw [e0, e2, ← Int.natCast_mul, Int.toNat_natCast]
  have e4 : (2 : Int) ^ ((2 + w) * (l + d)) = ((2 ^ ((2 + w) * (l + d)) : Nat) : Int) := (natPow_cast _).symm
  refine ⟨2 + w, V, l + d, 2 ^ ((2 + w) * (l + d)), 2 ^ ((2 + w) * (l + d)) / V, e0, rfl, e2, by rw [e3, e4], ?_, ?_⟩
  · rw [e3, e4, Int.fdiv_eq_ediv_of_nonneg _ (Int.natCast_nonneg _)]; rfl
  · refine ⟨hW, by omega, by omega, rfl, by omega, ?_, ?_, rfl⟩
    · have h9 : 2 ^ ((2 + w) * l) ≤ 2 ^ ((2 + w) * (l + d)) := Nat.pow_le_pow_right (by decide) (Nat.mul_le_mul_left _ (by omega))
      omega
    · have h9 : (2 + w) * (l + d) ≤ 9 * 7 := Nat.mul_le_mul (by omega) (by omega)
      exact Nat.pow_le_pow_right (by decide) h9
theorem LawFacts.GV {W V n O q G : Nat} (L : LawFacts W V n O q) (hG : G ≤ 2 * q) : G * V ≤ 2 * O := by
  have h1 := Nat.mul_le_mul_right V hG
  rw [Nat.mul_assoc] at h1
  have h2 := Nat.mul_le_mul_left 2 L.qV
  omega
theorem LawFacts.s1 {W V n O q G : Nat} (L : LawFacts W V n O q) (hG : G ≤ 2 * q) : G * (G * V - O) ≤ G * O := Nat.mul_le_mul_left G (by have := L.GV hG; omega)
theorem LawFacts.s2 {W V n O q G : Nat} : G * (O - G * V) ≤ G * O := Nat.mul_le_mul_left G (Nat.sub_le _ _)
theorem LawFacts.GO {W V n O q G : Nat} (L : LawFacts W V n O q) (hG : G ≤ 2 * q) : G * O ≤ 2 * (O * O) := by
  have h1 : G ≤ 2 * O := Nat.le_trans hG (Nat.mul_le_mul_left 2 L.qO)
  have h2 := Nat.mul_le_mul_right O h1
  rw [Nat.mul_assoc] at h2
  exact h2
theorem LawFacts.hge {W V n O q G : Nat} (L : LawFacts W V n O q) (hG : G ≤ 2 * q) : G * (G * V - O) / O ≤ G := by
  refine Nat.div_le_of_le_mul ?_
  rw [Nat.mul_comm O G]
  exact L.s1 hG
theorem LawFacts.hle {W V n O q G : Nat} (L : LawFacts W V n O q) : G * (O - G * V) / O ≤ G := by
  refine Nat.div_le_of_le_mul ?_
  rw [Nat.mul_comm O G]
  exact LawFacts.s2 (W := W) (n := n) (q := q)
theorem smI_sub {O z : Nat} (hO : O ≤ 2 ^ 63) (hz : z ≤ 4 * O) : SmI ((O : Int) - (z : Int)) := by
  unfold SmI
  have h1 : (2 : Nat) ^ 198 = 2 ^ 135 * 2 ^ 63 := by decide
  have h2 : 16 * 2 ^ 63 ≤ 2 ^ 198 := by decide
  omega
theorem newt_le {W V n O q G R : Nat} (L : LawFacts W V n O q) (hR : R = if O < G * V then G - G * (G * V - O) / O else G + G * (O - G * V) / O) : R ≤ 2 * G := by
  have h1 := L.hle (G := G)
  rw [hR]
  split
  · exact Nat.le_trans (Nat.sub_le _ _) (Nat.le_mul_of_pos_left G (by decide))
  · rw [Nat.two_mul]
    exact Nat.add_le_add_left h1 G
theorem law_g1 (q : Nat) : (q : Int) + 1 + (q : Int).fdiv 3 = ((q + 1 + q / 3 : Nat) : Int) := by
  rw [Int.fdiv_eq_ediv_of_nonneg _ (by decide)]; omega
theorem law_g2 (q : Nat) : (q : Int) - (q : Int).fdiv 3 = ((q - q / 3 : Nat) : Int) := by
  rw [Int.fdiv_eq_ediv_of_nonneg _ (by decide)]; omega
theorem LawFacts.log {W V n O q : Nat} (L : LawFacts W V n O q) : ((2 : Int) * (q : Int) + 1).natAbs.log2 < 9000 := by
  have h1 := L.qO
  have h2 := L.hO63
  have e : ((2 : Int) * (q : Int) + 1).natAbs = 2 * q + 1 := by omega
  rw [e]
  have h3 : 2 * q + 1 < 2 ^ 65 := by omega
  have h4 : (2 * q + 1).log2 < 65 := (Nat.log2_lt (by omega)).mpr h3
  omega
theorem law_len {kW kB : Int} (h1 : 0 ≤ kW) (h3 : 1 ≤ kB) (h4 : kB ≤ 2 ^ ((2 + kW).toNat * 3)) : (dig (2 + kW).toNat kB.toNat).length ≤ 4 := by
  refine dig_len_le (by omega) ?_
  rw [← natPow_cast] at h4
  have h8 : 2 ^ ((2 + kW).toNat * 3) < 2 ^ ((2 + kW).toNat * 4) := Nat.pow_lt_pow_right (by decide) (by omega)
  omega
theorem law_log {kW kB : Int} (h1 : 0 ≤ kW) (h2 : kW < 8) (h3 : 1 ≤ kB) (h4 : kB ≤ 2 ^ ((2 + kW).toNat * 3)) : kB.natAbs.log2 < 9000 := by
  have h5 : (2 + kW).toNat * 3 ≤ 27 := by omega
  have h6 := pow_le_pow' h5
  have h7 : kB.natAbs < 2 ^ 28 := by
    have : (2 : Int) ^ 27 = 134217728 := by decide
    omega
  have h8 : kB.natAbs.log2 < 28 := (Nat.log2_lt (by omega)).mpr h7
  omega
end Mine
end NzL
section NzLaw0
open PySem PySem.W PyProof.Rows PySem.Calls
namespace Mine
theorem draws_one {w : World} {p : Program} {loose : List Str} {mean : ExcName → Option Value} {mg mb : Str → Option Value}
  {f : Addr} {d : Nat} {vs : List Value} {Post : Int → Prop} {box : Addr} {us : List Value} {n : Nat} {ns : List Int}
  {dp un : Nat} {gd : Option (List Code)} {cn : Str} {cs : Scope} {a : Addr} {ccd : Value} {cl : List (Str × Addr)} {outer : List Env} {A₀ : Around} {base h₀ : Heap} {L : Addr} {m : Str → Option Value} {news : List (Addr × Obj)} {s : Shared} {Q E : Value → Shared → Prop}
    (C : Draws w p loose mean mg mb f d box vs Post) (B : Below A₀ base outer h₀) (F : Fr h₀ L s.heap m) (X : (hd.heap_39 w.params).In h₀) (N : News h₀ L s.heap news) (T : Top p loose mean mg mb h₀) (hk : cs.kind = .function)
    (hd : dp + d < recursionLimit) (hu : un + 100 * d < cLine) (hm : (box, listOf us.toArray n) ∈ news) (hi : IntsAre us ns) (h2 : ns.length = 2) (h0 : 0 ≤ ns.getD 0 0) (h1 : 0 ≤ ns.getD 1 0)
    (ret : ∀ k t us' n' ns' h' tk', Post k → Fr h₀ L h' m → News h₀ L h' [(box, listOf us'.toArray n')] → IntsAre us' ns' → ns'.length = 2 → 0 ≤ ns'.getD 0 0 → 0 ≤ ns'.getD 1 0 → Q (.int k t) { s with heap := h', toks := tk' }) :
    wpAny (model PySem.Challenge.rw_nz0077_01.row.prog w) (ktrTop dp un gd cn cs L a ccd cl outer) (call (.ref f) vs) Q E s :=
  C _ _ _ _ _ _ _ _ _ _ _ _ _ _ _ _ _ us n ns B F X (news_one N hm) T hk hd hu hi h2 h0 h1 fun k t us' n' ns' h' tk' hP F' N' _ hi' h2' h0' h1' => ret k t us' n' ns' h' tk' hP F' N' hi' h2' h0' h1'
theorem law_len63 {l : List Int} (h : ¬ ((63 : Nat) : Int) < (l.length : Int)) : l.length ≤ 63 := by omega
theorem step_law {w : World} {p : Program} {loose : List Str} {mean : ExcName → Option Value} {mg mb : Str → Option Value} {W V n O q G : Nat} {bi ni gi wi : Int} {t1 t2 t3 t4 : Tok} (L : LawFacts W V n O q)
    (hwi : wi = (W : Int)) (hbi : bi = (V : Int)) (hni : ni = (n : Int)) (hone : (2 : Int) ^ (wi * ni).toNat = (O : Int)) (hgi : gi = (G : Int)) (hG : G ≤ 2 * q) :
    Says w p loose mean mg mb 156 4 [.int bi t1, .int ni t2, .int gi t3, .int wi t4] (fun _ => True) (GivesBool true) := by
  have hR9 : ∃ R, R = if O < G * V then G - G * (G * V - O) / O else G + G * (O - G * V) / O := ⟨_, rfl⟩
  obtain ⟨R, hR⟩ := hR9
  have hGq : G ≤ 2 * O := Nat.le_trans hG (Nat.mul_le_mul_left 2 L.qO)
  have hRG := newt_le L hR
  have hP := L.hO63
  have sG : Sm G := sm_of_le (a := 2) (by omega) (by decide)
  have sO : Sm O := sm_of_le (a := 1) (by omega) (by decide)
  have hGV := L.GV hG
  have hRV : R * V ≤ 4 * O := by
    have h1 := Nat.mul_le_mul_right V hRG
    rw [Nat.mul_assoc] at h1
    omega
  refine step_says (G := G) (V := V) (n := n) (W := W) (O := O) (R := R) L.hO hbi hni L.hn hgi hwi L.hW1 L.hW2 sG L.len sO (sm_of_le (a := 2) (by omega) (by decide))
    (sm_of_le2 (a := 2) (Nat.le_trans (L.s1 hG) (L.GO hG)) (by decide) hP) (sm_of_le2 (a := 2) (Nat.le_trans (LawFacts.s2 (W := W) (n := n) (q := q)) (L.GO hG)) (by decide) hP) (L.hge hG) hR (sm_of_le (a := 4) (by omega) (by decide)) hone ?_ ?_ (step_end L.O1 L.hV (L.hge hG) hR)
  · rw [hbi, hgi, ← Int.natCast_mul, Nat.mul_comm]
    exact smI_sub hP (by omega)
  · rw [hbi, ← Int.natCast_mul, Nat.mul_comm]
    exact smI_sub hP hRV
theorem corr_sizes {W V n O q G : Nat} (L : LawFacts W V n O q) (hG : G ≤ q + 5) : Sm G ∧ Sm O ∧ Sm (G * V) := by
  have hP := L.hO63
  have hq := L.qO
  have h1 := Nat.mul_le_mul_right V hG
  rw [Nat.add_mul] at h1
  have h2 := L.qV
  have h3 := L.hVO
  have h4 := L.O1
  exact ⟨sm_of_le (a := 6) (by omega) (by decide), sm_of_le (a := 1) (by omega) (by decide), sm_of_le (a := 6) (by omega) (by decide)⟩
theorem corr_law {w : World} {p : Program} {loose : List Str} {mean : ExcName → Option Value} {mg mb : Str → Option Value} {W V n O q G : Nat} {ni wi : Int} {ga rb : Addr} {t2 t3 : Tok} (L : LawFacts W V n O q)
    (hwi : wi = (W : Int)) (hni : ni = (n : Int)) (hG : G ≤ q + 5)
    {dp un : Nat} {gd : Option (List Code)} {cn : Str} {cs : Scope} {a : Addr} {ccd : Value} {cl : List (Str × Addr)} {outer : List Env} {A₀ : Around} {base h₀ : Heap} {L' : Addr} {m : Str → Option Value} {news : List (Addr × Obj)} {s : Shared} {Q E : Value → Shared → Prop} {us ub : List Value} {nn nb : Nat}
    (BB : Below A₀ base outer h₀) (F : Fr h₀ L' s.heap m) (X : (hd.heap_39 w.params).In h₀) (NN : News h₀ L' s.heap news) (T : Top p loose mean mg mb h₀) (hk : cs.kind = .function) (hd : dp + 3 < recursionLimit) (hu : un + 100 * 3 < cLine)
    (hm : (ga, listOf us.toArray nn) ∈ news) (hI : IntsAre us (dig W G)) (hmb : (rb, listOf ub.toArray nb) ∈ news) (hIb : IntsAre ub (dig W V))
    (hret : ∀ D us' n' h' tk', Fr h₀ L' h' m → IntsAre us' (dig W q) → News h₀ L' h' ((D, listOf us'.toArray n') :: news) → Q (.ref D) { s with heap := h', toks := tk' }) :
    wpAny (model PySem.Challenge.rw_nz0077_01.row.prog w) (ktrTop dp un gd cn cs L' a ccd cl outer) (call (.ref 88) [.ref ga, .ref rb, .int ni t2, .int wi t3, .ref 135]) Q E s := by
  obtain ⟨sG, sO, sGV⟩ := corr_sizes L hG
  refine corrected_says (G := G) (B := V) (n := n) (W := W) (O := O) L.hO hni L.hn hwi L.hW1 L.hW2 L.hV sG L.len sO sGV _ _ _ _ _ _ _ _ _ _ _ _ _ _ _ _ _ _ us ub nn nb BB F X NN T hk hd hu hm hI hmb hIb ?_
  intro D us' n' h' tk' F' I' N'
  rw [L.hq] at I'
  exact hret D us' n' h' tk' F' I' N'
end Mine
end NzLaw0
section NzLaw
open PySem PySem.W PyProof.Rows PySem.Calls
namespace Mine
set_option maxRecDepth 100000
local macro_rules | `(tactic| kst_facts1) => `(tactic| exact IntsAre.nil)
local macro_rules | `(tactic| walk_at "call ref") => `(tactic| (k_here; k_extra "call ref"))
local macro_rules | `(tactic| walk_at "binaryOp Mult int int") => `(tactic| (k_here; (refine' mul_int ?_ ?kh); (case kh => k_extra "mul")))
local macro_rules | `(tactic| walk_at "binaryOp Pow int int") => `(tactic| (k_here; (with_reducible refine pow_int_small ?kb1 ?kb2 ?kb3 ?_); (case kb1 => first | omega | exact Int.mul_nonneg (by omega) (by omega)); (case kb2 => first | omega | exact mul_small_le (by omega) (by omega) (by omega) (by omega)); (case kb3 => decide)))
local macro_rules | `(tactic| walk_at "binaryOp FloorDiv int int") => `(tactic| (k_here; k_extra "fdiv"))
local macro_rules | `(tactic| walk_at "compareOp NotEq ref ref") => `(tactic| (k_here; (with_reducible show wpAny _ _ (compareOp CmpOp.NotEq (Value.ref _) (Value.ref _)) _ _ _); k_dflt (refine' ne_intsK ?k1 ?k2 ?k3 ?k4 ?k5 ?_; (case k1 => is_list); (case k2 => l_ints); (case k3 => is_list); (case k4 => l_ints); (case k5 => ktr_units); k_whole); (try simp only [eq_self, decide_true, Bool.not_true])))
set_option maxHeartbeats 8000000 in
theorem law_holds : PySem.Challenge.rw_nz0077_01.Holds := by
  k_with_none
  w_top off
  refine hd ?_
  (k_with "mul" => exact mul_small_ok (by omega) (by omega))
  (k_with "fdiv" => ((fail_if_success (rename LawFacts _ _ _ _ _ => LF)); (with_reducible refine floordiv_int ?kbe ?_ (Or.inl (PyProof.noPylong_of_log2 ?kbp))); (case kbe => omega); (case kbp => exact law_log pW qW pB qB); (obtain ⟨W, V, n, O, q, e1, e2, e3, e4, e5, LF⟩ := law_pack pW qW pB qB pM qM); rw [e5]))
  (k_with "call ref" => first
    | ((with_reducible show wpAny _ _ (call (Value.ref 109) _) _ _ _); k_dflt (refine' says_nat (total_says (law_len63 (by assumption))) ?k1 ?k2 ?k3 ?k4 ?k5 ?kK ?kd ?ku ?kp ?_; (case k1 => k_asm); (case k2 => k_asm); (case k3 => k_asm); (case k4 => k_asm); (case k5 => k_asm); (case kK => first | exact rfl | assumption); (case kd => ktr_room); (case ku => ktr_units); (case kp => ((try dsimp only); (first | exact rowAt_news (by k_asm) (by k_mem) (by l_ints) | exact rowAt_list (by assumption) (by assumption) (by k_asm) | exact rowAt_base (by assumption) (by k_asm)))); intro kT tT hT tkT CT FT NT; (try k_sweep); (try dsimp only); (try k_fold)))
    | ((with_reducible show wpAny _ _ (call (Value.ref 102) _) _ _ _); k_dflt (refine' draws_one (take_says (mi := 8) (by decide) (by decide)) ?k1 ?k2 ?k3 ?k4 ?k5 ?kK ?kd ?ku ?km ?kI ?kl ?ka ?kb ?_; (case k1 => k_asm); (case k2 => k_asm); (case k3 => k_asm); (case k4 => k_asm); (case k5 => k_asm); (case kK => first | exact rfl | assumption); (case kd => ktr_room); (case ku => ktr_units); (case km => k_mem); (case kI => l_ints); (case kl => first | assumption | rfl); (case ka => first | assumption | exact Int.le_refl _); (case kb => first | assumption | exact Int.le_refl _); (intro kW tW usW nW nsW hW tkW PW FW NW IW lW aW bW); (try dsimp only at PW NW); (try obtain ⟨pW, qW⟩ := PW); (try k_sweep); (try dsimp only); (try k_fold)))
    | ((with_reducible show wpAny _ _ (call (Value.ref 149) _) _ _ _); k_dflt (refine' draws_one (drawn_says (W := (2 + kW).toNat) (by omega) (by omega) (by omega)) ?k1 ?k2 ?k3 ?k4 ?k5 ?kK ?kd ?ku ?km ?kI ?kl ?ka ?kb ?_; (case k1 => k_asm); (case k2 => k_asm); (case k3 => k_asm); (case k4 => k_asm); (case k5 => k_asm); (case kK => first | exact rfl | assumption); (case kd => ktr_room); (case ku => ktr_units); (case km => k_mem); (case kI => l_ints); (case kl => first | assumption | rfl); (case ka => first | assumption | exact Int.le_refl _); (case kb => first | assumption | exact Int.le_refl _); (intro kB tB usB nB nsB hB tkB PB FB NB IB lB aB bB); (try dsimp only at PB NB); (try obtain ⟨pB, qB⟩ := PB); (try k_sweep); (try dsimp only); (try k_fold)))
    | ((fail_if_success (rename LawFacts _ _ _ _ _ => LF)); (have lenL := law_len pW pB qB); ((with_reducible show wpAny _ _ (call (Value.ref 116) _) _ _ _); k_dflt (refine' says_row (row_says (x := kB.toNat) (W := (2 + kW).toNat) (by omega) (by omega) (by omega) (by omega) (by omega)) ?k1 ?k2 ?k3 ?k4 ?k5 ?kK ?kd ?ku ?kp ?_; (case k1 => k_asm); (case k2 => k_asm); (case k3 => k_asm); (case k4 => k_asm); (case k5 => k_asm); (case kK => first | exact rfl | assumption); (case kd => ktr_room); (case ku => ktr_units); (case kp => ((try dsimp only); (first | done | trivial))); intro DL usL nL hL tkL FL IL NL; (try k_sweep); (try dsimp only); (try k_fold))))
    | ((with_reducible show wpAny _ _ (call (Value.ref 102) _) _ _ _); k_dflt (refine' draws_one (take_says (mi := 4) (by decide) (by decide)) ?k1 ?k2 ?k3 ?k4 ?k5 ?kK ?kd ?ku ?km ?kI ?kl ?ka ?kb ?_; (case k1 => k_asm); (case k2 => k_asm); (case k3 => k_asm); (case k4 => k_asm); (case k5 => k_asm); (case kK => first | exact rfl | assumption); (case kd => ktr_room); (case ku => ktr_units); (case km => k_mem); (case kI => l_ints); (case kl => first | assumption | rfl); (case ka => first | assumption | exact Int.le_refl _); (case kb => first | assumption | exact Int.le_refl _); (intro kM tM usM nM nsM hM tkM PM FM NM IM lM aM bM); (try dsimp only at PM NM); (try obtain ⟨pM, qM⟩ := PM); (try k_sweep); (try dsimp only); (try k_fold)))
    | ((with_reducible show wpAny _ _ (call (Value.ref 156) _) _ _ _); k_dflt (refine' says_bool (step_law (G := q + 1 + q / 3) LF e1 e2 e3 e4 (law_g1 q) (by have := LF.q1; omega)) ?k1 ?k2 ?k3 ?k4 ?k5 ?kK ?kd ?ku ?kp ?_; (case k1 => k_asm); (case k2 => k_asm); (case k3 => k_asm); (case k4 => k_asm); (case k5 => k_asm); (case kK => first | exact rfl | assumption); (case kd => ktr_room); (case ku => ktr_units); (case kp => ((try dsimp only); (first | done | trivial))); intro h9 tk9 F9 N9; (try k_sweep); (try dsimp only); (try k_fold)))
    | ((with_reducible show wpAny _ _ (call (Value.ref 156) _) _ _ _); k_dflt (refine' says_bool (step_law (G := q - q / 3) LF e1 e2 e3 e4 (law_g2 q) (by omega)) ?k1 ?k2 ?k3 ?k4 ?k5 ?kK ?kd ?ku ?kp ?_; (case k1 => k_asm); (case k2 => k_asm); (case k3 => k_asm); (case k4 => k_asm); (case k5 => k_asm); (case kK => first | exact rfl | assumption); (case kd => ktr_room); (case ku => ktr_units); (case kp => ((try dsimp only); (first | done | trivial))); intro h9 tk9 F9 N9; (try k_sweep); (try dsimp only); (try k_fold)))
    | ((with_reducible show wpAny _ _ (call (Value.ref 102) _) _ _ _); k_dflt (refine' draws_use (take_says (mi := 2 * (q : Int) + 1) (by omega) LF.log) ?k1 ?k2 ?k3 ?k4 ?k5 ?kK ?kd ?ku ?kU ?kI ?kl ?ka ?kb ?_; (case k1 => k_asm); (case k2 => k_asm); (case k3 => k_asm); (case k4 => k_asm); (case k5 => k_asm); (case kK => first | exact rfl | assumption); (case kd => ktr_room); (case ku => ktr_units); (case kU => k_updF); (case kI => l_ints); (case kl => first | assumption | rfl); (case ka => first | assumption | exact Int.le_refl _); (case kb => first | assumption | exact Int.le_refl _); (intro kG tG usG nG nsG hG tkG PG FG NG IG lG aG bG); (try dsimp only at PG NG); (try obtain ⟨pG, qG⟩ := PG); (try k_sweep); (try dsimp only); (try k_fold)))
    | ((with_reducible show wpAny _ _ (call (Value.ref 156) _) _ _ _); k_dflt (refine' says_bool (step_law (G := kG.toNat) LF e1 e2 e3 e4 (by omega) (by omega)) ?k1 ?k2 ?k3 ?k4 ?k5 ?kK ?kd ?ku ?kp ?_; (case k1 => k_asm); (case k2 => k_asm); (case k3 => k_asm); (case k4 => k_asm); (case k5 => k_asm); (case kK => first | exact rfl | assumption); (case kd => ktr_room); (case ku => ktr_units); (case kp => ((try dsimp only); (first | done | trivial))); intro h9 tk9 F9 N9; (try k_sweep); (try dsimp only); (try k_fold)))
    | ((with_reducible show wpAny _ _ (call (Value.ref 102) _) _ _ _); k_dflt (refine' draws_use (take_says (mi := 11) (by decide) (by decide)) ?k1 ?k2 ?k3 ?k4 ?k5 ?kK ?kd ?ku ?kU ?kI ?kl ?ka ?kb ?_; (case k1 => k_asm); (case k2 => k_asm); (case k3 => k_asm); (case k4 => k_asm); (case k5 => k_asm); (case kK => first | exact rfl | assumption); (case kd => ktr_room); (case ku => ktr_units); (case kU => k_updF); (case kI => l_ints); (case kl => first | assumption | rfl); (case ka => first | assumption | exact Int.le_refl _); (case kb => first | assumption | exact Int.le_refl _); (intro kH tH usH nH nsH hH tkH PH FH NH IH lH aH bH); (try dsimp only at PH NH); (try obtain ⟨pH, qH⟩ := PH); (try k_sweep); (try dsimp only); (try k_fold)))
    | ((with_reducible show wpAny _ _ (call (Value.ref 116) _) _ _ _); k_dflt (refine' says_row (row_says (x := V) e2 e1 LF.hW1 LF.hW2 (LF.len.len LF.hW1)) ?k1 ?k2 ?k3 ?k4 ?k5 ?kK ?kd ?ku ?kp ?_; (case k1 => k_asm); (case k2 => k_asm); (case k3 => k_asm); (case k4 => k_asm); (case k5 => k_asm); (case kK => first | exact rfl | assumption); (case kd => ktr_room); (case ku => ktr_units); (case kp => ((try dsimp only); (first | done | trivial))); intro DV usV nV hV tkV FV IV NV; (try k_sweep); (try dsimp only); (try k_fold)))
    | ((with_reducible show wpAny _ _ (call (Value.ref 116) _) _ _ _); k_dflt (refine' says_row (row_says (x := q) rfl e1 LF.hW1 LF.hW2 ((corr_sizes LF (Nat.le_add_right q 5)).1.len LF.hW1)) ?k1 ?k2 ?k3 ?k4 ?k5 ?kK ?kd ?ku ?kp ?_; (case k1 => k_asm); (case k2 => k_asm); (case k3 => k_asm); (case k4 => k_asm); (case k5 => k_asm); (case kK => first | exact rfl | assumption); (case kd => ktr_room); (case ku => ktr_units); (case kp => ((try dsimp only); (first | done | trivial))); intro DQ usQ nQ hQ tkQ FQ IQ NQ; (try k_sweep); (try dsimp only); (try k_fold)))
    | ((with_reducible show wpAny _ _ (call (Value.ref 116) _) _ _ _); k_dflt (refine' says_row (row_says (Int.toNat_of_nonneg (by omega)).symm e1 LF.hW1 LF.hW2 ((corr_sizes LF (by omega)).1.len LF.hW1)) ?k1 ?k2 ?k3 ?k4 ?k5 ?kK ?kd ?ku ?kp ?_; (case k1 => k_asm); (case k2 => k_asm); (case k3 => k_asm); (case k4 => k_asm); (case k5 => k_asm); (case kK => first | exact rfl | assumption); (case kd => ktr_room); (case ku => ktr_units); (case kp => ((try dsimp only); (first | done | trivial))); intro DC usC nC hC tkC FC IC NC; (try k_sweep); (try dsimp only); (try k_fold)))
    | ((with_reducible show wpAny _ _ (call (Value.ref 88) _) _ _ _); k_dflt (refine' corr_law LF e1 e3 ?kg ?k1 ?k2 ?k3 ?k4 ?k5 ?kK ?kd ?ku ?km ?kI ?kn ?kJ ?_; (case k1 => k_asm); (case k2 => k_asm); (case k3 => k_asm); (case k4 => k_asm); (case k5 => k_asm); (case kK => first | exact rfl | assumption); (case kd => ktr_room); (case ku => ktr_units); (case km => k_mem); (case kI => exact IC); (case kn => k_mem); (case kJ => exact IV); (case kg => omega); (intro DR usR nR hR tkR FR IR NR); (try k_sweep); (try dsimp only); (try k_fold))))
  (k_with "exec For Name Call cons nil" => ((rename Fr _ _ _ _ => lF'); (with_unfolding_all refine' For_invVF lF' ?k1 ?k2 ?_; (case k1 => exact rfl); (case k2 => exact rfl); k_whole)))
  (k_with "pyIter ref" => k_state_short (fun pre box => box.length = 2 ∧ 0 ≤ box.getD 0 0 ∧ 0 ≤ box.getD 1 0) "box")
  (k_with "state" => exact And.intro (by assumption) (And.intro (by assumption) (by assumption)))
  w_strict (k_go0; (all_goals try k_fold); k_steps)
end Mine
end NzLaw
theorem PySem.Challenge.cw_nz0077_01_holds : PySem.Challenge.rw_nz0077_01.Holds :=
  Mine.law_holds
