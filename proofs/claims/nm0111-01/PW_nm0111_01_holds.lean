import PyProof.Rows.All
import KE.BitLaws
import KE.KBits
import KE.KCompFold
import KE.KPathRange
import Wide.All
import OpenK.AllK
import Wide.FinOn
import PySem.Challenge.RW_nm0111_01
set_option Elab.async false
/-! part HD1 -/
section
open PySem PySem.W PyProof.Rows
namespace Mine
set_option maxRecDepth 100000 in
set_option maxHeartbeats 8000000 in
open_top hd for PySem.Challenge.rw_nm0111_01
end Mine
end
/-! part B0 -/
section
open PySem PySem.W PyProof.Rows
namespace Mine
section
variable {prog : Program} {w : World} {A : Around} {E : Value → Shared → Prop} {s : Shared} {K : Frag} {L : Addr} {h₀ : Heap} {m mg mb : Str → Option Value} {news : List (Addr × Obj)} {p : Program} {loose : List Str} {mean : ExcName → Option Value}
theorem ground0 {env : Env} {R : Result → Shared → Prop} (F : Fr h₀ L s.heap m) (N : News h₀ L s.heap news) (hf : env.frame = some L) (hke : env.scope.kind = .function) :
    Fr h₀ L (hideAll s.heap (news.map (·.1))) m ∧ h₀.StaysIn (hideAll s.heap (news.map (·.1))) ∧ ∀ v s', LeaveK h₀ L m (hideAll s.heap (news.map (·.1))) R v s' → R (.ok (.ret v)) s' :=
  let ⟨a, _, b, c⟩ := groundX (R := R) (A := { handled := none, depth := 0, frames := some [env], guards := none, units := 0 }) (A₀ := { handled := none, depth := 0, frames := some [], guards := none, units := 0 }) (base := h₀) (outer := [])
    ⟨rfl, fun _ _ e => e, trivial⟩ F N rfl hf hke
  ⟨a, b, c⟩
theorem hide_fr {led : List (Addr × Obj)} {g h₁ : Heap} {mv : Str → Option Value} (N₁ : ∀ q ∈ led, g.get? q.1 = some q.2) (ns : h₁.Ns g.objs.size mv) (up : ∀ b o, g.get? b = some o → h₁.get? b = some o) :
    Fr (hideAll g (led.map (·.1))) g.objs.size h₁ mv ∧ News (hideAll g (led.map (·.1))) g.objs.size h₁ led := by
  have low : ∀ q ∈ led, q.1 < g.objs.size := fun q hq => Heap.lt_size (N₁ q hq)
  refine ⟨⟨ns, fun b o e => up b o (of_hideAll _ e), ?_⟩, fun q hq => ⟨up _ _ (N₁ q hq), Nat.ne_of_lt (low q hq), ?_⟩⟩
  · rw [hideAll_size]; exact Nat.le_refl _
  · exact hideAll_none _ (List.mem_map_of_mem hq)
/-- a plain function entered, a ledger hidden below it -/
theorem enterD {fd : FuncData} {body : List Stmt} {led : List (Addr × Obj)} {R : Result → Shared → Prop} {o : Obj} {f : Addr} {args : Args} {binds : List (Str × Value)}
    (N₁ : ∀ q ∈ led, s.heap.get? q.1 = some q.2) (lim : s.heap.NoLimit) (room : A.depth < recursionLimit) (of : s.heap.get? f = some o) (od : o.data = .func fd) (cr : s.heap.CodeRec fd.code fd.qualname) (ob : fd.body = .stmts body)
    (bt : BindsTo s fd args binds) (nc : ∀ x ∈ fd.scope.names, x.2 ≠ .cell) (al : ∀ y ∈ binds, fd.scope.names.lookup y.1 = some .local) (c1 : fd.scope.isCoroutine = false) (c2 : fd.scope.isGenerator = false) (c3 : fd.scope.kind = .function)
    {V : Value → Shared → Prop} (lv : ∀ v s', V v s' → R (.ok (.ret v)) s')
    (go : ∀ h₁, Fr (hideAll s.heap (led.map (·.1))) s.heap.objs.size h₁ (fun y => binds.reverse.lookup y) → News (hideAll s.heap (led.map (·.1))) s.heap.objs.size h₁ led →
      wpAny (model prog w) (A.deeper (callEnv fd s.heap.objs.size f)) (execs body (callEnv fd s.heap.objs.size f)) (fun fl s' => V (match fl with | .ret v => v | _ => .none) s')
        (fun e s' => wpAny (model prog w) (A.deeper (callEnv fd s.heap.objs.size f)) (leaving (callEnv fd s.heap.objs.size f) e) (fun _ s'' => R (.error e) s'') (fun e' s'' => R (.error e') s'') s') { s with heap := h₁, toks := s.toks + binds.length }) :
    codeAny (model prog w) A (.call (.ref f) args) R s :=
  codeAny_call_def room of od lim cr ob bt nc al (fun h₁ ns up => wpAny_mono (go h₁ (hide_fr N₁ ns up).1 (hide_fr N₁ ns up).2) (fun _ _ x => lv _ _ x) fun _ _ x => x) c1 c2 c3
/-- the same of a function whose names are captured -/
theorem enterC {fd : FuncData} {body : List Stmt} {led : List (Addr × Obj)} {R : Result → Shared → Prop} {o : Obj} {f : Addr} {args : Args} {binds : List (Str × Value)} {env' : Env}
    (he : env' = newEnv fd.scope s.heap.objs.size fd.globals (cellsFrom (s.heap.objs.size + 1) fd.scope.names []) (fd.qualname ++ ".<locals>.") (some f) fd.code none fd.builtins)
    (N₁ : ∀ q ∈ led, s.heap.get? q.1 = some q.2) (lim : s.heap.NoLimit) (room : A.depth < recursionLimit) (of : s.heap.get? f = some o) (od : o.data = .func fd) (cr : s.heap.CodeRec fd.code fd.qualname) (ob : fd.body = .stmts body) (oc : fd.closure = [])
    (bt : BindsTo s fd args binds) (al : (binds.all fun y => fd.scope.names.lookup y.1 == some .local || fd.scope.names.lookup y.1 == some .cell) = true) (nd : ((cellsFrom 0 fd.scope.names []).map (·.1)).Nodup)
    (c1 : fd.scope.isCoroutine = false) (c2 : fd.scope.isGenerator = false) (c3 : fd.scope.kind = .function)
    {V : Value → Shared → Prop} (lv : ∀ v s', V v s' → R (.ok (.ret v)) s')
    (go : ∀ h₁ tk cells, Fr (hideAll s.heap (led.map (·.1))) s.heap.objs.size h₁ (bindL env'.kindOf binds fun _ => none) → News (hideAll s.heap (led.map (·.1))) s.heap.objs.size h₁ (cells ++ led) →
      CellsAre (bindC env'.kindOf binds fun _ => none) (cellsFrom (s.heap.objs.size + 1) fd.scope.names []) cells →
      wpAny (model prog w) (A.deeper env') (execs body env') (fun fl s' => V (match fl with | .ret v => v | _ => .none) s')
        (fun e s' => wpAny (model prog w) (A.deeper env') (leaving env' e) (fun _ s'' => R (.error e) s'') (fun e' s'' => R (.error e') s'') s') { s with heap := h₁, toks := tk }) :
    codeAny (model prog w) A (.call (.ref f) args) R s := by
  refine codeAny_call_function room of od c1 c2 ob cr (bt _ _ _ _ ?_)
  rw [oc]
  refine wpAny_newFunctionEnv_cells c3 (kindsX al _) fun e' hv s' x => ?_
  subst he; subst hv
  obtain ⟨h₁, tk, rfl, _⟩ := x.done
  have up := x.toInCall.keep
  refine ⟨lim.keeps up, codeAny_func ?_⟩
  have apart : ∀ n c, (n, c) ∈ cellsFrom (s.heap.objs.size + 1) fd.scope.names [] → _ := fun n c hm =>
    x.cell n c (lookup_of_mem_nodup (cellsFrom_names fd.scope.names 0 (s.heap.objs.size + 1) [] [] rfl ▸ nd) hm)
  obtain ⟨cells, NC, Y⟩ := Cl.news (h₀ := s.heap) (Nat.le_refl _) fun n c hm => ⟨apart n c hm, x.above n c hm⟩
  obtain ⟨F₁, N₂⟩ := hide_fr N₁ x.toInCall.ns up
  refine wpAny_mono (go h₁ tk cells F₁ (fun q hq => ?_) Y) (fun _ _ z => lv _ _ z) fun _ _ z => z
  rcases List.mem_append.mp hq with hq | hq
  · obtain ⟨a1, a2, a3⟩ := NC q hq
    refine ⟨a1, a2, ?_⟩
    cases z : (hideAll s.heap (led.map (·.1))).get? q.1 with
    | none => rfl
    | some o => exact absurd ((of_hideAll _ z).symm.trans a3) nofun
  · exact N₂ q hq
theorem code_defY {env : Env} {outer : List Env} {R : Result → Shared → Prop} {name qual : Str} {params : Arguments} {body : List Stmt} {scope : Scope} {dV kV doc pm cdv ct oc : Value} {an od : Option Addr} {osl : Array (Option Value)} {f : Addr} {args : Args} {binds : List (Str × Value)}
    (F : Fr h₀ L s.heap m) (X₀ : K.In h₀) (N : News h₀ L s.heap news) (T : Top p loose mean mg mb h₀) (_hA : A.frames = some (env :: outer)) (hf : env.frame = some L) (hke : env.scope.kind = .function)
    (ho : K.lookup f = some ⟨oc, od, .func (fnOf name qual params body scope dV kV doc pm an cdv ct), osl⟩) (hcd : codeIn K cdv qual = true) (hroom : A.depth < recursionLimit)
    (hbind : BindsTo s (fnOf name qual params body scope dV kV doc pm an cdv ct) args binds) (hloc : ∀ y ∈ binds, scope.names.lookup y.1 = some .local)
    (h : ∀ g L' h₁, Fr h₀ L g m → Fr g L' h₁ (fun y => binds.reverse.lookup y) → News g L' h₁ news → K.In g → Top p loose mean mg mb g →
      wpAny (model prog w) (A.deeper (envOf qual scope L' f cdv)) (execs body (envOf qual scope L' f cdv))
        (fun fl s' => LeaveK h₀ L m g R (match fl with | .ret v => v | _ => .none) s')
        (fun e s' => wpAny (model prog w) (A.deeper (envOf qual scope L' f cdv)) (leaving (envOf qual scope L' f cdv) e) (fun _ s'' => R (.error e) s'') (fun e' s'' => R (.error e') s'') s')
        { s with heap := h₁, toks := s.toks + binds.length })
    (hco : scope.isCoroutine = false) (hgen : scope.isGenerator = false) (hk : scope.kind = .function)
    (hcell : ∀ x ∈ scope.names, x.2 ≠ .cell) : codeAny (model prog w) A (.call (.ref f) args) R s := by
  obtain ⟨FG, st, lv⟩ := ground0 (R := R) F N hf hke
  have X := X₀.keeps F.keep
  exact enterD (fd := fnOf name qual params body scope dV kV doc pm an cdv ct) (fun q hq => (N q hq).1) (T.nolimit.keeps F.keep) hroom (X _ _ ho) rfl (codeRec_of X hcd) rfl hbind hcell hloc hco hgen hk lv
    fun h₁ F₁ N₁ => h _ _ h₁ FG F₁ N₁ (X₀.keeps st) (T.keeps st)
theorem code_defCY {env : Env} {outer : List Env} {R : Result → Shared → Prop} {name qual : Str} {params : Arguments} {body : List Stmt} {scope : Scope} {dV kV doc pm cdv ct oc : Value} {an od : Option Addr} {osl : Array (Option Value)} {f : Addr} {args : Args} {binds : List (Str × Value)}
    (F : Fr h₀ L s.heap m) (X₀ : K.In h₀) (N : News h₀ L s.heap news) (T : Top p loose mean mg mb h₀) (_hA : A.frames = some (env :: outer)) (hf : env.frame = some L) (hke : env.scope.kind = .function)
    (ho : K.lookup f = some ⟨oc, od, .func (fnOf name qual params body scope dV kV doc pm an cdv ct), osl⟩) (hcd : codeIn K cdv qual = true) (hroom : A.depth < recursionLimit)
    (hbind : BindsTo s (fnOf name qual params body scope dV kV doc pm an cdv ct) args binds) (hkind : (binds.all fun y => scope.names.lookup y.1 == some .local || scope.names.lookup y.1 == some .cell) = true)
    (hnd : ((cellsFrom 0 scope.names []).map (·.1)).Nodup)
    (h : ∀ g L' h₁ tk cells, Fr h₀ L g m → Fr g L' h₁ (bindL (envOfC qual scope L' f cdv).kindOf binds fun _ => none) → News g L' h₁ (cells ++ news) →
      CellsAre (bindC (envOfC qual scope L' f cdv).kindOf binds fun _ => none) (cellsFrom (L' + 1) scope.names []) cells → K.In g → Top p loose mean mg mb g → (∀ q ∈ news, q.1 < L') →
      wpAny (model prog w) (A.deeper (envOfC qual scope L' f cdv)) (execs body (envOfC qual scope L' f cdv))
        (fun fl s' => LeaveK h₀ L m g R (match fl with | .ret v => v | _ => .none) s')
        (fun e s' => wpAny (model prog w) (A.deeper (envOfC qual scope L' f cdv)) (leaving (envOfC qual scope L' f cdv) e) (fun _ s'' => R (.error e) s'') (fun e' s'' => R (.error e') s'') s')
        { s with heap := h₁, toks := tk })
    (hco : scope.isCoroutine = false) (hgen : scope.isGenerator = false) (hk : scope.kind = .function) : codeAny (model prog w) A (.call (.ref f) args) R s := by
  obtain ⟨FG, st, lv⟩ := ground0 (R := R) F N hf hke
  have X := X₀.keeps F.keep
  exact enterC (fd := fnOf name qual params body scope dV kV doc pm an cdv ct) (env' := envOfC qual scope s.heap.objs.size f cdv) rfl (fun q hq => (N q hq).1) (T.nolimit.keeps F.keep) hroom (X _ _ ho) rfl (codeRec_of X hcd) rfl rfl hbind hkind hnd hco hgen hk lv
    fun h₁ tk cells F₁ N₁ Y => h _ _ h₁ tk cells FG F₁ N₁ Y (X₀.keeps st) (T.keeps st) fun q hq => Heap.lt_size (N q hq).1
end

abbrev ClaimG (f : Addr) (n : Nat) (ask : Shared → List (Addr × Obj) → Prop) (vs : List Value) (ret : (h₀ : Heap) → (L : Addr) → (m : Str → Option Value) → (news : List (Addr × Obj)) → (s : Shared) → (Q : Value → Shared → Prop) → Prop) : Prop :=
  ∀ (w : World) (hh : Heap) (mg mb : Str → Option Value) (news : List (Addr × Obj))
   (dp un : Nat) (gd : Option (List Code)) (cn : Str) (cs : Scope) (ca : Addr) (ccd : Value) (cl : List (Str × Addr)) (outer : List Env) (h₀ : Heap) (L : Addr) (m : Str → Option Value) (s : Shared) (Q E : Value → Shared → Prop),
    Fr h₀ L s.heap m → (hd.heap_39 w.params).In h₀ → News h₀ L s.heap news → Top hd.view_39 (looseW hd.view_39 []) (ExcName.means hh) mg mb h₀ → cs.kind = .function →
    ask s news → dp + n < recursionLimit → un + 8 * n < cLine → ret h₀ L m news s Q →
      wpAny (model PySem.Challenge.rw_nm0111_01.row.prog w) (ktrTop dp un gd cn cs L ca ccd cl outer) (call (.ref f) vs) Q E s

theorem ClaimG.use {f : Addr} {n : Nat} {ask : Shared → List (Addr × Obj) → Prop} {vs : List Value} {ret : (h₀ : Heap) → (L : Addr) → (m : Str → Option Value) → (news : List (Addr × Obj)) → (s : Shared) → (Q : Value → Shared → Prop) → Prop}
  (C : ClaimG f n ask vs ret)
  {w : World} {hh : Heap} {mg mb : Str → Option Value} {news : List (Addr × Obj)}
  {dp un : Nat} {gd : Option (List Code)} {cn : Str} {cs : Scope} {ca : Addr} {ccd : Value} {cl : List (Str × Addr)} {outer : List Env} {h₀ : Heap} {L : Addr} {m : Str → Option Value} {s : Shared} {Q E : Value → Shared → Prop}
  (hF : Fr h₀ L s.heap m) (hK : (hd.heap_39 w.params).In h₀) (hN : News h₀ L s.heap news) (hT : Top hd.view_39 (looseW hd.view_39 []) (ExcName.means hh) mg mb h₀) (hcs : cs.kind = .function)
  (ha : ask s news) (hdp : dp + n < recursionLimit) (hun : un + 8 * n < cLine) (hret : ret h₀ L m news s Q) :
      wpAny (model PySem.Challenge.rw_nm0111_01.row.prog w) (ktrTop dp un gd cn cs L ca ccd cl outer) (call (.ref f) vs) Q E s :=
  C w hh mg mb news dp un gd cn cs ca ccd cl outer h₀ L m s Q E hF hK hN hT hcs ha hdp hun hret

abbrev RetI (x : Int) (h₀ : Heap) (L : Addr) (m : Str → Option Value) (news : List (Addr × Obj)) (s : Shared) (Q : Value → Shared → Prop) : Prop :=
  ∀ (t : Tok) (h' : Heap) (tk' : Nat), Fr h₀ L h' m → News h₀ L h' news → Q (.int x t) { s with heap := h', toks := tk' }
abbrev RetB (x : Bool) (h₀ : Heap) (L : Addr) (m : Str → Option Value) (news : List (Addr × Obj)) (s : Shared) (Q : Value → Shared → Prop) : Prop :=
  ∀ (h' : Heap) (tk' : Nat), Fr h₀ L h' m → News h₀ L h' news → Q (.bool x) { s with heap := h', toks := tk' }
/-- an int of which only P is told -/
abbrev RetP (P : Int → Prop) (h₀ : Heap) (L : Addr) (m : Str → Option Value) (news : List (Addr × Obj)) (s : Shared) (Q : Value → Shared → Prop) : Prop :=
  ∀ (x : Int) (t : Tok) (h' : Heap) (tk' : Nat), P x → Fr h₀ L h' m → News h₀ L h' news → Q (.int x t) { s with heap := h', toks := tk' }
/-- a new list of the ints ks -/
abbrev RetL (ks : List Int) (h₀ : Heap) (L : Addr) (m : Str → Option Value) (news : List (Addr × Obj)) (s : Shared) (Q : Value → Shared → Prop) : Prop :=
  ∀ (D : Addr) (vs : List Value) (h' : Heap) (tk' : Nat), Fr h₀ L h' m → News h₀ L h' ((D, LCg.lst vs) :: news) → IntsAre vs ks → Q (.ref D) { s with heap := h', toks := tk' }

abbrev tupObj (rest : List Value) : Obj := { cls := .type "tuple", data := .seq rest.toArray }
abbrev excObj (t : Addr) : Obj := { cls := .ref 44, data := .fields #[.ref t, .none, .none, .none, .bool false, .none] }
abbrev excObjD (t dx : Addr) : Obj := { cls := .ref 44, dict := some dx, data := .fields #[.ref t, .none, .none, .none, .bool false, .none] }
abbrev whyD (hs : Int) (tkw : Tok) (v : Value) : Obj := dictOf [⟨hs, .str (Str.ofString "why") tkw, v⟩] 1
/-- a new Trap that tells x -/
abbrev RetTrap (x : Str) (h₀ : Heap) (L : Addr) (m : Str → Option Value) (news : List (Addr × Obj)) (s : Shared) (Q : Value → Shared → Prop) : Prop :=
  ∀ (e t dx : Addr) (h' : Heap) (tk' : Nat) (hs : Int) (tkw tx : Tok), Fr h₀ L h' m → News h₀ L h' ((dx, whyD hs tkw (.str x tx)) :: (t, tupObj [.str x tx]) :: (e, excObjD t dx) :: news) →
    (∀ p ∈ news, p.1 < e) → e < t → t < dx → Q (.ref e) { s with heap := h', toks := tk' }

section
variable {h₀ h' : Heap} {L : Addr} {m : Str → Option Value} {news : List (Addr × Obj)} {s : Shared} {Q : Value → Shared → Prop} {t : Tok} {tk' : Nat}
theorem RetI.of {x y : Int} (hret : RetI x h₀ L m news s Q) (F : Fr h₀ L h' m) (N : News h₀ L h' news) (e : y = x) : Q (.int y t) { s with heap := h', toks := tk' } := by
  subst e; exact hret t h' tk' F N
theorem RetB.of {x y : Bool} (hret : RetB x h₀ L m news s Q) (F : Fr h₀ L h' m) (N : News h₀ L h' news) (e : y = x) : Q (.bool y) { s with heap := h', toks := tk' } := by
  subst e; exact hret h' tk' F N
theorem RetP.of {P : Int → Prop} {y : Int} (hret : RetP P h₀ L m news s Q) (F : Fr h₀ L h' m) (N : News h₀ L h' news) (e : P y) : Q (.int y t) { s with heap := h', toks := tk' } :=
  hret y t h' tk' e F N
theorem RetL.of {ks ls : List Int} {D : Addr} {vs : List Value} (hret : RetL ks h₀ L m news s Q) (F : Fr h₀ L h' m) (N : News h₀ L h' ((D, LCg.lst vs) :: news)) (hI : IntsAre vs ls) (e : ls = ks) : Q (.ref D) { s with heap := h', toks := tk' } := by
  subst e; exact hret D vs h' tk' F N hI
end
theorem drop2 {h₀ h : Heap} {L : Addr} {a b : Addr × Obj} {news : List (Addr × Obj)} (N : News h₀ L h (a :: b :: news)) : News h₀ L h (a :: news) := fun p hp => N p (by
  rcases List.mem_cons.mp hp with rfl | hp
  · exact .head _
  · exact .tail _ (.tail _ hp))
theorem all_ne {news : List (Addr × Obj)} {L d : Nat} (h : ∀ p ∈ news, p.1 < L) (hd : L ≤ d) : ∀ p ∈ news, p.1 ≠ d := fun p hp e =>
  Nat.lt_irrefl d (Nat.lt_of_lt_of_le (Eq.subst (motive := fun a : Nat => a < L) e (h p hp)) hd)
end Mine
end
/-! part M0 -/
section
namespace Mine
open PySem PySem.W PyProof.Rows
/-- the signed number of a width -/
def sgn (x b : Int) : Int := if 2 ^ (b - 1).toNat ≤ x then x - 2 ^ b.toNat else x
theorem abs_ne {b : Int} (h : b ≠ 0) : (if b < 0 then -b else b) ≠ 0 := by split <;> omega
theorem abs_is (b : Int) : (if b < 0 then -b else b) = (b.natAbs : Int) := by split <;> omega
theorem abs_log {b : Int} (h : b.natAbs < 2 ^ 100) : (if b < 0 then -b else b).natAbs.log2 < 9000 := by
  rw [abs_is, Int.natAbs_natCast]
  by_cases h0 : b.natAbs = 0
  · rw [h0]; decide
  · have h1 := (Nat.log2_lt h0).mpr h
    omega
theorem pw_pos (k : Nat) : (0 : Int) < 2 ^ k := kbt_pos k
theorem uns_is (z b : Int) : Builtin.bitAnd z (1 * 2 ^ b.toNat - 1) = z % 2 ^ b.toNat := by rw [Int.one_mul, kbt_mask]
theorem shr_is (x : Int) (k : Nat) : x.fdiv (2 ^ k) = x / 2 ^ k := Int.fdiv_eq_ediv_of_nonneg _ (Int.le_of_lt (pw_pos k))
theorem sgn_hi {x b : Int} (h0 : 0 ≤ x) (h : x.fdiv (2 ^ (b - 1).toNat) ≠ 0) : x - 1 * 2 ^ b.toNat = sgn x b := by
  rw [shr_is] at h
  have hp := pw_pos (b - 1).toNat
  have h1 : 2 ^ (b - 1).toNat ≤ x := by
    by_cases hx : x < 2 ^ (b - 1).toNat
    · exact absurd (Int.ediv_eq_zero_of_lt h0 hx) h
    · omega
  rw [sgn, if_pos h1, Int.one_mul]
theorem sgn_lo {x b : Int} (h : x.fdiv (2 ^ (b - 1).toNat) = 0) : x = sgn x b := by
  rw [shr_is] at h
  have hp := pw_pos (b - 1).toNat
  have h1 : ¬ 2 ^ (b - 1).toNat ≤ x := by
    have h2 := Int.lt_ediv_add_one_mul_self x hp
    rw [h] at h2
    omega
  rw [sgn, if_neg h1]
theorem toward_pos {a b : Int} (h : (decide (a < 0) == decide (b < 0)) = true) : (if a < 0 then -a else a).fdiv (if b < 0 then -b else b) = Int.tdiv a b := by
  rw [abs_is, abs_is, Int.fdiv_eq_ediv_of_nonneg _ (Int.natCast_nonneg _), ← Int.natCast_ediv]
  rw [beq_iff_eq, decide_eq_decide] at h
  by_cases ha : a < 0
  · have hb := h.mp ha
    obtain ⟨m, rfl⟩ : ∃ m : Nat, a = -(m : Int) := ⟨a.natAbs, by omega⟩
    obtain ⟨n, rfl⟩ : ∃ n : Nat, b = -(n : Int) := ⟨b.natAbs, by omega⟩
    rw [Int.neg_tdiv, Int.tdiv_neg, Int.neg_neg, Int.natAbs_neg, Int.natAbs_neg, Int.natAbs_natCast, Int.natAbs_natCast]
    rfl
  · have hb : ¬ b < 0 := fun q => ha (h.mpr q)
    obtain ⟨m, rfl⟩ : ∃ m : Nat, a = (m : Int) := ⟨a.natAbs, by omega⟩
    obtain ⟨n, rfl⟩ : ∃ n : Nat, b = (n : Int) := ⟨b.natAbs, by omega⟩
    rw [Int.natAbs_natCast, Int.natAbs_natCast]
    rfl
theorem toward_neg {a b : Int} (h : (decide (a < 0) == decide (b < 0)) = false) : -((if a < 0 then -a else a).fdiv (if b < 0 then -b else b)) = Int.tdiv a b := by
  rw [abs_is, abs_is, Int.fdiv_eq_ediv_of_nonneg _ (Int.natCast_nonneg _), ← Int.natCast_ediv]
  have h' : ¬ (a < 0 ↔ b < 0) := by
    rw [← decide_eq_decide, ← beq_iff_eq, h]; decide
  by_cases ha : a < 0
  · have hb : ¬ b < 0 := fun q => h' ⟨fun _ => q, fun _ => ha⟩
    obtain ⟨m, rfl⟩ : ∃ m : Nat, a = -(m : Int) := ⟨a.natAbs, by omega⟩
    obtain ⟨n, rfl⟩ : ∃ n : Nat, b = (n : Int) := ⟨b.natAbs, by omega⟩
    rw [Int.neg_tdiv, Int.natAbs_neg, Int.natAbs_natCast, Int.natAbs_natCast]
    rfl
  · have hb : b < 0 := Classical.byContradiction fun q => h' ⟨fun p => absurd p ha, fun p => absurd p q⟩
    obtain ⟨m, rfl⟩ : ∃ m : Nat, a = (m : Int) := ⟨a.natAbs, by omega⟩
    obtain ⟨n, rfl⟩ : ∃ n : Nat, b = -(n : Int) := ⟨b.natAbs, by omega⟩
    rw [Int.tdiv_neg, Int.natAbs_neg, Int.natAbs_natCast, Int.natAbs_natCast]
    rfl
end Mine
end
/-! part M1 -/
section
namespace Mine
open PySem PySem.W PyProof.Rows
def pws (ks : List Int) : Int := (ks.map fun k => (2:Int) ^ k.toNat).sum
/-- the places of x's ones -/
def plc (x b : Int) : List Int := (rangeKs 0 b.toNat).filter fun k => decide (x / 2 ^ k.toNat % 2 = 1)
theorem filt_is (p : Int → Prop) [DecidablePred p] (ks l : List Int) : ks.foldl (fun l k => if p k then l ++ [k] else l) l = l ++ ks.filter (fun k => decide (p k)) := by
  induction ks generalizing l with
  | nil => simp
  | cons k r ih =>
    rw [List.foldl_cons, ih, List.filter_cons]
    by_cases h : p k
    · simp [h]
    · simp [h]
theorem bit_is (x k : Int) : ((x.fdiv (2 ^ k.toNat)).fmod 2 = 1) = (x / 2 ^ k.toNat % 2 = 1) := by
  rw [shr_is, Int.fmod_eq_emod_of_nonneg _ (by decide)]
theorem plc_is (x b : Int) : (rangeKs 0 (b - 0).toNat).foldl (fun l' k' => if (x.fdiv (2 ^ k'.toNat)).fmod 2 = 1 then l' ++ [k'] else l') [] = plc x b := by
  rw [filt_is (fun k' => (x.fdiv (2 ^ k'.toNat)).fmod 2 = 1), List.nil_append, Int.sub_zero, plc]
  simp only [bit_is]
end Mine
end
/-! part M2 -/
section
namespace Mine
open PySem PySem.W PyProof.Rows
theorem plc_len {vs : List Value} {x b : Int} (_hI : IntsAre vs (plc x b)) (hb : b ≤ 64) : (plc x b).length ≤ 64 := by
  refine Nat.le_trans (List.length_filter_le _ _) ?_
  rw [rangeKs_length]; omega
theorem plc_bnd {vs : List Value} {x b : Int} (_hI : IntsAre vs (plc x b)) (hb : b ≤ 64) : ∀ k ∈ plc x b, 0 ≤ k ∧ k ≤ 63 := by
  intro k hk
  have h := mem_rangeKs (List.mem_filter.mp hk).1
  omega
theorem bnd_up {ks : List Int} (h : ∀ k ∈ ks, 0 ≤ k ∧ k ≤ 63) : ∀ k ∈ ks, 0 ≤ k ∧ k ≤ 64 := fun k hk => by
  have := h k hk
  omega
theorem filt_bnd (p : Int → Prop) {inst : DecidablePred p} {ks : List Int} (h : ∀ k ∈ ks, 0 ≤ k ∧ k ≤ 63) : ∀ k ∈ ks.foldl (fun l k => if p k then l ++ [k] else l) [], 0 ≤ k ∧ k ≤ 64 := by
  rw [filt_is, List.nil_append]
  intro k hk
  have := h k (List.mem_filter.mp hk).1
  omega
theorem filt_len (p : Int → Prop) {inst : DecidablePred p} {ks : List Int} (h : ks.length ≤ 64) : (ks.foldl (fun l k => if p k then l ++ [k] else l) []).length ≤ 64 := by
  rw [filt_is, List.nil_append]
  exact Nat.le_trans (List.length_filter_le _ _) h
theorem fmod_bnd (y : Int) {b : Int} (h : 1 ≤ b) : 0 ≤ y.fmod b ∧ y.fmod b < b := by
  rw [Int.fmod_eq_emod_of_nonneg _ (by omega)]
  exact ⟨Int.emod_nonneg _ (by omega), Int.emod_lt_of_pos _ (by omega)⟩
theorem filtmap_is (p : Int → Prop) (g : Int → Int) {inst : DecidablePred p} (ks l : List Int) : ks.foldl (fun l k => if p k then l ++ [g k] else l) l = l ++ (ks.filter (fun k => decide (p k))).map g := by
  induction ks generalizing l with
  | nil => simp
  | cons k r ih =>
    rw [List.foldl_cons, ih, List.filter_cons]
    by_cases h : p k
    · simp [h]
    · simp [h]
theorem fm_bnd (p : Int → Prop) (g : Int → Int) {inst : DecidablePred p} {ks : List Int} (hb : ∀ k ∈ ks, 0 ≤ k ∧ k ≤ 63) (h : ∀ k, 0 ≤ k → k ≤ 63 → p k → 0 ≤ g k ∧ g k ≤ 64) :
    ∀ k ∈ ks.foldl (fun l k => if p k then l ++ [g k] else l) [], 0 ≤ k ∧ k ≤ 64 := by
  rw [filtmap_is, List.nil_append]
  intro k hk
  obtain ⟨j, hj, rfl⟩ := List.mem_map.mp hk
  have hj' := List.mem_filter.mp hj
  have := hb j hj'.1
  exact h j this.1 this.2 (of_decide_eq_true hj'.2)
theorem fm_len (p : Int → Prop) (g : Int → Int) {inst : DecidablePred p} {ks : List Int} (h : ks.length ≤ 64) : (ks.foldl (fun l k => if p k then l ++ [g k] else l) []).length ≤ 64 := by
  rw [filtmap_is, List.nil_append, List.length_map]
  exact Nat.le_trans (List.length_filter_le _ _) h
theorem mp_bnd (f : Int → Int) {b : Int} (h1 : 1 ≤ b) (h2 : b ≤ 64) (ks : List Int) : ∀ k ∈ ks.map (fun k => (f k).fmod b), 0 ≤ k ∧ k ≤ 64 := by
  intro k hk
  obtain ⟨j, _, rfl⟩ := List.mem_map.mp hk
  have := fmod_bnd (f j) h1
  omega
theorem lt64 {x b : Int} (h2 : b ≤ 64) (h0 : 0 ≤ x) (hx : x < 2 ^ b.toNat) : x.natAbs < 2 ^ 64 := by
  have h : (2 : Int) ^ b.toNat ≤ 2 ^ 64 := by
    have h1 : (2 : Nat) ^ b.toNat ≤ 2 ^ 64 := Nat.pow_le_pow_right (by decide) (by omega)
    rw [← kbt_cast, ← kbt_cast]
    omega
  have h3 : (2 : Int) ^ 64 = 18446744073709551616 := by decide
  have h4 : (2 : Nat) ^ 64 = 18446744073709551616 := by decide
  omega
theorem mp_len (f : Int → Int) {ks : List Int} (h : ks.length ≤ 64) : (ks.map f).length ≤ 64 := by rw [List.length_map]; exact h
end Mine
end
/-! part M3 -/
section
namespace Mine
open PySem PySem.W PyProof.Rows
def bitL (x : Int) (n : Nat) : List Int := (rangeKs 0 n).filter fun k => decide (x / 2 ^ k.toNat % 2 = 1)
theorem plc_bitL (x b : Int) : plc x b = bitL x b.toNat := rfl
theorem rangeKs_succ (a : Int) (n : Nat) : rangeKs a (n + 1) = rangeKs a n ++ [a + (n : Int)] := by
  simp [rangeKs, List.range_succ]
theorem pws_nil : pws [] = 0 := rfl
theorem pws_cons (k : Int) (l : List Int) : pws (k :: l) = 2 ^ k.toNat + pws l := by simp [pws]
theorem pws_append (l r : List Int) : pws (l ++ r) = pws l + pws r := by simp [pws]
theorem bitL_succ (x : Int) (n : Nat) : bitL x (n + 1) = bitL x n ++ (if x / 2 ^ n % 2 = 1 then [(n : Int)] else []) := by
  rw [bitL, rangeKs_succ, List.filter_append, Int.zero_add, ← bitL]
  congr 1
  by_cases h : x / 2 ^ n % 2 = 1
  · simp [h]
  · simp [h]
theorem mod_step (x : Int) (n : Nat) : x % 2 ^ (n + 1) = x % 2 ^ n + (x / 2 ^ n % 2) * 2 ^ n := by
  have hp := pw_pos n
  have h1 := Int.emod_nonneg x (Int.ne_of_gt hp)
  have h2 := Int.emod_lt_of_pos x hp
  have h3 := Int.emod_two_eq (x / 2 ^ n)
  have h4 := Int.emod_def x (2 ^ n)
  have h5 := Int.emod_def (x / 2 ^ n) 2
  have hs : (2 : Int) ^ (n + 1) = 2 * 2 ^ n := by rw [Int.pow_succ, Int.mul_comm]
  refine (kbt_unique (q := x / 2 ^ n / 2) (pw_pos (n + 1)) ?_ ?_ ?_).2
  · rw [hs, h4]
    have e : x / 2 ^ n % 2 * 2 ^ n = x / 2 ^ n * 2 ^ n - 2 * 2 ^ n * (x / 2 ^ n / 2) := by
      rw [h5, Int.sub_mul]
      congr 1
      rw [Int.mul_assoc, Int.mul_assoc, Int.mul_comm (x / 2 ^ n / 2)]
    rw [e, Int.mul_comm (2 ^ n) (x / 2 ^ n)]
    omega
  · rcases h3 with h3 | h3 <;> rw [h3] <;> omega
  · rw [hs]
    rcases h3 with h3 | h3 <;> rw [h3] <;> omega
theorem pws_bitL (x : Int) (n : Nat) : pws (bitL x n) = x % 2 ^ n := by
  induction n with
  | zero => simp [bitL, rangeKs, pws]
  | succ n ih =>
    rw [bitL_succ, pws_append, ih, mod_step]
    rcases Int.emod_two_eq (x / 2 ^ n) with h | h
    · rw [h, if_neg (by decide)]; simp [pws]
    · rw [h, if_pos rfl]; simp [pws]
theorem bitL_lt (x : Int) (n : Nat) : ∀ k ∈ bitL x n, 0 ≤ k ∧ k < (n : Int) := by
  intro k hk
  have h := mem_rangeKs (List.mem_filter.mp hk).1
  omega
theorem bitL_filter (x : Int) {m n : Nat} (h : m ≤ n) : (bitL x n).filter (fun k => decide (k < (m : Int))) = bitL x m := by
  obtain ⟨j, rfl⟩ : ∃ j, n = m + j := ⟨n - m, by omega⟩
  clear h
  induction j with
  | zero =>
    rw [Nat.add_zero]
    exact List.filter_eq_self.mpr fun k hk => by have := bitL_lt x m k hk; simp; omega
  | succ j ih =>
    rw [← Nat.add_assoc, bitL_succ, List.filter_append, ih]
    split
    · have e : ¬ ((m + j : Nat) : Int) < (m : Int) := by omega
      rw [List.filter_cons_of_neg (by simpa using e)]
      simp
    · simp
theorem mem_bitL {x k : Int} {n : Nat} : k ∈ bitL x n ↔ (0 ≤ k ∧ k < (n : Int)) ∧ x / 2 ^ k.toNat % 2 = 1 := by
  rw [bitL, List.mem_filter]
  refine ⟨fun h => ⟨?_, by simpa using h.2⟩, fun h => ⟨?_, by simpa using h.2⟩⟩
  · have := mem_rangeKs h.1
    omega
  · exact List.mem_map.mpr ⟨k.toNat, List.mem_range.mpr (by omega), by omega⟩
theorem half_is {b : Int} (h : 1 ≤ b) : (2 : Int) ^ b.toNat = 2 * 2 ^ (b - 1).toNat := by
  have e : b.toNat = (b - 1).toNat + 1 := by omega
  rw [e, Int.pow_succ, Int.mul_comm]
/-- the top bit -/
theorem top_in {x b : Int} (h1 : 1 ≤ b) (h0 : 0 ≤ x) (hx : x < 2 ^ b.toNat) : b - 1 ∈ plc x b ↔ 2 ^ (b - 1).toNat ≤ x := by
  rw [plc_bitL, mem_bitL]
  have hp := pw_pos (b - 1).toNat
  rw [half_is h1] at hx
  by_cases h : 2 ^ (b - 1).toNat ≤ x
  · have e : x / 2 ^ (b - 1).toNat = 1 := by
      refine (kbt_unique (r := x - 2 ^ (b - 1).toNat) hp ?_ (by omega) (by omega)).1
      omega
    rw [e]
    exact ⟨fun _ => h, fun _ => ⟨by omega, by decide⟩⟩
  · have e : x / 2 ^ (b - 1).toNat = 0 := Int.ediv_eq_zero_of_lt h0 (by omega)
    rw [e]
    exact ⟨fun q => absurd q.2 (by decide), fun q => absurd q h⟩
theorem any_mem {l : List Int} {v : Int} : (l.any fun x => x == v) = true ↔ v ∈ l := by
  rw [List.any_eq_true]
  exact ⟨fun ⟨x, hx, e⟩ => by rw [← beq_iff_eq.mp e]; exact hx, fun h => ⟨v, h, beq_self_eq_true v⟩⟩
theorem below_is {x b : Int} (h1 : 1 ≤ b) : pws ((plc x b).foldl (fun l' k' => if k' < b - 1 then l' ++ [k'] else l') []) = x % 2 ^ (b - 1).toNat := by
  rw [filt_is (fun k' => k' < b - 1), List.nil_append, ← pws_bitL, plc_bitL, ← bitL_filter x (show (b - 1).toNat ≤ b.toNat by omega)]
  have e : (((b - 1).toNat : Nat) : Int) = b - 1 := by omega
  rw [e]
theorem lsg_hi {x b : Int} (h1 : 1 ≤ b) (h0 : 0 ≤ x) (hx : x < 2 ^ b.toNat) (h : ((plc x b).any fun x => x == b - 1) = true) :
    pws ((plc x b).foldl (fun l' k' => if k' < b - 1 then l' ++ [k'] else l') []) - 2 ^ (b - 1).toNat = sgn x b := by
  have ht := (top_in h1 h0 hx).mp (any_mem.mp h)
  have hp := pw_pos (b - 1).toNat
  rw [below_is h1, sgn, if_pos ht, half_is h1]
  rw [half_is h1] at hx
  have e : x % 2 ^ (b - 1).toNat = x - 2 ^ (b - 1).toNat := (kbt_unique (q := 1) hp (by omega) (by omega) (by omega)).2
  rw [e]; omega
theorem lsg_lo {x b : Int} (h1 : 1 ≤ b) (h0 : 0 ≤ x) (hx : x < 2 ^ b.toNat) (h : ((plc x b).any fun x => x == b - 1) = false) :
    pws ((plc x b).foldl (fun l' k' => if k' < b - 1 then l' ++ [k'] else l') []) = sgn x b := by
  have ht : ¬ 2 ^ (b - 1).toNat ≤ x := fun q => by
    rw [any_mem.mpr ((top_in h1 h0 hx).mpr q)] at h
    cases h
  rw [below_is h1, sgn, if_neg ht]
  exact Int.emod_eq_of_lt h0 (by omega)
theorem pws_range (n : Nat) : ∀ lo : Nat, pws (rangeKs (lo : Int) n) = 2 ^ (lo + n) - 2 ^ lo := by
  intro lo
  induction n with
  | zero => simp [rangeKs, pws]
  | succ n ih =>
    rw [rangeKs_succ, pws_append, ih]
    have e : ((lo : Int) + (n : Int)).toNat = lo + n := by omega
    have e2 : (2 : Int) ^ (lo + (n + 1)) = 2 * 2 ^ (lo + n) := by rw [← Nat.add_assoc, Int.pow_succ, Int.mul_comm]
    simp only [pws, List.map_cons, List.map_nil, List.sum_cons, List.sum_nil]
    rw [e, e2]
    omega
theorem pws_range' {lo hi : Int} (h0 : 0 ≤ lo) (h1 : lo ≤ hi) : pws (rangeKs lo (hi - lo).toNat) = 2 ^ hi.toNat - 2 ^ lo.toNat := by
  have e : (lo.toNat : Int) = lo := by omega
  have h := pws_range (hi - lo).toNat lo.toNat
  rw [e] at h
  rw [h]
  have e2 : lo.toNat + (hi - lo).toNat = hi.toNat := by omega
  rw [e2]
theorem ends_fin {x z b : Int} (h1 : 1 ≤ b) : decide ([-2 ^ (b - 1).toNat, 2 ^ (b - 1).toNat - 1, sgn x b, z % 2 ^ b.toNat] = [-2 ^ (b - 1).toNat, pws (rangeKs 0 (b - 1 - 0).toNat), sgn x b, z.fmod (2 ^ b.toNat)]) = true := by
  rw [decide_eq_true_eq, pws_range' (by decide) (by omega), Int.fmod_eq_emod_of_nonneg _ (Int.le_of_lt (pw_pos _))]
  simp
end Mine
end
/-! part M4 -/
section
namespace Mine
open PySem PySem.W PyProof.Rows
theorem pws_split (p : Int → Bool) (f : Int → Int) (l : List Int) : pws (l.map f) = pws ((l.filter p).map f) + pws ((l.filter fun k => !p k).map f) := by
  induction l with
  | nil => rfl
  | cons k r ih =>
    rw [List.map_cons, pws_cons, ih, List.filter_cons, List.filter_cons]
    cases h : p k
    · simp [pws_cons]; omega
    · simp [pws_cons]; omega
theorem pws_up {l : List Int} {t : Int} (ht : 0 ≤ t) (hl : ∀ k ∈ l, 0 ≤ k) : pws (l.map fun k => k + t) = 2 ^ t.toNat * pws l := by
  induction l with
  | nil => simp [pws]
  | cons k r ih =>
    have hk := hl k (.head _)
    rw [List.map_cons, pws_cons, pws_cons, ih fun j hj => hl j (.tail _ hj), Int.mul_add, ← Int.pow_add]
    congr 2
    omega
theorem pws_down {l : List Int} {t : Int} (ht : 0 ≤ t) (hl : ∀ k ∈ l, t ≤ k) : 2 ^ t.toNat * pws (l.map fun k => k - t) = pws l := by
  induction l with
  | nil => simp [pws]
  | cons k r ih =>
    have hk := hl k (.head _)
    rw [List.map_cons, pws_cons, pws_cons, Int.mul_add, ih fun j hj => hl j (.tail _ hj), ← Int.pow_add]
    congr 2
    omega
theorem map_id' (l : List Int) : l.map (fun k => k) = l := List.map_id l
theorem pow_split {b t : Int} (h0 : 0 ≤ t) (h1 : t ≤ b) : (2 : Int) ^ b.toNat = 2 ^ t.toNat * 2 ^ (b - t).toNat := by
  rw [← Int.pow_add]; congr 1; omega
theorem up_val {x b t : Int} (h0 : 0 ≤ t) (h1 : t ≤ b) : pws (((plc x b).filter fun k => decide (k + t < b)).map fun k => k + t) = 2 ^ t.toNat * (x % 2 ^ (b - t).toNat) := by
  rw [pws_up h0 (fun k hk => (bitL_lt x b.toNat k (List.mem_filter.mp hk).1).1 : ∀ k ∈ (plc x b).filter fun k => decide (k + t < b), 0 ≤ k), ← pws_bitL, ← bitL_filter x (show (b - t).toNat ≤ b.toNat by omega), ← plc_bitL]
  congr 3
  funext k
  rw [decide_eq_decide]
  omega
theorem up_is {x b t : Int} (h0 : 0 ≤ t) (h1 : t ≤ b) : x * 2 ^ t.toNat % 2 ^ b.toNat = 2 ^ t.toNat * (x % 2 ^ (b - t).toNat) := by
  rw [pow_split h0 h1, Int.mul_comm x, Int.mul_emod_mul_of_pos _ _ (pw_pos _)]
theorem plc_sum {x b : Int} (hx0 : 0 ≤ x) (hx : x < 2 ^ b.toNat) : pws (plc x b) = x := by
  rw [plc_bitL, pws_bitL]; exact Int.emod_eq_of_lt hx0 hx
theorem down_val {x b t : Int} (h0 : 0 ≤ t) (h1 : t ≤ b) (hx0 : 0 ≤ x) (hx : x < 2 ^ b.toNat) : pws (((plc x b).filter fun k => decide (t ≤ k)).map fun k => k - t) = x / 2 ^ t.toNat := by
  have hp := pw_pos t.toNat
  have e1 := pws_split (fun k => decide (k < t)) (fun k => k) (plc x b)
  rw [map_id', map_id', map_id', plc_sum hx0 hx] at e1
  have e2 : (plc x b).filter (fun k => decide (k < t)) = bitL x t.toNat := by
    rw [plc_bitL, ← bitL_filter x (show t.toNat ≤ b.toNat by omega)]
    congr 1
    funext k
    rw [decide_eq_decide]
    omega
  have e3 : (plc x b).filter (fun k => !decide (k < t)) = (plc x b).filter fun k => decide (t ≤ k) := by
    congr 1
    funext k
    rw [← decide_not, decide_eq_decide]
    omega
  rw [e2, e3, pws_bitL] at e1
  have e4 := pws_down h0 (l := (plc x b).filter fun k => decide (t ≤ k)) fun k hk => of_decide_eq_true (List.mem_filter.mp hk).2
  have e5 := Int.emod_def x (2 ^ t.toNat)
  refine Int.eq_of_mul_eq_mul_left (Int.ne_of_gt hp) ?_
  rw [e4]
  omega
/-- the turned number, as a sum of two parts -/
theorem turn_val {x b t : Int} (hb : 1 ≤ b) (h0 : 0 ≤ t) (h1 : t < b) (hx0 : 0 ≤ x) (hx : x < 2 ^ b.toNat) :
    pws ((plc x b).map fun k => (k + t).fmod b) = 2 ^ t.toNat * (x % 2 ^ (b - t).toNat) + x / 2 ^ (b - t).toNat := by
  rw [pws_split (fun k => decide (k + t < b)), ← up_val h0 (by omega), ← down_val (t := b - t) (by omega) (by omega) hx0 hx]
  congr 2
  · refine List.map_congr_left fun k hk => ?_
    have h2 := bitL_lt x _ k (List.mem_filter.mp hk).1
    have h3 := of_decide_eq_true (List.mem_filter.mp hk).2
    rw [Int.fmod_eq_emod_of_nonneg _ (by omega)]
    exact Int.emod_eq_of_lt (by omega) h3
  · have e3 : (plc x b).filter (fun k => !decide (k + t < b)) = (plc x b).filter fun k => decide (b - t ≤ k) := by
      congr 1
      funext k
      rw [← decide_not, decide_eq_decide]
      omega
    rw [e3]
    refine List.map_congr_left fun k hk => ?_
    have h2 := bitL_lt x _ k (List.mem_filter.mp hk).1
    have h3 := of_decide_eq_true (List.mem_filter.mp hk).2
    rw [Int.fmod_eq_emod_of_nonneg _ (by omega)]
    exact (kbt_unique (q := 1) (by omega) (by omega) (by omega) (by omega)).2
theorem nat_apart {m r k : Nat} (h : r < 2 ^ k) : (2 ^ k * m) &&& r = 0 := by
  apply Nat.eq_of_testBit_eq
  intro i
  rw [Nat.testBit_and, Nat.testBit_two_pow_mul, Nat.zero_testBit]
  by_cases hi : k ≤ i
  · rw [Nat.testBit_lt_two_pow (Nat.lt_of_lt_of_le h (Nat.pow_le_pow_right (by decide) hi))]; simp
  · simp [hi]
theorem or_add {m r : Int} {k : Nat} (hm : 0 ≤ m) (hr : 0 ≤ r) (h : r < 2 ^ k) : Builtin.bitOr (2 ^ k * m) r = 2 ^ k * m + r := by
  have hp := pw_pos k
  rw [bitOr_and, bitAnd_pp (Int.mul_nonneg (Int.le_of_lt hp) hm) hr]
  obtain ⟨m, rfl⟩ : ∃ n : Nat, m = (n : Int) := ⟨m.toNat, by omega⟩
  obtain ⟨r, rfl⟩ : ∃ n : Nat, r = (n : Int) := ⟨r.toNat, by omega⟩
  have h' : r < 2 ^ k := by have := kbt_cast k; omega
  rw [← kbt_cast, ← Int.natCast_mul, Int.toNat_natCast, Int.toNat_natCast, nat_apart h']
  omega
theorem turn_is {x b t : Int} (hb : 1 ≤ b) (h0 : 0 ≤ t) (h1 : t < b) (hx0 : 0 ≤ x) (hx : x < 2 ^ b.toNat) :
    Builtin.bitOr (x * 2 ^ t.toNat % 2 ^ b.toNat) (x.fdiv (2 ^ (b - t).toNat)) = pws ((plc x b).map fun k => (k + t).fmod b) := by
  have hp := pw_pos (b - t).toNat
  rw [turn_val hb h0 h1 hx0 hx, up_is h0 (by omega), shr_is]
  refine or_add (Int.emod_nonneg _ (Int.ne_of_gt hp)) (Int.ediv_nonneg hx0 (Int.le_of_lt hp)) ?_
  refine Int.ediv_lt_of_lt_mul hp ?_
  rw [← pow_split h0 (by omega)]
  exact hx
theorem back_is (k : Int) {b t : Int} (hb : 1 ≤ b) : (k - t).fmod b = (k + (b - t).fmod b).fmod b := by
  rw [Int.fmod_eq_emod_of_nonneg _ (by omega), Int.fmod_eq_emod_of_nonneg _ (by omega), Int.fmod_eq_emod_of_nonneg _ (by omega), Int.add_emod_emod]
  have e : k + (b - t) = (k - t) + b := by omega
  rw [e, Int.add_emod_right]
theorem sar_hi {x b t : Int} (hb : 1 ≤ b) (h0 : 0 ≤ t) (h1 : t < b) (hx : x < 2 ^ b.toNat) (h : 2 ^ (b - 1).toNat ≤ x) :
    (sgn x b).fdiv (2 ^ t.toNat) % 2 ^ b.toNat = x / 2 ^ t.toNat + (2 ^ b.toNat - 2 ^ (b - t).toNat) := by
  have hp := pw_pos t.toNat
  have hq := pw_pos (b - t).toNat
  have hr := pw_pos (b - 1).toNat
  rw [shr_is, sgn, if_pos h]
  have e : x - 2 ^ b.toNat = x + 2 ^ t.toNat * (-2 ^ (b - t).toNat) := by rw [Int.mul_neg, ← pow_split h0 (by omega)]; omega
  rw [e, Int.add_mul_ediv_left _ _ (Int.ne_of_gt hp)]
  have h2 : x / 2 ^ t.toNat < 2 ^ (b - t).toNat := Int.ediv_lt_of_lt_mul hp (by rw [Int.mul_comm, ← pow_split h0 (by omega)]; exact hx)
  have h3 : 0 ≤ x / 2 ^ t.toNat := Int.ediv_nonneg (by omega) (Int.le_of_lt hp)
  have h4 : (2 : Int) ^ (b - t).toNat ≤ 2 ^ b.toNat := by
    rw [← kbt_cast, ← kbt_cast]
    have : (2 : Nat) ^ (b - t).toNat ≤ 2 ^ b.toNat := Nat.pow_le_pow_right (by decide) (by omega)
    omega
  exact (kbt_unique (q := -1) (pw_pos _) (by rw [Int.mul_neg, Int.mul_one]; omega) (by omega) (by omega)).2
theorem sar_lo {x b t : Int} (hx0 : 0 ≤ x) (hx : x < 2 ^ b.toNat) (h : ¬ 2 ^ (b - 1).toNat ≤ x) :
    (sgn x b).fdiv (2 ^ t.toNat) % 2 ^ b.toNat = x / 2 ^ t.toNat := by
  have hp := pw_pos t.toNat
  rw [shr_is, sgn, if_neg h]
  exact Int.emod_eq_of_lt (Int.ediv_nonneg hx0 (Int.le_of_lt hp)) (Int.lt_of_le_of_lt (Int.ediv_le_self _ hx0) hx)
theorem moves_fin {x y b sp : Int} (hb : 1 ≤ b) (hx0 : 0 ≤ x) (hx : x < 2 ^ b.toNat)
    (hsp : (sgn x b).fdiv (2 ^ (y.fmod b).toNat) % 2 ^ b.toNat = x / 2 ^ (y.fmod b).toNat + sp) :
    decide
    ([x * 2 ^ (y.fmod b).toNat % 2 ^ b.toNat, (sgn x b).fdiv (2 ^ (y.fmod b).toNat) % 2 ^ b.toNat,
        x.fdiv (2 ^ (y.fmod b).toNat),
        Builtin.bitOr (x * 2 ^ (y.fmod b).toNat % 2 ^ b.toNat) (x.fdiv (2 ^ (b - y.fmod b).toNat)),
        Builtin.bitOr (x * 2 ^ ((b - y.fmod b).fmod b).toNat % 2 ^ b.toNat)
          (x.fdiv (2 ^ (b - (b - y.fmod b).fmod b).toNat))] =
      [pws (List.foldl (fun l' k' => if k' + y.fmod b < b then l' ++ [k' + y.fmod b] else l') [] (plc x b)),
        pws (List.foldl (fun l' k' => if y.fmod b ≤ k' then l' ++ [k' - y.fmod b] else l') [] (plc x b)) + sp,
        pws (List.foldl (fun l' k' => if y.fmod b ≤ k' then l' ++ [k' - y.fmod b] else l') [] (plc x b)),
        pws (List.map (fun k' => (k' + y.fmod b).fmod b) (plc x b)),
        pws (List.map (fun k' => (k' - y.fmod b).fmod b) (plc x b))]) =
  true := by
  obtain ⟨h0, h1⟩ := fmod_bnd y hb
  obtain ⟨h2, h3⟩ := fmod_bnd (b - y.fmod b) hb
  have e1 : pws (List.foldl (fun l' k' => if k' + y.fmod b < b then l' ++ [k' + y.fmod b] else l') [] (plc x b)) = x * 2 ^ (y.fmod b).toNat % 2 ^ b.toNat := by
    rw [filtmap_is (fun k' => k' + y.fmod b < b) (fun k' => k' + y.fmod b), List.nil_append, up_val h0 (by omega), up_is h0 (by omega)]
  have e2 : pws (List.foldl (fun l' k' => if y.fmod b ≤ k' then l' ++ [k' - y.fmod b] else l') [] (plc x b)) = x / 2 ^ (y.fmod b).toNat := by
    rw [filtmap_is (fun k' => y.fmod b ≤ k') (fun k' => k' - y.fmod b), List.nil_append, down_val h0 (by omega) hx0 hx]
  have e3 : (fun k' : Int => (k' - y.fmod b).fmod b) = fun k' => (k' + (b - y.fmod b).fmod b).fmod b := funext fun k' => back_is k' hb
  rw [decide_eq_true_eq, e1, e2, e3, turn_is hb h0 h1 hx0 hx, turn_is hb h2 h3 hx0 hx, hsp, shr_is]
theorem spread_hi {x y b : Int} (hb : 1 ≤ b) (hx0 : 0 ≤ x) (hx : x < 2 ^ b.toNat) (h : ((plc x b).any fun x => x == b - 1) = true) :
    (sgn x b).fdiv (2 ^ (y.fmod b).toNat) % 2 ^ b.toNat = x / 2 ^ (y.fmod b).toNat + pws (rangeKs (b - y.fmod b) (b - (b - y.fmod b)).toNat) := by
  obtain ⟨h0, h1⟩ := fmod_bnd y hb
  rw [sar_hi hb h0 h1 hx ((top_in hb hx0 hx).mp (any_mem.mp h)), pws_range' (by omega) (by omega)]
theorem spread_lo {x y b : Int} (hb : 1 ≤ b) (hx0 : 0 ≤ x) (hx : x < 2 ^ b.toNat) (h : ((plc x b).any fun x => x == b - 1) = false) :
    (sgn x b).fdiv (2 ^ (y.fmod b).toNat) % 2 ^ b.toNat = x / 2 ^ (y.fmod b).toNat + 0 := by
  rw [Int.add_zero]
  refine sar_lo hx0 hx fun q => ?_
  rw [any_mem.mpr ((top_in hb hx0 hx).mpr q)] at h
  cases h
end Mine
end
/-! part M5 -/
section
namespace Mine
open PySem PySem.W PyProof.Rows
theorem wid_1 : (1 : Int) ≤ 32 ∧ (32 : Int) ≤ 64 := by decide
theorem wid_2 : (1 : Int) ≤ 64 ∧ (64 : Int) ≤ 64 := by decide
theorem wid_3 (a : Int) : 1 ≤ 1 + a.fmod 64 ∧ 1 + a.fmod 64 ≤ 64 := by
  have h := fmod_bnd a (b := 64) (by decide)
  omega
theorem opd_mod (a b : Int) : 0 ≤ a.fmod (2 ^ b.toNat) ∧ a.fmod (2 ^ b.toNat) < 2 ^ b.toNat := kbt_rest a b.toNat
theorem opd_pow {a b : Int} (h0 : 0 ≤ a.fmod b) (h1 : a.fmod b < b) : (0 : Int) ≤ 2 ^ (a.fmod b).toNat ∧ (2 : Int) ^ (a.fmod b).toNat < 2 ^ b.toNat := by
  have hp := pw_pos (a.fmod b).toNat
  have h : (2 : Nat) ^ (a.fmod b).toNat < 2 ^ b.toNat := Nat.pow_lt_pow_right (by decide) (by omega)
  refine ⟨Int.le_of_lt hp, ?_⟩
  rw [← kbt_cast, ← kbt_cast]
  exact Int.ofNat_lt.mpr h
end Mine
end
/-! part T1 -/
section
open PySem PySem.W PyProof.Rows PySem.Calls
set_option maxRecDepth 100000
namespace Mine
abbrev prg := PySem.Challenge.rw_nm0111_01.row.prog
abbrev o44 : Obj := { cls := .type "type", data := .cls { name := Str.ofString "Trap", bases := [.ref 31], mro := [.ref 44, .ref 31, .type "Exception", .type "BaseException", .type "object"], ns := 43, qualname := Str.ofString "Trap" }, slots := #[some (.ref 35), none, some (.str (Str.ofString "Trap") 218), some (.str (Str.ofString "Trap") 226), some (.builtin "Exception.__new__"), some (.bool true)] }
section
variable {w : World} {h : Heap} (X : (hd.heap_39 w.params).In h)
include X
theorem tr_made : Looks (model prg w) h (Bind.madeBy (.ref 44)) (some "Exception.__new__") := Looks.of_peek X (by kernel_rfl)
theorem tr_base : Looks (model prg w) h (Bind.staticBase (.ref 44)) (.ref 44) := Looks.of_peek X (by kernel_rfl)
theorem tr_self : Looks (model prg w) h (isSubtype (.ref 44) (.ref 44)) true := Looks.of_peek X (by kernel_rfl)
theorem tr_exc : Looks (model prg w) h (isSubtype (.ref 44) (.type "Exception")) true := Looks.of_peek X (by kernel_rfl)
theorem tr_bexc : Looks (model prg w) h (isSubtype (.ref 44) (.type "BaseException")) true := Looks.of_peek X (by kernel_rfl)
theorem tr_noA : Looks (model prg w) h (isSubtype (.ref 44) (.type "AttributeError")) false := Looks.of_peek X (by kernel_rfl)
theorem tr_noN : Looks (model prg w) h (isSubtype (.ref 44) (.type "NameError")) false := Looks.of_peek X (by kernel_rfl)
theorem tr_call : Looks (model prg w) h (specialOf (.ref 44) "__call__") (some (.builtin "type.__call__")) := looks_specialIn X (by kernel_rfl)
theorem tr_typ : Looks (model prg w) h (isInstance (.ref 44) (.type "type")) true := looks_instIn X (by kernel_rfl)
theorem tr_init : Looks (model prg w) h (typeLookup (.ref 44) "__init__") (some (.ref 28)) := looks_findIn X (by kernel_rfl)
theorem tr_bind (self : Value) : Looks (model prg w) h (bindSpecial (.ref 28) self) (.ref 28, [self]) := bind_fn X self (by kernel_rfl)
theorem tr_obj : h.get? 44 = some o44 := X 44 _ (by kernel_rfl)
end
end Mine
end
/-! part T2 -/
section
open PySem PySem.W PyProof.Rows PySem.Calls
set_option maxRecDepth 100000
set_option maxHeartbeats 4000000
namespace Mine
section
variable {w : World} {A : Around} {R : Result → Shared → Prop} {h : Heap} {g : Array GenState} {d : Drawn} {t : Nat} {os : OsState}
theorem trap_new {rest : List Value} (X : (hd.heap_39 w.params).In h) (hrest : rest.length ≤ sizeLine)
    (hq : R (.ok (.ret (.ref (h.objs.size + 1)))) ⟨(h.push (tupObj rest)).push (excObj h.objs.size), g, d, t, os⟩) :
    codeAny (model prg w) A (.call (.builtin "Exception.__new__") ⟨.ref 44 :: rest, []⟩) R ⟨h, g, d, t, os⟩ := by
  have F := PySem.F.excBase_Exception
  have hC := tr_obj X
  have made := tr_made X
  have base := tr_base X
  have exc := tr_exc X
  have noA := tr_noA X
  have noN := tr_noN X
  have hends := F.ends
  have hstar := F.noStar
  refine codeAny_call_builtin_code (Code.quiet_builtin _ F.quiet) ?_
  simp only [checkBuiltinCall, F.newKind, F.newSplit, F.newRow]
  repeat (first | simp only [bne_self_eq_false, Bool.false_eq_true, if_false] | lk)
  refine codeAny_builtinAt F.entry ?_
  unfold Builtin.«BaseException.__new__»
  refine PySem.wpAt_bind ?_
  show PySem.wpAt _ _ _ (stack >>= _) _ _ _
  refine PySem.wpAt_bind (PySem.wpAt_stack fun p below => PySem.wpAt_of_wpAny ?_)
  wp_walk
  refine PySem.wpAt_of_wpAny ?_
  rw [F.owner]
  repeat lk
  rw [if_neg (show ¬ rest.toArray.size > sizeLine by rw [List.size_toArray]; exact Nat.not_lt.mpr hrest)]
  repeat lk
  have hC₁ := Heap.get?_push_of_some (tupObj rest) hC
  have hC₂ := Heap.get?_push_of_some (excObj h.objs.size) hC₁
  repeat lk
  rw [Heap.size_push]
  exact hq

theorem trap_core {rest : List Value} (X : (hd.heap_39 w.params).In h) (hrest : rest.length ≤ sizeLine)
    (hq : codeAny (model prg w) (A.under (.builtin "type.__call__" ⟨.ref 44 :: rest, []⟩)) (.call (.ref 28) ⟨.ref (h.objs.size + 1) :: rest, []⟩) (InitBack (h.objs.size + 1) R)
      ⟨(h.push (tupObj rest)).push (excObj h.objs.size), g, d, t, os⟩) :
    codeAny (model prg w) A (.call (.ref 44) ⟨rest, []⟩) R ⟨h, g, d, t, os⟩ := by
  have hC := tr_obj X
  have made := tr_made X
  have self := tr_self X
  have call := tr_call X
  have typ := tr_typ X
  refine codeAny_of_tree ?_
  show wpAny _ _ (callAny (.ref 44) _) _ _ _
  refine nd_load hC ?_
  show wpAny _ _ (callAny.viaDunder (.ref 44) _) _ _ _
  unfold callAny.viaDunder
  refine wpAny_bind (call.at ?_)
  dsimp only
  rw [tc_bind]
  refine wpAny_bind (wpAny_pure (wpAny_bind (wpAny_pure ?_)))
  refine wpAny_pure (a := Fin.again (.call (.builtin "type.__call__") ⟨.ref 44 :: rest, []⟩)) (And.intro rfl ?_)
  refine codeAny_call_builtin_at (Code.quiet_builtin _ (by decide +kernel)) entry_typeCall (check_slot tc_kind tc_split typ (tc_args _ _ _) ?_)
  unfold Builtin.«type.__call__»
  repeat (first | simp only [Bool.false_eq_true, if_false] | with_reducible refine wpAny_call ?_ | lk)
  refine trap_new X hrest ?_
  have k : ∀ b o, h.get? b = some o → ((h.push (tupObj rest)).push (excObj h.objs.size)).get? b = some o := fun b o e => Heap.get?_push_of_some _ (Heap.get?_push_of_some _ e)
  have hx : ((h.push (tupObj rest)).push (excObj h.objs.size)).get? (h.objs.size + 1) = some (excObj h.objs.size) := by heap_get
  have t1 : Looks (model prg w) ((h.push (tupObj rest)).push (excObj h.objs.size)) (typeOf (.ref (h.objs.size + 1))) (.ref 44) := (Looks.ld hx).andThen .now
  have s1 := self.keeps k
  have i1 := (tr_init (w := w) X).keeps k
  have b1 := (tr_bind (w := w) X (.ref (h.objs.size + 1))).keeps k
  unfold isInstance callSpecial? specialOf
  repeat (first | with_reducible refine wpAny_call ?_ | lk)
  refine codeAny_mono hq fun r s' z => ?_
  rcases r with e | (v | _ | _ | _) <;> first | exact z | exact z.elim | skip
  obtain ⟨rfl, z⟩ := z
  exact wpAny_pure (wpAny_pure z)
end
section
variable {w : World} {A : Around} {R : Result → Shared → Prop} {s : Shared} {h₀ : Heap} {L : Addr} {m : Str → Option Value} {news : List (Addr × Obj)}
theorem trap_K {rest : List Value} (F : PyProof.Rows.Fr h₀ L s.heap m) (N : PyProof.Rows.News h₀ L s.heap news) (X : (hd.heap_39 w.params).In s.heap) (hrest : rest.length ≤ sizeLine)
    (h : ∀ e t h', PyProof.Rows.Fr h₀ L h' m → PyProof.Rows.News h₀ L h' ((e, excObj t) :: (t, tupObj rest) :: news) → (∀ p ∈ news, p.1 < t) → t < e →
      codeAny (model prg w) (A.under (.builtin "type.__call__" ⟨.ref 44 :: rest, []⟩)) (.call (.ref 28) ⟨.ref e :: rest, []⟩) (InitBack e R) { s with heap := h' }) :
    codeAny (model prg w) A (.call (.ref 44) ⟨rest, []⟩) R s := by
  obtain ⟨hh, g, d, t, os⟩ := s
  refine trap_core X hrest (h _ hh.objs.size _ ((F.push _).push _) ?_ (fun p hp => Heap.lt_size (N p hp).1) (Nat.lt_succ_self _))
  have := (N.push F (tupObj rest)).push (F.push _) (excObj hh.objs.size)
  rwa [Heap.size_push] at this
end
end Mine
end
/-! part T2b -/
section
open PySem PySem.W PySem.Calls
set_option maxRecDepth 100000
set_option maxHeartbeats 4000000
namespace Mine
section
variable {w : World} {A : Around} {E : Value → Shared → Prop} {s : Shared} 
theorem exc_getm {pl : Sem Bool} {Q : Value × List Value → Shared → Prop} (X : (hd.heap_39 w.params).In s.heap) (h : Q (.builtin "Exception.__init__", []) { s with toks := s.toks + 1 }) :
    wpAny (model prg w) A (getMethod (.type "Exception") (Str.ofString "__init__") pl) Q E s := by
  have hstub : opaqueClassAbove (.type "Exception") = pure none := by unfold opaqueClassAbove; dsimp only; rw [show Manifest.isStub "Exception" = false by decide +kernel]; rfl
  have ht : typeOf (.type "Exception") = pure (.type "type") := by first | rfl | kernel_rfl
  have L0 : Looks (model prg w) s.heap (typeOf (.type "Exception")) (.type "type") := Looks.of_pure ht
  have hg : findIn (hd.heap_39 w.params) (.type "type") "__getattribute__" = some (some (.builtin "type.__getattribute__")) := by kernel_rfl
  unfold getMethod specialOf
  refine wpAny_bind (wpAny_bind (L0.here ((looks_findIn X hg).here ?_)))
  dsimp only
  rw [if_pos canon_tga]
  refine wpAny_bind (wpAny_mono (Q := fun v => Q (v, [])) (E := E) ?_ (fun _ _ z => wpAny_pure z) fun _ _ z => z)
  have e : findCls (hd.heap_39 w.params) (.type "Exception") (.type "type") (Str.ofString "__init__") = some (.val (.builtin "Exception.__init__")) := by kernel_rfl
  refine cls_open X (Looks.of_pure hstub) L0 hg (looks_hook X (r := none) (by rfl)) (by show subIn _ _ _ = _; rfl) e ?_
  exact wpAny_pure (handed_on (by kernel_rfl) h)

theorem chk_star {M : Model} {s : Shared} {B a b : String} {n : Nat} {Q : Unit → Shared → Prop} (h : Q () s) :
    wpAny M A (Bind.check ⟨.positional, "*", B, .self, [⟨"args", .varPos, false⟩]⟩ a b n []) Q E s := by
  rw [check_star_args]; exact wpAny_pure h
theorem exc_init_K {h₀ : Heap} {L : Addr} {m : Str → Option Value} {news : List (Addr × Obj)} {e t : Addr} {v : Value} {Q : Value → Shared → Prop}
    (F : PyProof.Rows.Fr h₀ L s.heap m) (N : PyProof.Rows.News h₀ L s.heap ((e, excObj t) :: news)) (X : (hd.heap_39 w.params).In s.heap) (hn : ∀ p ∈ news, p.1 ≠ e)
    (h : ∀ t' h', PyProof.Rows.Fr h₀ L h' m → PyProof.Rows.News h₀ L h' ((t', tupObj [v]) :: (e, excObj t') :: news) → (∀ p ∈ news, p.1 < t') → e < t' → Q .none { s with heap := h' }) :
    wpAny (model prg w) A (call (.builtin "Exception.__init__") [.ref e, v]) Q E s := by
  have G := PySem.F.excBase_Exception
  have he : s.heap.get? e = some (excObj t) := (N _ (.head _)).1
  obtain ⟨hh, g, d, tk, os⟩ := s
  replace he : hh.get? e = some (excObj t) := he
  replace X : (hd.heap_39 w.params).In hh := X
  have exc := tr_exc (w := w) X
  have hshort := G.noStar
  refine wpAny_call (codeAny_call_builtin G.init.plain G.initEntry ?_)
  simp only [checkBuiltinCall, G.initKind, G.initSplit, G.initRow]
  have hC := tr_obj X
  repeat (first | with_reducible refine chk_star ?_ | lk)
  have he₁ := Heap.get?_push_of_some (tupObj [v]) he
  repeat lk
  refine wpAny_updatePart he₁ ?_
  dsimp only
  repeat lk
  have hlt : e < hh.objs.size := Heap.lt_size he
  have F₁ := F.push (tupObj [v])
  have N₁ := N.push F (tupObj [v])
  have z := N (e, excObj t) (.head _)
  have hs : Heap.SameBut e (hh.push (tupObj [v])) ((hh.push (tupObj [v])).update e (Obj.mapFields fun x => x.setIfInBounds 0 (Value.ref hh.objs.size))) := Heap.SameBut.update ..
  have he₂ : ((hh.push (tupObj [v])).update e (Obj.mapFields fun x => x.setIfInBounds 0 (Value.ref hh.objs.size))).get? e = some (excObj hh.objs.size) := Heap.get?_update_self _ he₁ rfl
  exact h hh.objs.size _ (F₁.change hs z.2.1 z.2.2) (news_set (pre := [(hh.objs.size, tupObj [v])]) N₁ (fun p hp => by rw [List.mem_singleton.mp hp]; exact Ne.symm (Nat.ne_of_lt hlt)) hn hs he₂)
    (fun p hp => Heap.lt_size (N p (.tail _ hp)).1) hlt
end
end Mine
end
/-! part T2c -/
section
open PySem PySem.W PySem.Calls
open PySem.Builtin PySem.Builtin.ObjectAttr
set_option maxRecDepth 100000
set_option maxHeartbeats 4000000
namespace Mine
section
variable {w : World} {A : Around} {E : Value → Shared → Prop} {s : Shared} 
theorem tr_setattr (w : World) : findIn (hd.heap_39 w.params) (.ref 44) "__setattr__" = some (some (.builtin "object.__setattr__")) := by kernel_rfl
theorem tr_obj' {h : Heap} (X : (hd.heap_39 w.params).In h) : Looks (model prg w) h (isSubtype (.ref 44) (.type "object")) true := Looks.of_peek X (by kernel_rfl)
theorem tr_mro {h : Heap} (X : (hd.heap_39 w.params).In h) : Looks (model prg w) h (mroOf (.ref 44)) [.ref 44, .ref 31, .type "Exception", .type "BaseException", .type "object"] := Looks.of_peek X (by kernel_rfl)
theorem tr_refuse {h : Heap} (X : (hd.heap_39 w.params).In h) (self : Value) : Looks (model prg w) h (refuseLoop self "__setattr__" [.ref 44, .ref 31, .type "Exception", .type "BaseException", .type "object"]) () := Looks.of_peek X (by kernel_rfl)
theorem tr_why {h : Heap} (X : (hd.heap_39 w.params).In h) : Looks (model prg w) h (typeLookup (.ref 44) "why") none := looks_findIn X (by kernel_rfl)
theorem exc_set {h₀ : Heap} {L : Addr} {m : Str → Option Value} {news : List (Addr × Obj)} {e t : Addr} {v : Value} {Q : Unit → Shared → Prop}
    (F : PyProof.Rows.Fr h₀ L s.heap m) (N : PyProof.Rows.News h₀ L s.heap ((t, tupObj [v]) :: (e, excObj t) :: news)) (X : (hd.heap_39 w.params).In s.heap) (hn : ∀ p ∈ news, p.1 ≠ e) (ht : t ≠ e)
    (h : ∀ dx h' hs tk', PyProof.Rows.Fr h₀ L h' m → PyProof.Rows.News h₀ L h' ((dx, dictOf [⟨hs, .str (Str.ofString "why") tk', v⟩] 1) :: (t, tupObj [v]) :: (e, excObjD t dx) :: news) → (∀ p ∈ news, p.1 < dx) → t < dx → e < dx →
      Q () { s with heap := h', toks := s.toks + 2 }) :
    wpAny (model prg w) A (setAttr (.ref e) (Str.ofString "why") v) Q E s := by
  have SF := PySem.F.store_object
  have he : s.heap.get? e = some (excObj t) := (N _ (.tail _ (.head _))).1
  have I : InstAt s.heap e (excObj t) 44 none := ⟨he, rfl, rfl, trivial⟩
  refine set_plain X I (tr_setattr w) ?_
  obtain ⟨hh, g, d, tk, os⟩ := s
  replace he : hh.get? e = some (excObj t) := he
  replace X : (hd.heap_39 w.params).In hh := X
  have hC := tr_obj X
  have sub : Looks (model prg w) hh (isInstance (.ref e) (.type "object")) true := I.type.andThen (tr_obj' X)
  refine codeAny_call_builtin SF.slot.plain SF.entry (@check_slot (model prg w) _ _ ⟨hh, g, d, tk + 1, os⟩ "object.__setattr__" "object" "__setattr__" (.ref e) [.str (Str.ofString "why") tk, v] [] _ SF.kind SF.split sub (SF.args (.ref e) (.str (Str.ofString "why") tk) v) ?_)
  rw [osa_eq, refuse_eq]
  have m1 := tr_mro X
  have m2 := tr_refuse X (.ref e)
  have m3 := tr_why X
  have m4 : Looks (model prg w) hh (typeOf (.ref e)) (.ref 44) := I.type
  repeat lk
  have he₁ := Heap.get?_push_of_some ({ cls := .type "dict", data := .dict #[] } : Obj) he
  have hd₁ := Heap.get?_push_size hh (o := ({ cls := .type "dict", data := .dict #[] } : Obj)) rfl
  have hC₁ := Heap.get?_push_of_some ({ cls := .type "dict", data := .dict #[] } : Obj) hC
  refine wpAny_updatePart he₁ ?_
  have hlt : e < hh.objs.size := Heap.lt_size he
  have he44 : e ≠ 44 := fun q => by rw [q, hC] at he; cases he
  have he₂ := Heap.get?_update_self (fun o => ({ cls := o.cls, dict := some hh.objs.size, data := o.data, slots := o.slots } : Obj)) he₁ rfl
  have hd₂ := (Heap.get?_update_other (hh.push ({ cls := .type "dict", data := .dict #[] } : Obj)) (fun o => ({ cls := o.cls, dict := some hh.objs.size, data := o.data, slots := o.slots } : Obj)) (Nat.ne_of_lt hlt)).trans hd₁
  have hC₂ := (Heap.get?_update_other (hh.push ({ cls := .type "dict", data := .dict #[] } : Obj)) (fun o => ({ cls := o.cls, dict := some hh.objs.size, data := o.data, slots := o.slots } : Obj)) he44).trans hC₁
  dsimp only
  repeat lk
  refine wpAny_updatePart hd₂ ?_
  have hd₃ := Heap.get?_update_self (Obj.putName (Str.ofString "why") (if (Str.ofString "why").cps.isEmpty = true then 0 else reduceHash ((model prg w).w.params.strHash (Str.ofString "why").cps)) (Value.str (Str.ofString "why") (tk + 1)) v) hd₂ rfl
  refine wpAny_bind (wpAny_lookBehind hd₃ (by exact pastItsLine_dict (es := [⟨_, .str (Str.ofString "why") (tk + 1), v⟩].toArray) (by rw [List.size_toArray, sizeLine_eq]; exact Nat.le_of_ble_eq_true rfl)) ?_)
  refine wpAny_pure ?_
  have z := N (e, excObj t) (.tail _ (.head _))
  have F₁ := F.push ({ cls := .type "dict", data := .dict #[] } : Obj)
  have N₁ := N.push F ({ cls := .type "dict", data := .dict #[] } : Obj)
  have hs₂ : Heap.SameBut e (hh.push ({ cls := .type "dict", data := .dict #[] } : Obj)) ((hh.push ({ cls := .type "dict", data := .dict #[] } : Obj)).update e fun o => ({ cls := o.cls, dict := some hh.objs.size, data := o.data, slots := o.slots } : Obj)) := Heap.SameBut.update ..
  have F₂ := F₁.change hs₂ z.2.1 z.2.2
  have N₂ := news_set (pre := [(hh.objs.size, ({ cls := .type "dict", data := .dict #[] } : Obj)), (t, tupObj [v])]) N₁ (fun p hp => by
    rcases List.mem_cons.mp hp with rfl | hp
    · exact Ne.symm (Nat.ne_of_lt hlt)
    · rw [List.mem_singleton.mp hp]; exact ht) hn hs₂ he₂
  have zd := N₁ (hh.objs.size, _) (.head _)
  have hs₃ : Heap.SameBut hh.objs.size _ (((hh.push ({ cls := .type "dict", data := .dict #[] } : Obj)).update e fun o => ({ cls := o.cls, dict := some hh.objs.size, data := o.data, slots := o.slots } : Obj)).update hh.objs.size (Obj.putName (Str.ofString "why") (if (Str.ofString "why").cps.isEmpty = true then 0 else reduceHash ((model prg w).w.params.strHash (Str.ofString "why").cps)) (Value.str (Str.ofString "why") (tk + 1)) v)) := Heap.SameBut.update ..
  have F₃ := F₂.change hs₃ zd.2.1 zd.2.2
  have below : ∀ p ∈ (t, tupObj [v]) :: (e, ({ cls := (excObj t).cls, dict := some hh.objs.size, data := (excObj t).data } : Obj)) :: news, p.1 ≠ hh.objs.size := by
    refine List.forall_mem_cons.mpr ⟨Nat.ne_of_lt (Heap.lt_size (N _ (.head _)).1), List.forall_mem_cons.mpr ⟨Nat.ne_of_lt hlt, fun p hp => ?_⟩⟩
    exact Nat.ne_of_lt (Heap.lt_size (N p (.tail _ (.tail _ hp))).1)
  have N₃ := news_set (pre := []) N₂ (fun p hp => nomatch hp) below hs₃ hd₃
  exact h hh.objs.size _ _ _ F₃ N₃ (fun p hp => Heap.lt_size (N p (.tail _ (.tail _ hp))).1) (Heap.lt_size (N _ (.head _)).1) hlt
end
end Mine
end
/-! part X0 -/
section
open PySem PySem.W PyProof.Rows PySem.Calls
set_option maxRecDepth 100000
namespace Mine
/-- a frame's own object, whatever its slots -/
def IsLoc (o : Obj) (m : Str → Option Value) : Prop := ∃ es ep, o.data = .dict es ep ∧ ∀ (h' : Heap) (L : Addr) (sl : Array (Option Value)), h'.get? L = some { o with slots := sl } → h'.Ns L m
theorem isLoc_of {h₀ h : Heap} {L : Addr} {m : Str → Option Value} (F : Fr h₀ L h m) : ∃ o, h.get? L = some o ∧ IsLoc o m := by
  obtain ⟨oL, es, ep, hL, hLd, hLk, hLf⟩ := F.ns
  exact ⟨oL, hL, es, ep, hLd, fun h' L sl e => ⟨_, es, ep, e, hLd, hLk, hLf⟩⟩
/-- the caller's frame stands in the callee's ledger -/
def LeaveY (h₀ : Heap) (L : Addr) (oL : Obj) (m : Str → Option Value) (R : Result → Shared → Prop) (v : Value) (s' : Shared) : Prop :=
  ∃ g' L' m' news' sl, h₀.StaysIn g' ∧ Fr g' L' s'.heap m' ∧ News g' L' s'.heap ((L, { oL with slots := sl }) :: news') ∧ (∀ p ∈ news', p.1 ≠ L) ∧ (Fr h₀ L s'.heap m → News h₀ L s'.heap news' → R (.ok (.ret v)) s')
section
variable {prog : Program} {w : World} {A : Around} {s : Shared} {K : Frag} {L : Addr} {h₀ : Heap} {m mg mb : Str → Option Value} {news : List (Addr × Obj)} {p : Program} {loose : List Str} {mean : ExcName → Option Value}
theorem leaveY_back {oL : Obj} {R : Result → Shared → Prop} {v : Value} {s' : Shared} {h : Heap} (F : Fr h₀ L h m) (hl : IsLoc oL m) (lv : LeaveY h₀ L oL m R v s') : R (.ok (.ret v)) s' := by
  obtain ⟨g', L', m', news', sl, st, F', N', ne, k⟩ := lv
  obtain ⟨es, ep, hd, hn⟩ := hl
  refine k ⟨hn _ _ _ (N' _ (.head _)).1, fun b o e => F'.keep b o (st b o e), F.above⟩ fun q hq => ⟨(N' q (.tail _ hq)).1, ne q hq, fresh_of_stays st (N' q (.tail _ hq)).2.2⟩
/-- the caller's frame beside its ledger: all stand, and the written part is not among them -/
theorem with_loc {h : Heap} {oL : Obj} (N : News h₀ L h news) (hL : h.get? L = some oL) : ∀ q ∈ (L, oL) :: news, h.get? q.1 = some q.2 :=
  List.forall_mem_cons.mpr ⟨hL, fun q hq => (N q hq).1⟩
theorem with_stays {h : Heap} {oL : Obj} (F : Fr h₀ L h m) (N : News h₀ L h news) : h₀.StaysIn (hideAll h (((L, oL) :: news).map (·.1))) := fun b o e => by
  refine hideAll_get _ (F.keep b o e) fun q => ?_
  obtain ⟨z, hz, rfl⟩ := List.mem_map.mp q
  rcases List.mem_cons.mp hz with rfl | hz
  · exact Nat.lt_irrefl _ (Nat.lt_of_lt_of_le (Heap.lt_size e) F.above)
  · exact absurd ((N z hz).2.2.symm.trans e) nofun
theorem enterX {env : Env} {outer : List Env} {R : Result → Shared → Prop} {name qual : Str} {params : Arguments} {body : List Stmt} {scope : Scope} {dV kV doc pm cdv ct oc : Value} {an od : Option Addr} {osl : Array (Option Value)} {f : Addr} {args : Args} {binds : List (Str × Value)}
    (F : Fr h₀ L s.heap m) (X₀ : K.In h₀) (N : News h₀ L s.heap news) (T : Top p loose mean mg mb h₀) (_hA : A.frames = some (env :: outer)) (_hf : env.frame = some L)
    (ho : K.lookup f = some ⟨oc, od, .func (fnOf name qual params body scope dV kV doc pm an cdv ct), osl⟩) (hcd : codeIn K cdv qual = true) (hroom : A.depth < recursionLimit)
    (hbind : BindsTo s (fnOf name qual params body scope dV kV doc pm an cdv ct) args binds) (hloc : ∀ y ∈ binds, scope.names.lookup y.1 = some .local)
    (h : ∀ g L' h₁ oL, h₀.StaysIn g → IsLoc oL m → Fr g L' h₁ (fun y => binds.reverse.lookup y) → News g L' h₁ ((L, oL) :: news) → K.In g → Top p loose mean mg mb g → (∀ q ∈ (L, oL) :: news, q.1 < L') →
      wpAny (model prog w) (A.deeper (envOf qual scope L' f cdv)) (execs body (envOf qual scope L' f cdv))
        (fun fl s' => LeaveY h₀ L oL m R (match fl with | .ret v => v | _ => .none) s')
        (fun e s' => wpAny (model prog w) (A.deeper (envOf qual scope L' f cdv)) (leaving (envOf qual scope L' f cdv) e) (fun _ s'' => R (.error e) s'') (fun e' s'' => R (.error e') s'') s')
        { s with heap := h₁, toks := s.toks + binds.length })
    (hco : scope.isCoroutine = false) (hgen : scope.isGenerator = false) (hk : scope.kind = .function)
    (hcell : ∀ x ∈ scope.names, x.2 ≠ .cell) : codeAny (model prog w) A (.call (.ref f) args) R s := by
  obtain ⟨oL, hL, hl⟩ := isLoc_of F
  have X := X₀.keeps F.keep
  have N₁ := with_loc N hL
  exact enterD (fd := fnOf name qual params body scope dV kV doc pm an cdv ct) N₁ (T.nolimit.keeps F.keep) hroom (X _ _ ho) rfl (codeRec_of X hcd) rfl hbind hcell hloc hco hgen hk (fun _ _ z => leaveY_back F hl z)
    fun h₁ F₁ N₂ => h _ _ h₁ oL (with_stays F N) hl F₁ N₂ (X₀.keeps (with_stays F N)) (T.keeps (with_stays F N)) fun q hq => Heap.lt_size (N₁ q hq)
end
end Mine
end
/-! part X1 -/
section
open PySem PySem.W PyProof.Rows PySem.Calls
set_option maxRecDepth 100000
namespace Mine
/-- e stands with all but its fields as in o, its first field a0, and its last traceback entry T tells fl -/
def TrE (h base : Heap) (e : Addr) (o : Obj) (a0 fl : Value) : Prop :=
  ∃ vs T oT ts, h.get? e = some { o with data := .fields vs } ∧ vs[0]? = some a0 ∧ vs[1]? = some (.ref T) ∧ base.get? T = none ∧ T ≠ e ∧ h.get? T = some oT ∧ oT.data = .fields ts ∧ ts[3]? = some fl
def NtE (base : Heap) (l : List Env) (e : Addr) (o : Obj) (a0 fl : Value) (h h' : Heap) : Prop :=
  base.StaysIn h' ∧ h'.FunFrames base l ∧ TrE h' base e o a0 fl ∧ h.UpToSlots h'
section
variable {M : Model} {A : Around} {E : Value → Shared → Prop} {s : Shared} {base : Heap} {env : Env} {outer : List Env} {L e : Addr} {o : Obj} {vs : Array Value} {a0 head fl : Value} {Q : Unit → Shared → Prop}
theorem entryE {hadNext : Bool} (hfr : A.frames = some (env :: outer)) (hl : s.heap.FunFrames base (env :: outer)) (hf : env.frame = some L)
    (he : s.heap.get? e = some { o with data := .fields vs }) (h0 : vs[0]? = some a0) (hsz : 1 < vs.size) (hkb : base.StaysIn s.heap) (hen : base.get? e = none)
    (k : ∀ h', NtE base (env :: outer) e o a0 (rawInt L) s.heap h' → Q () { s with heap := h' }) :
    wpAny M A (do let a ← frameOf env; let pl ← entryPlaceOf L hadNext; let b ← EntryCells.newEntry head a .none (rawInt L) .none pl; setField (.ref e) 1 b) Q E s := by
  have apart : ∀ b x, s.heap.get? b = some x → (∀ ws, x.data ≠ .fields ws) → b ≠ e := fun b x hb hx q => by
    rw [q, he] at hb
    cases hb
    exact hx _ rfl
  have off : e ∉ (env :: outer).filterMap (·.frame) := fun hm => by
    obtain ⟨_, x, hx, hd⟩ := hl.mem hm
    exact apart e x hx hd rfl
  refine wpAny_bind (wpAny_frameOf_fun hfr hl hf fun h₁ ss => ?_)
  have he₁ : h₁.get? e = some { o with data := .fields vs } := (ss.2.1 e off).trans he
  have st₁ : base.StaysIn h₁ := fun b x hb => (ss.2.1 b fun hm => by rw [(hl.mem hm).1] at hb; cases hb).trans (hkb b x hb)
  refine wpAny_bind (wpAny_entryPlaceOf fun pl hpl => ?_)
  unfold EntryCells.newEntry newFields
  refine wpAny_bind (wpAny_newObj_type ?_ (hpl.sizeOk5 _ _ _ _ _))
  generalize hT : ({ cls := .type "traceback", dict := none, data := .fields ([head, .ref L, .none, rawInt L, .none] ++ (if pl.isEmpty then List.replicate 6 Value.none else pl)).toArray } : Obj) = oT
  have hTd : oT.data = .fields ([head, .ref L, .none, rawInt L, .none] ++ (if pl.isEmpty then List.replicate 6 Value.none else pl)).toArray := by rw [← hT]
  have hT3 : ([head, .ref L, .none, rawInt L, .none] ++ (if pl.isEmpty then List.replicate 6 Value.none else pl)).toArray[3]? = some (rawInt L) := by simp
  have he₂ := Heap.get?_push_of_some (h := h₁) oT he₁
  refine wpAny_setField he₂ rfl hsz (k _ ?_)
  have new : h₁.objs.size ≠ e := Nat.ne_of_gt (Heap.lt_size he₁)
  have keep : ∀ b x, b ≠ e → h₁.get? b = some x → ((h₁.push oT).update e (Obj.mapFields (·.setIfInBounds 1 (Value.ref h₁.objs.size)))).get? b = some x := fun b x hb hx => by
    rw [Heap.get?_update_other _ _ (Ne.symm hb)]
    exact Heap.get?_push_of_some _ hx
  refine ⟨fun b x hb => keep b x (fun q => by rw [q, hen] at hb; cases hb) (st₁ b x hb), hl.of_keeps fun b x hb hx => ?_, ?_, fun b x hb hx => ?_⟩
  · obtain ⟨sl, hs⟩ := ss.2.2 b x hb
    exact ⟨_, keep b _ (apart b x hb hx) hs, rfl⟩
  · refine ⟨vs.setIfInBounds 1 (.ref h₁.objs.size), h₁.objs.size, oT, _, ?_, ?_, ?_, st₁.fresh, new, ?_, hTd, hT3⟩
    · exact Heap.get?_update_self _ he₂ rfl
    · rw [Array.getElem?_setIfInBounds_ne (by decide)]; exact h0
    · simp [hsz]
    · rw [Heap.get?_update_other _ _ (Ne.symm new)]
      exact Heap.get?_push_size h₁ (by rw [← hT]; rfl)
  · obtain ⟨sl, hs⟩ := ss.2.2 b x hb
    exact ⟨sl, keep b _ (apart b x hb hx) hs⟩

theorem noteE1 (hfr : A.frames = some (env :: outer)) (hl : s.heap.FunFrames base (env :: outer)) (hf : env.frame = some L)
    (he : s.heap.get? e = some { o with data := .fields vs }) (h0 : vs[0]? = some a0) (h1 : vs[1]? = some .none) (hkb : base.StaysIn s.heap) (hen : base.get? e = none)
    (k : ∀ h', NtE base (env :: outer) e o a0 (rawInt L) s.heap h' → Q () { s with heap := h' }) : wpAny M A (noteFrame (.ref e) env) Q E s := by
  unfold noteFrame
  simp only [hf]
  refine wpAny_bind (wpAny_field he rfl h1 ?_)
  rw [if_neg (by decide)]
  exact entryE hfr hl hf he h0 (Array.getElem?_eq_some_iff.mp h1).1 hkb hen k
theorem noteE2 (hfr : A.frames = some (env :: outer)) (hl : s.heap.FunFrames base (env :: outer)) (hf : env.frame = some L)
    (ht : TrE s.heap base e o a0 .none) (hkb : base.StaysIn s.heap) (hen : base.get? e = none)
    (k : ∀ h', NtE base (env :: outer) e o a0 (rawInt L) s.heap h' → Q () { s with heap := h' }) : wpAny M A (noteFrame (.ref e) env) Q E s := by
  obtain ⟨vs, T, oT, ts, he, h0, h1, hnT, hTe, hT, hTd, h3⟩ := ht
  unfold noteFrame
  simp only [hf]
  refine wpAny_bind (wpAny_field he rfl h1 ?_)
  rw [if_pos (show (Value.ref T != Value.none) = true from by simp)]
  refine wpAny_bind (wpAny_field hT hTd h3 ?_)
  rw [if_neg (show ¬ ((Value.none == rawInt L) = true) from by simp [rawInt])]
  refine wpAny_bind (wpAny_setField hT hTd (Array.getElem?_eq_some_iff.mp h3).1 ?_)
  have other : ∀ b, b ≠ T → (s.heap.update T (Obj.mapFields (·.setIfInBounds 3 Value.none))).get? b = s.heap.get? b := fun b hb => Heap.get?_update_other _ _ (Ne.symm hb)
  have apart : ∀ b x, s.heap.get? b = some x → (∀ ws, x.data ≠ .fields ws) → b ≠ T := fun b x hb hx q => by
    rw [q, hT] at hb
    cases hb
    exact hx _ hTd
  refine entryE hfr (hl.of_keeps fun b x hb hx => ⟨x, (other b (apart b x hb hx)).trans hb, rfl⟩) hf ((other e (Ne.symm hTe)).trans he) h0 (Array.getElem?_eq_some_iff.mp h1).1
    (fun b x hb => (other b fun q => by rw [q, hnT] at hb; cases hb).trans (hkb b x hb)) hen fun h' z => k h' ⟨z.1, z.2.1, z.2.2.1, fun b x hb hx => z.2.2.2 b x ((other b (apart b x hb hx)).trans hb) hx⟩
theorem landE {l : List Env} (hl : s.heap.FunFrames base l) (ht : TrE s.heap base e o a0 fl) (hkb : base.StaysIn s.heap)
    (k : ∀ h', NtE base l e o a0 .none s.heap h' → Q () { s with heap := h' }) : wpAny M A (setFlight (.ref e) none) Q E s := by
  obtain ⟨vs, T, oT, ts, he, h0, h1, hnT, hTe, hT, hTd, h3⟩ := ht
  have hsz := (Array.getElem?_eq_some_iff.mp h3).1
  have other : ∀ b, b ≠ T → (s.heap.update T (Obj.mapFields (·.setIfInBounds 3 ((none : Option Addr).elim Value.none fun f => rawInt f)))).get? b = s.heap.get? b := fun b hb => Heap.get?_update_other _ _ (Ne.symm hb)
  have apart : ∀ b x, s.heap.get? b = some x → (∀ ws, x.data ≠ .fields ws) → b ≠ T := fun b x hb hx q => by
    rw [q, hT] at hb
    cases hb
    exact hx _ hTd
  unfold setFlight
  refine wpAny_bind (wpAny_field he rfl h1 ?_)
  rw [if_pos (show (Value.ref T != Value.none) = true from by simp)]
  refine wpAny_setField hT hTd hsz (k _ ⟨fun b x hb => (other b fun q => by rw [q, hnT] at hb; cases hb).trans (hkb b x hb), hl.of_keeps fun b x hb hx => ⟨x, (other b (apart b x hb hx)).trans hb, rfl⟩, ?_,
    fun b x hb hx => ⟨x.slots, (other b (apart b x hb hx)).trans hb⟩⟩)
  exact ⟨vs, T, _, _, (other e (Ne.symm hTe)).trans he, h0, h1, hnT, hTe, Heap.get?_update_self _ hT (Obj.isFreed_of_fields (Obj.data_mapFields hTd _)), Obj.data_mapFields hTd _, by simp [hsz]⟩
theorem NtE.trans {h h₁ h₂ : Heap} {l : List Env} {f₁ f₂ : Value} (x : NtE base l e o a0 f₁ h h₁) (y : NtE base l e o a0 f₂ h₁ h₂) : NtE base l e o a0 f₂ h h₂ := ⟨y.1, y.2.1, y.2.2.1, x.2.2.2.trans y.2.2.2⟩
theorem leaveE (hfr : A.frames = some (env :: outer)) (hl : s.heap.FunFrames base (env :: outer)) (hf : env.frame = some L)
    (he : s.heap.get? e = some { o with data := .fields vs }) (h0 : vs[0]? = some a0) (h1 : vs[1]? = some .none) (hkb : base.StaysIn s.heap) (hen : base.get? e = none)
    (k : ∀ h', NtE base (env :: outer) e o a0 .none s.heap h' → Q () { s with heap := h' }) : wpAny M A (leaving env (.ref e)) Q E s := by
  unfold leaving
  exact wpAny_bind (noteE1 hfr hl hf he h0 h1 hkb hen fun h₁ z => landE (s := { s with heap := h₁ }) z.2.1 z.2.2.1 z.1 fun h₂ y => k h₂ (z.trans y))
end
end Mine
end
/-! part X2 -/
section
open PySem PySem.W PyProof.Rows PySem.Calls
set_option maxRecDepth 100000
set_option maxHeartbeats 4000000
namespace Mine
/-- the frames below, each a written object -/
def FrIn : List Env → List (Addr × Obj) → Prop
  | [], [] => True
  | env :: r, p :: q => (env.scope.kind ≠ .module ∧ env.frame = some p.1 ∧ ∀ vs, p.2.data ≠ .fields vs) ∧ FrIn r q
  | _, _ => False
theorem funFrames_of {h base : Heap} : ∀ {l : List Env} {fr : List (Addr × Obj)}, FrIn l fr → (∀ p ∈ fr, h.get? p.1 = some p.2) → (∀ p ∈ fr, base.get? p.1 = none) → h.FunFrames base l
  | [], _, _, _, _ => trivial
  | _ :: _, [], z, _, _ => z.elim
  | _ :: _, p :: _, z, a, b => ⟨z.1.1, ⟨p.1, p.2, z.1.2.1, b _ (.head _), a _ (.head _), z.1.2.2⟩, funFrames_of z.2 (fun q hq => a q (.tail _ hq)) fun q hq => b q (.tail _ hq)⟩
theorem FrIn.data : ∀ {l : List Env} {fr : List (Addr × Obj)}, FrIn l fr → ∀ p ∈ fr, ∀ vs, p.2.data ≠ .fields vs
  | [], [], _, _, hp, _ => nomatch hp
  | [], _ :: _, z, _, _, _ => z.elim
  | _ :: _, [], z, _, _, _ => z.elim
  | _ :: _, _ :: _, z, _, .head _, vs => z.1.2.2 vs
  | _ :: _, _ :: _, z, p, .tail _ hp, vs => z.2.data p hp vs
/-- e flies: what stands exactly (g, rest), and the frames up to their slots -/
def Fly (g : Heap) (l : List Env) (fr rest : List (Addr × Obj)) (e : Addr) (o : Obj) (a0 fl : Value) (h : Heap) : Prop :=
  ∃ B, B.StaysIn h ∧ B.get? e = none ∧ h.FunFrames B l ∧ TrE h B e o a0 fl ∧ g.StaysIn B ∧ (∀ p ∈ rest, B.get? p.1 = some p.2) ∧ (∀ p ∈ fr, ∃ sl, h.get? p.1 = some { p.2 with slots := sl }) ∧ ∀ p ∈ fr, ∀ vs, p.2.data ≠ .fields vs
section
variable {M : Model} {A : Around} {E : Value → Shared → Prop} {s : Shared} {g : Heap} {env : Env} {outer : List Env} {fr rest news : List (Addr × Obj)} {L e : Addr} {o : Obj} {vs : Array Value} {a0 fl : Value} {m : Str → Option Value} {Q : Unit → Shared → Prop}
theorem fly_up {h : Heap} {f₂ : Value} {l : List Env} {h' B : Heap} (hd : ∀ p ∈ fr, ∀ vs, p.2.data ≠ .fields vs) (hf : ∀ p ∈ fr, ∃ sl, h.get? p.1 = some { p.2 with slots := sl }) (gB : g.StaysIn B) (rB : ∀ p ∈ rest, B.get? p.1 = some p.2) (eB : B.get? e = none)
    (z : NtE B l e o a0 f₂ h h') : Fly g l fr rest e o a0 f₂ h' :=
  ⟨B, z.1, eB, z.2.1, z.2.2.1, gB, rB, fun p hp => by
    obtain ⟨sl, hs⟩ := hf p hp
    exact z.2.2.2 p.1 { p.2 with slots := sl } hs (hd p hp), hd⟩
theorem fly_note (hfr : A.frames = some (env :: outer)) (hf : env.frame = some L) (z : Fly g (env :: outer) fr rest e o a0 .none s.heap)
    (k : ∀ h', Fly g (env :: outer) fr rest e o a0 (rawInt L) h' → Q () { s with heap := h' }) : wpAny M A (noteFrame (.ref e) env) Q E s := by
  obtain ⟨B, z1, z2, z3, z4, z5, z6, z7, z8⟩ := z
  exact noteE2 hfr z3 hf z4 z1 z2 fun h' y => k h' (fly_up z8 z7 z5 z6 z2 y)
theorem fly_land {l : List Env} (z : Fly g l fr rest e o a0 fl s.heap)
    (k : ∀ h', Fly g l fr rest e o a0 .none h' → Q () { s with heap := h' }) : wpAny M A (setFlight (.ref e) none) Q E s := by
  obtain ⟨B, z1, z2, z3, z4, z5, z6, z7, z8⟩ := z
  exact landE z3 z4 z1 fun h' y => k h' (fly_up z8 z7 z5 z6 z2 y)
/-- the exception leaves the frame that made it -/
theorem fly_leave (hfr : A.frames = some (env :: outer)) (hf : env.frame = some L) (hke : env.scope.kind ≠ .module) (F : Fr g L s.heap m) (N : News g L s.heap news) (hO : FrIn outer fr)
    (h1 : ∀ p ∈ fr, p ∈ news) (h2 : ∀ p ∈ rest, p ∈ news) (h3 : (e, ({ o with data := .fields vs } : Obj)) ∈ news) (d1 : ∀ p ∈ rest, p.1 ≠ e ∧ ∀ q ∈ fr, p.1 ≠ q.1)
    (v0 : vs[0]? = some a0) (v1 : vs[1]? = some .none)
    (k : ∀ h', Fly g outer fr rest e o a0 .none h' → Q () { s with heap := h' }) : wpAny M A (leaving env (.ref e)) Q E s := by
  obtain ⟨oL, hL, hl⟩ := isLoc_of F
  obtain ⟨es, ep, hd, _⟩ := hl
  have nL : g.get? L = none := by
    cases q : g.get? L with
    | none => rfl
    | some o => exact absurd (Nat.lt_of_lt_of_le (Heap.lt_size q) F.above) (Nat.lt_irrefl _)
  let hid : List Addr := e :: L :: fr.map (·.1)
  have gB : g.StaysIn (hideAll s.heap hid) := fun b x hb => hideAll_get _ (F.keep b x hb) fun hm => by
    rcases List.mem_cons.mp hm with rfl | hm
    · rw [(N _ h3).2.2] at hb; cases hb
    · rcases List.mem_cons.mp hm with rfl | hm
      · rw [nL] at hb; cases hb
      · obtain ⟨q, hq, rfl⟩ := List.mem_map.mp hm
        rw [(N q (h1 q hq)).2.2] at hb; cases hb
  have rB : ∀ p ∈ rest, (hideAll s.heap hid).get? p.1 = some p.2 := fun p hp => hideAll_get _ (N p (h2 p hp)).1 fun hm => by
    rcases List.mem_cons.mp hm with z | hm
    · exact (d1 p hp).1 z
    · rcases List.mem_cons.mp hm with z | hm
      · exact (N p (h2 p hp)).2.1 z
      · obtain ⟨q, hq, z⟩ := List.mem_map.mp hm
        exact (d1 p hp).2 q hq z.symm
  have eB : (hideAll s.heap hid).get? e = none := hideAll_none _ (.head _)
  have ff : s.heap.FunFrames (hideAll s.heap hid) (env :: outer) := ⟨hke, ⟨L, oL, hf, hideAll_none _ (.tail _ (.head _)), hL, fun vs q => by rw [hd] at q; cases q⟩,
    funFrames_of hO (fun p hp => (N p (h1 p hp)).1) fun p hp => hideAll_none _ (.tail _ (.tail _ (List.mem_map_of_mem hp)))⟩
  refine leaveE hfr ff hf (N _ h3).1 v0 v1 (fun b x hb => of_hideAll _ hb) eB fun h' z => k h' ?_
  have w := fly_up (fr := fr) (rest := rest) hO.data (fun p hp => ⟨p.2.slots, (N p (h1 p hp)).1⟩) gB rB eB z
  obtain ⟨B, z1, z2, z3, z4, z5, z6, z7, z8⟩ := w
  exact ⟨B, z1, z2, z3.2.2, z4, z5, z6, z7, z8⟩
end
end Mine
end
/-! part X3 -/
section
open PySem PySem.W PyProof.Rows PySem.Calls
set_option maxRecDepth 100000
set_option maxHeartbeats 4000000
namespace Mine
def RaiseBack (w : World) (E : Value → Shared → Prop) (v : Value) (s₁ : Shared) : Prop :=
  ∃ e dx t sl, v = .ref e ∧ (hd.heap_39 w.params).In s₁.heap ∧ s₁.heap.get? e = some { cls := .ref 44, dict := dx, data := .fields #[.ref t, .none, .none, .none, .bool false, .none], slots := sl } ∧ E (.ref e) s₁
section
variable {w : World} {A : Around} {E : Value → Shared → Prop} {s : Shared} {env : Env}
theorem raiseStmtE {x : Sem Value} {Q : Flow → Shared → Prop} (hh : A.handled = none) (h : wpAny (model prg w) A x (RaiseBack w E) E s) : wpAny (model prg w) A (raiseStmt env (some x) none) Q E s := by
  unfold raiseStmt
  refine wpAny_bind (wpAny_mono h (fun v s₁ h₁ => ?_) fun _ _ x => x)
  obtain ⟨e, dx, t, sl, rfl, X, he, hE⟩ := h₁
  obtain ⟨hp, g, d, tk, os⟩ := s₁
  replace X : (hd.heap_39 w.params).In hp := X
  replace he : hp.get? e = _ := he
  have hC := tr_obj X
  have b1 := tr_bexc (w := w) X
  have b2 : Looks (model prg w) hp (typeOf (.ref e)) (.ref 44) := (Looks.ld he).andThen .now
  repeat (first | with_reducible exact wpAny_raiseNew_none hh hE | lk)
theorem raiseE {x : Expr} {pos : Pos} {Q : Flow → Shared → Prop} (hh : A.handled = none) (h : wpAny (model prg w) A (eval x env) (RaiseBack w E) E s) : wpAny (model prg w) A (exec (.Raise (some x) none pos) env) Q E s := by
  rw [arm_exec_Raise]
  exact wpAny_bind (wpAny_standAt (raiseStmtE hh (wpAny_bind (wpAny_mono h (fun v s₁ h₁ => wpAny_bind (wpAny_standAt (wpAny_pure h₁))) fun _ _ x => x))))
end
section
variable {w : World} {A : Around} {E : Value → Shared → Prop} {s : Shared}
theorem tr_ga (w : World) : findIn (hd.heap_39 w.params) (.ref 44) "__getattribute__" = some (some (.builtin "BaseException.__getattribute__")) := by kernel_rfl
theorem tr_gattr {h : Heap} (X : (hd.heap_39 w.params).In h) : Looks (model prg w) h (typeLookup (.ref 44) "__getattr__") none := looks_findIn X (by kernel_rfl)
theorem tr_find (w : World) (hs : Int) (tkw : Tok) (v : Value) : findObj (hd.heap_39 w.params) 44 (some (whyD hs tkw v)) (Str.ofString "why") = some (.value v) :=
  findObj_own (attr := none) (by kernel_rfl) (by kernel_rfl) (by kernel_rfl) (by kernel_rfl)
theorem exc_get {e : Addr} {oe : Obj} {hs : Int} {tkw : Tok} {v : Value} {expr : Bool} {Q : Value → Shared → Prop} (X : (hd.heap_39 w.params).In s.heap) (I : InstAt s.heap e oe 44 (some (whyD hs tkw v))) (hh : handedIn v = true)
    (h : Q v { s with toks := s.toks + 1 }) : wpAny (model prg w) A (getAttr (.ref e) (Str.ofString "why") expr) Q E s := by
  obtain ⟨hp, g, d, tk, os⟩ := s
  replace X : (hd.heap_39 w.params).In hp := X
  replace I : InstAt hp e oe 44 (some (whyD hs tkw v)) := I
  have L0 := I.type (M := model prg w)
  have L1 := looks_find (M := model prg w) X I (tr_find w hs tkw v)
  have L2 := looks_findIn (M := model prg w) X (tr_ga w)
  have L3 := tr_gattr (w := w) X
  unfold getAttr getAttrBy
  repeat (first | with_reducible refine wpAny_attempt ?_ | lk)
  rw [show (expr && onTheHeap (Value.builtin "BaseException.__getattribute__")) = false from by cases expr <;> rfl, if_neg (by decide)]
  unfold boundAndCalled
  rw [PySem.F.attr_Exception.ga.bind]
  refine wpAny_bind (wpAny_pure ?_)
  show wpAny _ _ (call (.builtin "BaseException.__getattribute__") [.ref e, .str (Str.ofString "why") tk]) _ _ _
  have sub : Looks (model prg w) hp (isInstance (.ref e) (.type "BaseException")) true := L0.andThen (tr_bexc X)
  refine wpAny_call (codeAny_call_builtin PySem.F.attr_Exception.ga.plain PySem.F.entry_bexc_ga (@check_slot (model prg w) _ _ ⟨hp, g, d, tk + 1, os⟩ "BaseException.__getattribute__" "BaseException" "__getattribute__" (.ref e) [.str (Str.ofString "why") tk] [] _ (by decide +kernel) (by decide +kernel) sub (PySem.F.args_bexc_ga (.ref e) (.str (Str.ofString "why") tk)) ?_))
  have L4 : Looks (model prg w) hp (handedOut v) v := Looks.of_pure (handedOut_of hh)
  repeat lk
  exact h
end
end Mine
end
/-! part X4 -/
section
open PySem PySem.W PyProof.Rows PySem.Calls
set_option maxRecDepth 100000
set_option maxHeartbeats 4000000
namespace Mine
section
variable {w : World} {A₀ : Around} {E : Value → Shared → Prop} {s' : Shared} {h₂ gS : Heap} {outer : List Env} {Lv Ld Lw a e t dx : Addr} {oV oD oW : Obj} {m mg mb : Str → Option Value} {name : Str} {scope : Scope} {cd : Value}
  {n : Str} {b₀ : Stmt} {suite : List Stmt} {pos np : Pos} {hs : List ExceptHandler} {Q : Flow → Shared → Prop} {rest : List (Addr × Obj)} {fl a0 : Value} {o : Obj} {p : Program} {loose : List Str}
theorem fly_ground {l : List Env} {h : Heap} (z : Fly gS l [(Lv, oV), (Ld, oD), (Lw, oW)] rest e o a0 fl h) (G : h₂.StaysIn gS) (hl : IsLoc oV m) (ha : h₂.objs.size ≤ Lv) : Fr h₂ Lv h m := by
  obtain ⟨B, z1, z2, z3, z4, z5, z6, z7, z8⟩ := z
  obtain ⟨sl, hsl⟩ := z7 _ (.head _)
  obtain ⟨es, ep, hd, hn⟩ := hl
  exact ⟨hn _ _ _ hsl, fun b x hb => z1 b x (z5 b x (G b x hb)), ha⟩
theorem fly_news {l : List Env} {h : Heap} (z : Fly gS l [(Lv, oV), (Ld, oD), (Lw, oW)] rest e o a0 fl h) (G : h₂.StaysIn gS)
    (hn : ∀ p ∈ (e, o) :: (Ld, oD) :: (Lw, oW) :: rest, p.1 ≠ Lv ∧ gS.get? p.1 = none) :
    ∃ ws sd sw, News h₂ Lv h ((e, { o with data := .fields ws }) :: (Ld, { oD with slots := sd }) :: (Lw, { oW with slots := sw }) :: rest) := by
  obtain ⟨B, z1, z2, z3, z4, z5, z6, z7, z8⟩ := z
  obtain ⟨sd, hsd⟩ := z7 (Ld, oD) (.tail _ (.head _))
  obtain ⟨sw, hsw⟩ := z7 (Lw, oW) (.tail _ (.tail _ (.head _)))
  obtain ⟨ws, T, oT, ts, he, _⟩ := z4
  refine ⟨ws, sd, sw, List.forall_mem_cons.mpr ⟨⟨he, (hn (e, o) (.head _)).1, fresh_of_stays G (hn (e, o) (.head _)).2⟩, List.forall_mem_cons.mpr ⟨⟨hsd, (hn (Ld, oD) (.tail _ (.head _))).1, fresh_of_stays G (hn (Ld, oD) (.tail _ (.head _))).2⟩,
    List.forall_mem_cons.mpr ⟨⟨hsw, (hn (Lw, oW) (.tail _ (.tail _ (.head _)))).1, fresh_of_stays G (hn (Lw, oW) (.tail _ (.tail _ (.head _)))).2⟩, fun q hq => ?_⟩⟩⟩⟩
  have w := hn q (.tail _ (.tail _ (.tail _ hq)))
  exact ⟨z1 _ _ (z6 q hq), w.1, fresh_of_stays G w.2⟩
theorem tr_exc_kts (w : World) : ktsIn (hd.heap_39 w.params) 44 "BaseException" = true := by kernel_rfl
theorem caughtE (hA : A₀.frames = some outer) (z : Fly gS (envOf name scope Lv a cd :: outer) [(Lv, oV), (Ld, oD), (Lw, oW)] rest e (excObjD t dx) (.ref t) .none s'.heap)
    (G : h₂.StaysIn gS) (hl : IsLoc oV m) (ha : h₂.objs.size ≤ Lv) (X₂ : (hd.heap_39 w.params).In h₂) (T₂ : TopRead p loose mg mb h₂)
    (hn : ∀ p ∈ (e, excObjD t dx) :: (Ld, oD) :: (Lw, oW) :: rest, p.1 ≠ Lv ∧ gS.get? p.1 = none)
    (k : ∀ h' tk ws sd sw, Fr h₂ Lv h' (fun y => if y = n then some (.ref e) else m y) → News h₂ Lv h' ((e, ({ cls := .ref 44, dict := some dx, data := .fields ws } : Obj)) :: (Ld, { oD with slots := sd }) :: (Lw, { oW with slots := sw }) :: rest) →
      wpAny (model prg w) ((A₀.deeper (envOf name scope Lv a cd)).mark (some (.ref e))) (execs (b₀ :: suite) (envOf name scope Lv a cd))
        (fun f s₄ => wpAny (model prg w) (A₀.deeper (envOf name scope Lv a cd)) (do bindName (envOf name scope Lv a cd) n .none; unbindBehindTheSuite (envOf name scope Lv a cd) n pos) (fun _ s₅ => Q f s₅) E s₄)
        (AsSuiteRaised (model prg w) ((A₀.deeper (envOf name scope Lv a cd)).mark (some (.ref e))) (envOf name scope Lv a cd) n pos (notedBy (model prg w) ((A₀.deeper (envOf name scope Lv a cd)).mark (some (.ref e))) (envOf name scope Lv a cd) (cameBackBy (model prg w) (A₀.deeper (envOf name scope Lv a cd)) (envOf name scope Lv a cd) E)))
        { s' with heap := h', toks := tk })
    (hk : scope.kind = .function := by rfl) (hlo : (envOf name scope Lv a cd).kindOf n = some .local := by rfl) (hx : (envOf name scope Lv a cd).kindOf (Str.ofString "Trap") = some .globalImplicit := by rfl) :
    wpAny (model prg w) (A₀.deeper (envOf name scope Lv a cd)) (noteFrame (.ref e) (envOf name scope Lv a cd))
      (fun _ s₂ => wpAny (model prg w) (A₀.deeper (envOf name scope Lv a cd)) (setFlight (.ref e) none) (fun _ s₃ =>
        wpAny (model prg w) (A₀.deeper (envOf name scope Lv a cd)) (handleBy (.ref e) (envOf name scope Lv a cd) (.ExceptHandler (some (.Name (Str.ofString "Trap") np)) (some n) (b₀ :: suite) pos :: hs)) Q E s₃) E s₂) E s' := by
  refine fly_note (Around.frames_deeper hA) rfl z fun h₄ z₄ => ?_
  refine fly_land (s := { s' with heap := h₄ }) z₄ fun h₅ z₅ => ?_
  have F₅ := fly_ground z₅ G hl ha
  have hC₅ := F₅.keep _ _ (tr_obj X₂)
  obtain ⟨ws₅, sd₅, sw₅, N₅⟩ := fly_news z₅ G hn
  have he₅ := (N₅ _ (.head _)).1
  refine wpAny_handleBy_cons (codeAny_handlers_test (name_K (s := { s' with heap := h₅ }) F₅ X₂ T₂ (by kernel_rfl : nsIn (hd.heap_39 w.params) mainGlobals (Str.ofString "Trap") = some (some (.ref 44))) ?_ hk hx (by decide))) (by intro q; cases q)
  refine wpAny_excMatches_sub_self (bm := [.ref 31, .type "Exception", .type "BaseException", .type "object"]) hC₅ he₅ rfl (by decide) (codeAny_handlers_suite_as ?_)
  refine fly_land (s := { s' with heap := h₅ }) z₅ fun h₆ z₆ => ?_
  have F₆ := fly_ground z₆ G hl ha
  obtain ⟨ws, sd, sw, N₆⟩ := fly_news z₆ G hn
  refine stN (s := { s' with heap := h₆ }) F₆ N₆ (fun h₇ F₇ N₇ => ?_) hk hlo
  exact k h₇ _ ws sd sw F₇ N₇
end
end Mine
end
/-! part X5 -/
section
open PySem PySem.W PyProof.Rows PySem.Calls
set_option maxRecDepth 100000
set_option maxHeartbeats 4000000
namespace Mine
section
variable {w : World} {A : Around} {E : Value → Shared → Prop} {s s' : Shared} {h₀ hs g g' : Heap} {L L' Lv Ld Lw a e t dx D : Addr} {oL oV oD oW : Obj} {m m' mv md mw : Str → Option Value} {news rest : List (Addr × Obj)} {wd tup : Obj}
theorem RaiseBack.of (F : Fr h₀ L s.heap m) (X : (hd.heap_39 w.params).In h₀) (N : News h₀ L s.heap news) (hm : (e, excObjD t dx) ∈ news) (h : E (.ref e) s) : RaiseBack w E (.ref e) s :=
  ⟨e, some dx, t, _, rfl, X.keeps F.keep, (N _ hm).1, h⟩
theorem exc_getN {hs : Int} {tkw : Tok} {v : Value} {ws : Array Value} {expr : Bool} {Q : Value → Shared → Prop} (F : Fr h₀ L s.heap m) (X : (hd.heap_39 w.params).In h₀) (N : News h₀ L s.heap news)
    (h1 : (e, ({ cls := .ref 44, dict := some dx, data := .fields ws } : Obj)) ∈ news) (h2 : (dx, whyD hs tkw v) ∈ news) (hh : handedIn v = true)
    (h : Q v { s with toks := s.toks + 1 }) : wpAny (model prg w) A (getAttr (.ref e) (Str.ofString "why") expr) Q E s :=
  exc_get (X.keeps F.keep) ⟨(N _ h1).1, rfl, rfl, (N _ h2).1⟩ hh h
theorem LeaveY.back {R : Result → Shared → Prop} {v : Value} {news' : List (Addr × Obj)} {sl : Array (Option Value)} (st : h₀.StaysIn g') (F : Fr g' L' s'.heap m') (N : News g' L' s'.heap news) (lt : ∀ p ∈ news', p.1 < L)
    (h1 : (L, { oL with slots := sl }) ∈ news) (h2 : ∀ p ∈ news', p ∈ news) (k : Fr h₀ L s'.heap m → News h₀ L s'.heap news' → R (.ok (.ret v)) s') : LeaveY h₀ L oL m R v s' :=
  ⟨g', L', m', news', sl, st, F, cb_drop N (List.forall_mem_cons.mpr ⟨h1, h2⟩), fun p hp => Nat.ne_of_lt (lt p hp), k⟩
theorem seq_not_loc {o : Obj} (h : IsLoc o m) {xs : Array Value} {n : Nat} (e : o.data = .seq xs n) : False := by
  obtain ⟨es, ep, hd, _⟩ := h
  rw [e] at hd; cases hd
theorem LeaveY.told {R : Result → Shared → Prop} {vs : List Value} {sl sw : Array (Option Value)} (st : h₀.StaysIn g') (F : Fr g' L' s'.heap m') (N : News g' L' s'.heap news) (hN : News h₀ L hs ((Lw, oW) :: rest)) (hL : IsLoc oL m)
    (h1 : (L, { oL with slots := sl }) ∈ news) (h2 : (D, tupObj vs) ∈ news) (h3 : (Lw, { oW with slots := sw }) ∈ news) (h4 : ∀ p ∈ rest, p ∈ news)
    (lt : ∀ p ∈ (Lw, { oW with slots := sw }) :: rest, p.1 < D)
    (k : Fr h₀ L s'.heap m → News h₀ L s'.heap ((D, tupObj vs) :: (Lw, { oW with slots := sw }) :: rest) → (∀ p ∈ (Lw, { oW with slots := sw }) :: rest, p.1 < D) → R (.ok (.ret (.ref D))) s') : LeaveY h₀ L oL m R (.ref D) s' := by
  have apart : ∀ {b : Addr} {o : Obj} {mb : Str → Option Value} {sl : Array (Option Value)}, IsLoc o mb → (b, ({ o with slots := sl } : Obj)) ∈ news → D ≠ b := fun {b o mb sl} q hm z => by
    subst z
    have := (N _ h2).1
    rw [(N _ hm).1] at this
    exact seq_not_loc q (congrArg Obj.data (Option.some.inj this))
  refine ⟨g', L', m', (D, tupObj vs) :: (Lw, { oW with slots := sw }) :: rest, sl, st, F, cb_drop N (List.forall_mem_cons.mpr ⟨h1, List.forall_mem_cons.mpr ⟨h2, List.forall_mem_cons.mpr ⟨h3, h4⟩⟩⟩), ?_, fun a b => k a b lt⟩
  refine List.forall_mem_cons.mpr ⟨apart hL h1, List.forall_mem_cons.mpr ⟨(hN _ (.head _)).2.1, fun p hp => (hN p (.tail _ hp)).2.1⟩⟩
/-- the exception leaves the frame that made it; below: divided, divisions, law -/
theorem fly3 {env envV envD envW : Env} {Q : Unit → Shared → Prop} (hfr : A.frames = some [env, envV, envD, envW]) (hf : env.frame = some L) (hke : env.scope.kind ≠ .module) (F : Fr g L s.heap m)
    (N : News g L s.heap ((dx, wd) :: (t, tup) :: (e, excObjD t dx) :: news)) (hO : FrIn [envW] [(Lw, oW)]) (hV : IsLoc oV mv) (hD : IsLoc oD md) (lV : ∀ q ∈ (Ld, oD) :: (Lw, oW) :: rest, q.1 < Lv) (hN : News h₀ Ld hs ((Lw, oW) :: rest)) (hne : ∀ p ∈ rest, p.1 ≠ Lw)
    (l1 : ∀ p ∈ news, p.1 < e) (l2 : e < t) (l3 : t < dx) (hm : ∀ p ∈ (Lv, oV) :: (Ld, oD) :: (Lw, oW) :: rest, p ∈ news)
    (v1 : envV.scope.kind ≠ .module) (v2 : envV.frame = some Lv) (d1 : envD.scope.kind ≠ .module) (d2 : envD.frame = some Ld)
    (k : ∀ h', Fly g [envV, envD, envW] [(Lv, oV), (Ld, oD), (Lw, oW)] ((dx, wd) :: (t, tup) :: rest) e (excObjD t dx) (.ref t) .none h' →
      (∀ p ∈ (e, excObjD t dx) :: (Ld, oD) :: (Lw, oW) :: (dx, wd) :: (t, tup) :: rest, p.1 ≠ Lv ∧ g.get? p.1 = none) → Q () { s with heap := h' }) : wpAny (model prg w) A (leaving env (.ref e)) Q E s := by
  obtain ⟨es, ep, hv, _⟩ := hV
  obtain ⟨es', ep', hd', _⟩ := hD
  have eV : Lv < e := l1 _ (hm _ (.head _))
  have eD : Ld < e := l1 _ (hm _ (.tail _ (.head _)))
  have eW : Lw < e := l1 _ (hm _ (.tail _ (.tail _ (.head _))))
  have up : ∀ p ∈ (Lv, oV) :: (Ld, oD) :: (Lw, oW) :: rest, p ∈ (dx, wd) :: (t, tup) :: (e, excObjD t dx) :: news := fun p hp => .tail _ (.tail _ (.tail _ (hm p hp)))
  refine fly_leave (vs := #[.ref t, .none, .none, .none, .bool false, .none]) (o := excObjD t dx) (a0 := .ref t) hfr hf hke F N (outer := [envV, envD, envW]) (fr := [(Lv, oV), (Ld, oD), (Lw, oW)]) (rest := (dx, wd) :: (t, tup) :: rest)
    ⟨⟨v1, v2, fun vs q => by rw [hv] at q; cases q⟩, ⟨d1, d2, fun vs q => by rw [hd'] at q; cases q⟩, hO⟩ ?_ ?_ (.tail _ (.tail _ (.head _))) ?_ rfl rfl fun h' z => k h' z ?_
  · intro p hp
    rcases List.mem_cons.mp hp with rfl | hp
    · exact up _ (.head _)
    · rcases List.mem_cons.mp hp with rfl | hp
      · exact up _ (.tail _ (.head _))
      · rw [List.mem_singleton.mp hp]; exact up _ (.tail _ (.tail _ (.head _)))
  · intro p hp
    rcases List.mem_cons.mp hp with rfl | hp
    · exact .head _
    · rcases List.mem_cons.mp hp with rfl | hp
      · exact .tail _ (.head _)
      · exact up _ (.tail _ (.tail _ (.tail _ hp)))
  · have q3 : ∀ {b : Nat}, b ≠ Lv → b ≠ Ld → b ≠ Lw → ∀ q ∈ [(Lv, oV), (Ld, oD), (Lw, oW)], b ≠ q.1 := fun x y z q hq => by
      rcases List.mem_cons.mp hq with rfl | hq
      · exact x
      · rcases List.mem_cons.mp hq with rfl | hq
        · exact y
        · rw [List.mem_singleton.mp hq]; exact z
    refine List.forall_mem_cons.mpr ⟨⟨Nat.ne_of_gt (Nat.lt_trans l2 l3), q3 (Nat.ne_of_gt (Nat.lt_trans eV (Nat.lt_trans l2 l3))) (Nat.ne_of_gt (Nat.lt_trans eD (Nat.lt_trans l2 l3))) (Nat.ne_of_gt (Nat.lt_trans eW (Nat.lt_trans l2 l3)))⟩,
      List.forall_mem_cons.mpr ⟨⟨Nat.ne_of_gt l2, q3 (Nat.ne_of_gt (Nat.lt_trans eV l2)) (Nat.ne_of_gt (Nat.lt_trans eD l2)) (Nat.ne_of_gt (Nat.lt_trans eW l2))⟩, fun p hp =>
        ⟨Nat.ne_of_lt (l1 p (hm p (.tail _ (.tail _ (.tail _ hp))))), q3 (Nat.ne_of_lt (lV p (.tail _ (.tail _ hp)))) (hN p (.tail _ hp)).2.1 (hne p hp)⟩⟩⟩
  · refine List.forall_mem_cons.mpr ⟨⟨Nat.ne_of_gt eV, (N _ (.tail _ (.tail _ (.head _)))).2.2⟩, List.forall_mem_cons.mpr ⟨⟨Nat.ne_of_lt (lV _ (.head _)), (N _ (up _ (.tail _ (.head _)))).2.2⟩,
      List.forall_mem_cons.mpr ⟨⟨Nat.ne_of_lt (lV _ (.tail _ (.head _))), (N _ (up _ (.tail _ (.tail _ (.head _))))).2.2⟩, List.forall_mem_cons.mpr ⟨⟨Nat.ne_of_gt (Nat.lt_trans eV (Nat.lt_trans l2 l3)), (N _ (.head _)).2.2⟩,
        List.forall_mem_cons.mpr ⟨⟨Nat.ne_of_gt (Nat.lt_trans eV l2), (N _ (.tail _ (.head _))).2.2⟩, fun p hp => ⟨Nat.ne_of_lt (lV p (.tail _ (.tail _ hp))), (N _ (up _ (.tail _ (.tail _ (.tail _ hp))))).2.2⟩⟩⟩⟩⟩⟩
end
end Mine
end
/-! part X6 -/
section
open PySem PySem.W PyProof.Rows PySem.Calls
set_option maxRecDepth 100000
set_option maxHeartbeats 4000000
namespace Mine
-- what _law_divided answers
def Told (which x y b : Int) (tag : Str) (v : Value) : Prop :=
  (y = 0 ∧ tag = Str.ofString "trap" ∧ ∃ t, v = .str (Str.ofString "integer divide by zero") t) ∨
  (y ≠ 0 ∧ which = 0 ∧ sgn x b = -2 ^ (b - 1).toNat ∧ sgn y b = -1 ∧ tag = Str.ofString "trap" ∧ ∃ t, v = .str (Str.ofString "integer overflow") t) ∨
  (y ≠ 0 ∧ ¬ (which = 0 ∧ sgn x b = -2 ^ (b - 1).toNat ∧ sgn y b = -1) ∧ tag = Str.ofString "told" ∧ ∃ t, v = .int (if which = 0 then (Int.tdiv (sgn x b) (sgn y b)) % 2 ^ b.toNat else if which = 1 then (sgn x b - sgn y b * Int.tdiv (sgn x b) (sgn y b)) % 2 ^ b.toNat else if which = 2 then x.fdiv y else x.fmod y) t)
abbrev RetV (which x y b : Int) (h₀ : Heap) (L : Addr) (m : Str → Option Value) (Lw : Addr) (oW : Obj) (rest : List (Addr × Obj)) (s : Shared) (Q : Value → Shared → Prop) : Prop :=
  ∀ (D : Addr) (tag : Str) (t : Tok) (v : Value) (h' : Heap) (tk' : Nat) (sl : Array (Option Value)), Fr h₀ L h' m → News h₀ L h' ((D, tupObj [.str tag t, v]) :: (Lw, { oW with slots := sl }) :: rest) → (∀ p ∈ (Lw, { oW with slots := sl }) :: rest, p.1 < D) → Told which x y b tag v → Q (.ref D) { s with heap := h', toks := tk' }
abbrev DivG (which x y b : Int) (tw tx ty tb : Tok) : Prop :=
  ∀ (w : World) (hh : Heap) (mg mb : Str → Option Value) (rest : List (Addr × Obj)) (Lw : Addr) (oW : Obj) (mw : Str → Option Value) (envW : Env)
   (dp un : Nat) (gd : Option (List Code)) (cn : Str) (cs : Scope) (ca : Addr) (ccd : Value) (cl : List (Str × Addr)) (h₀ : Heap) (L : Addr) (m : Str → Option Value) (s : Shared) (Q E : Value → Shared → Prop),
    Fr h₀ L s.heap m → (hd.heap_39 w.params).In h₀ → News h₀ L s.heap ((Lw, oW) :: rest) → FrIn [envW] [(Lw, oW)] → IsLoc oW mw → (∀ p ∈ rest, p.1 ≠ Lw) → Top hd.view_39 (looseW hd.view_39 []) (ExcName.means hh) mg mb h₀ → cs.kind = .function →
    (1 ≤ b ∧ b ≤ 64 ∧ 0 ≤ x ∧ x < 2 ^ b.toNat ∧ 0 ≤ y ∧ y < 2 ^ b.toNat) → dp + 8 < recursionLimit → un + 8 * 8 < cLine → RetV which x y b h₀ L m Lw oW rest s Q →
      wpAny (model PySem.Challenge.rw_nm0111_01.row.prog w) (ktrTop dp un gd cn cs L ca ccd cl [envW]) (call (.ref 187) [.int which tw, .int x tx, .int y ty, .int b tb]) Q E s
section
variable {prog : Program} {w : World} {A : Around} {s : Shared} {K : Frag} {L : Addr} {h₀ : Heap} {m mg mb : Str → Option Value} {news : List (Addr × Obj)} {p : Program} {loose : List Str} {mean : ExcName → Option Value}
theorem enterCX {env : Env} {outer : List Env} {R : Result → Shared → Prop} {name qual : Str} {params : Arguments} {body : List Stmt} {scope : Scope} {dV kV doc pm cdv ct oc : Value} {an od : Option Addr} {osl : Array (Option Value)} {f : Addr} {args : Args} {binds : List (Str × Value)}
    (F : Fr h₀ L s.heap m) (X₀ : K.In h₀) (N : News h₀ L s.heap news) (T : Top p loose mean mg mb h₀) (_hA : A.frames = some (env :: outer)) (_hf : env.frame = some L)
    (ho : K.lookup f = some ⟨oc, od, .func (fnOf name qual params body scope dV kV doc pm an cdv ct), osl⟩) (hcd : codeIn K cdv qual = true) (hroom : A.depth < recursionLimit)
    (hbind : BindsTo s (fnOf name qual params body scope dV kV doc pm an cdv ct) args binds) (hkind : (binds.all fun y => scope.names.lookup y.1 == some .local || scope.names.lookup y.1 == some .cell) = true)
    (hnd : ((cellsFrom 0 scope.names []).map (·.1)).Nodup)
    (h : ∀ g L' h₁ tk cells oL, h₀.StaysIn g → IsLoc oL m → Fr g L' h₁ (bindL (envOfC qual scope L' f cdv).kindOf binds fun _ => none) → News g L' h₁ (cells ++ (L, oL) :: news) →
      CellsAre (bindC (envOfC qual scope L' f cdv).kindOf binds fun _ => none) (cellsFrom (L' + 1) scope.names []) cells → K.In g → Top p loose mean mg mb g → (∀ q ∈ (L, oL) :: news, q.1 < L') →
      wpAny (model prog w) (A.deeper (envOfC qual scope L' f cdv)) (execs body (envOfC qual scope L' f cdv))
        (fun fl s' => LeaveY h₀ L oL m R (match fl with | .ret v => v | _ => .none) s')
        (fun e s' => wpAny (model prog w) (A.deeper (envOfC qual scope L' f cdv)) (leaving (envOfC qual scope L' f cdv) e) (fun _ s'' => R (.error e) s'') (fun e' s'' => R (.error e') s'') s')
        { s with heap := h₁, toks := tk })
    (hco : scope.isCoroutine = false) (hgen : scope.isGenerator = false) (hk : scope.kind = .function) : codeAny (model prog w) A (.call (.ref f) args) R s := by
  obtain ⟨oL, hL, hl⟩ := isLoc_of F
  have X := X₀.keeps F.keep
  have N₁ := with_loc N hL
  exact enterC (fd := fnOf name qual params body scope dV kV doc pm an cdv ct) (env' := envOfC qual scope s.heap.objs.size f cdv) rfl N₁ (T.nolimit.keeps F.keep) hroom (X _ _ ho) rfl (codeRec_of X hcd) rfl rfl hbind hkind hnd hco hgen hk (fun _ _ z => leaveY_back F hl z)
    fun h₁ tk cells F₁ N₂ Y => h _ _ h₁ tk cells oL (with_stays F N) hl F₁ N₂ Y (X₀.keeps (with_stays F N)) (T.keeps (with_stays F N)) fun q hq => Heap.lt_size (N₁ q hq)
end
section
variable {w : World} {hh : Heap} {E : Value → Shared → Prop} {s s₁ : Shared} {L Lw I C D : Addr} {oW oI oC oD : Obj} {h₀ : Heap} {m mw mg mb : Str → Option Value} {led : List (Addr × Obj)} {g : Obj → List (Addr × Obj)} {envW : Env}
  {dp un : Nat} {gd : Option (List Code)} {cn : Str} {cs : Scope} {ca : Addr} {ccd : Value} {cl : List (Str × Addr)}
theorem divTurn {sw : Array (Option Value)} {k k' x y b : Int} {tw tx ty tb : Tok} {rest : Value → List (Addr × Obj) → Prop} (hw : k' = k) (G : ∀ tw tx ty tb, DivG k x y b tw tx ty tb)
    (F : Fr h₀ L s.heap m) (X : (hd.heap_39 w.params).In h₀) (N : News h₀ L s.heap ((I, oI) :: (C, oC) :: (D, oD) :: led)) (U : UpdF Lw { oW with slots := sw } led g) (off : LCg.Off3 I C D led)
    (hO : FrIn [envW] [(Lw, oW)]) (hlW : IsLoc oW mw) (T : Top hd.view_39 (looseW hd.view_39 []) (ExcName.means hh) mg mb h₀) (hcs : cs.kind = .function)
    (ask : 1 ≤ b ∧ b ≤ 64 ∧ 0 ≤ x ∧ x < 2 ^ b.toNat ∧ 0 ≤ y ∧ y < 2 ^ b.toNat) (hdp : dp + 8 < recursionLimit) (hun : un + 8 * 8 < cLine)
    (hs : ∀ h tk, ({ s with heap := h, toks := tk } : Shared) = { s₁ with heap := h, toks := tk })
    (ret : ∀ (D9 : Addr) (tag : Str) (t : Tok) (v : Value) (sl : Array (Option Value)), Told k x y b tag v → (∀ p ∈ g { oW with slots := sl }, p.1 < D9) → rest (.ref D9) ((D9, tupObj [.str tag t, v]) :: g { oW with slots := sl })) :
    wpAny (model PySem.Challenge.rw_nm0111_01.row.prog w) (ktrTop dp un gd cn cs L ca ccd cl [envW]) (call (.ref 187) [.int k' tw, .int x tx, .int y ty, .int b tb]) (LCg.CompEnd h₀ L m s₁ I oI C oC D oD (fun _ => True) rest) E s := by
  subst hw
  obtain ⟨pre, post, rfl, hg, a, c⟩ := U.split
  have om := off.mem
  have oW3 := om (Lw, { oW with slots := sw }) (List.mem_append.mpr (.inr (.head _)))
  refine G tw tx ty tb w hh mg mb ((I, oI) :: (C, oC) :: (D, oD) :: (pre ++ post)) Lw { oW with slots := sw } mw envW dp un gd cn cs ca ccd cl h₀ L m s _ _ F X (cb_drop N fun p hp => ?_) ⟨⟨hO.1.1, hO.1.2.1, hO.1.2.2⟩, trivial⟩ (by obtain ⟨es, ep, q1, q2⟩ := hlW; exact ⟨es, ep, q1, q2⟩) ?_ T hcs ask hdp hun ?_
  · rcases List.mem_cons.mp hp with rfl | hp
    · exact .tail _ (.tail _ (.tail _ (List.mem_append.mpr (.inr (.head _)))))
    · rcases List.mem_cons.mp hp with rfl | hp
      · exact .head _
      · rcases List.mem_cons.mp hp with rfl | hp
        · exact .tail _ (.head _)
        · rcases List.mem_cons.mp hp with rfl | hp
          · exact .tail _ (.tail _ (.head _))
          · refine .tail _ (.tail _ (.tail _ (List.mem_append.mpr ?_)))
            rcases List.mem_append.mp hp with hp | hp
            · exact .inl hp
            · exact .inr (.tail _ hp)
  · refine List.forall_mem_cons.mpr ⟨Ne.symm oW3.1, List.forall_mem_cons.mpr ⟨Ne.symm oW3.2.1, List.forall_mem_cons.mpr ⟨Ne.symm oW3.2.2, fun p hp => ?_⟩⟩⟩
    rcases List.mem_append.mp hp with hp | hp
    · exact a p hp
    · exact c p hp
  · intro D9 tag t v h' tk' sl F' N' l9 told
    have lI : I < D9 := l9 (I, oI) (.tail _ (.head _))
    have lC : C < D9 := l9 (C, oC) (.tail _ (.tail _ (.head _)))
    have lD : D < D9 := l9 (D, oD) (.tail _ (.tail _ (.tail _ (.head _))))
    have lg : ∀ p ∈ g { oW with slots := sl }, p.1 < D9 := fun p hp => by
      rw [hg] at hp
      rcases List.mem_append.mp hp with hp | hp
      · exact l9 p (.tail _ (.tail _ (.tail _ (.tail _ (List.mem_append.mpr (.inl hp))))))
      · rcases List.mem_cons.mp hp with rfl | hp
        · exact l9 _ (.head _)
        · exact l9 p (.tail _ (.tail _ (.tail _ (.tail _ (List.mem_append.mpr (.inr hp))))))
    refine ⟨h', tk', (D9, tupObj [.str tag t, v]) :: g { oW with slots := sl }, hs h' tk', F', cb_drop N' fun p hp => ?_, ?_, trivial, ret D9 tag t v sl told lg⟩
    · rcases List.mem_cons.mp hp with rfl | hp
      · exact .tail _ (.tail _ (.head _))
      · rcases List.mem_cons.mp hp with rfl | hp
        · exact .tail _ (.tail _ (.tail _ (.head _)))
        · rcases List.mem_cons.mp hp with rfl | hp
          · exact .tail _ (.tail _ (.tail _ (.tail _ (.head _))))
          · rcases List.mem_cons.mp hp with rfl | hp
            · exact .head _
            · rw [hg] at hp
              rcases List.mem_append.mp hp with hp | hp
              · exact .tail _ (.tail _ (.tail _ (.tail _ (.tail _ (List.mem_append.mpr (.inl hp))))))
              · rcases List.mem_cons.mp hp with rfl | hp
                · exact .tail _ (.head _)
                · exact .tail _ (.tail _ (.tail _ (.tail _ (.tail _ (List.mem_append.mpr (.inr hp))))))
    · refine LCg.Off3.of (List.forall_mem_cons.mpr ⟨⟨Nat.ne_of_gt lI, Nat.ne_of_gt lC, Nat.ne_of_gt lD⟩, fun p hp => ?_⟩)
      rw [hg] at hp
      rcases List.mem_append.mp hp with hp | hp
      · exact om p (List.mem_append.mpr (.inl hp))
      · rcases List.mem_cons.mp hp with rfl | hp
        · exact oW3
        · exact om p (List.mem_append.mpr (.inr (.tail _ hp)))
end
end Mine
end
/-! part M6 -/
section
namespace Mine
open PySem PySem.W PyProof.Rows
theorem pw_two {b : Int} (h : 1 ≤ b) : (2 : Int) ^ b.toNat = 2 * 2 ^ (b - 1).toNat := by
  have e : b.toNat = (b - 1).toNat + 1 := by omega
  rw [e, Int.pow_succ, Int.mul_comm]
theorem sgn_rng {x b : Int} (h1 : 1 ≤ b) (h0 : 0 ≤ x) (hx : x < 2 ^ b.toNat) : -2 ^ (b - 1).toNat ≤ sgn x b ∧ sgn x b < 2 ^ (b - 1).toNat := by
  have e := pw_two h1
  have hp := pw_pos (b - 1).toNat
  unfold sgn
  rw [e] at hx ⊢
  generalize (2 : Int) ^ (b - 1).toNat = P at *
  split <;> omega
theorem sgn_mod {a b : Int} (h1 : 1 ≤ b) (hl : -2 ^ (b - 1).toNat ≤ a) (hh : a < 2 ^ (b - 1).toNat) : sgn (a % 2 ^ b.toNat) b = a := by
  have e := pw_two h1
  have hp := pw_pos (b - 1).toNat
  unfold sgn
  rw [e]
  generalize (2 : Int) ^ (b - 1).toNat = P at *
  by_cases h : 0 ≤ a
  · rw [Int.emod_eq_of_lt h (by omega), if_neg (by omega)]
  · have e2 : a % (2 * P) = a + 2 * P := by
      rw [← Int.add_emod_right a (2 * P)]
      exact Int.emod_eq_of_lt (by omega) (by omega)
    rw [e2, if_pos (by omega)]
    omega
theorem tdiv_rng {A B P : Int} (hA : -P ≤ A ∧ A < P) (hB : B ≠ 0) (hn : ¬ (A = -P ∧ B = -1)) : -P ≤ Int.tdiv A B ∧ Int.tdiv A B < P := by
  have h1 : (Int.tdiv A B).natAbs = A.natAbs / B.natAbs := Int.natAbs_tdiv A B
  have h2 : A.natAbs / B.natAbs ≤ A.natAbs := Nat.div_le_self _ _
  by_cases hb1 : B = -1
  · subst hb1
    have e : Int.tdiv A (-1) = -A := by rw [Int.tdiv_neg, Int.tdiv_one]
    rw [e]
    have : A ≠ -P := fun q => hn ⟨q, rfl⟩
    omega
  · by_cases hb2 : B = 1
    · subst hb2
      rw [Int.tdiv_one]; exact hA
    · have h3 : A.natAbs / B.natAbs ≤ A.natAbs / 2 := Nat.div_le_div_left (by omega) (by decide)
      omega
theorem tmod_fact (A B : Int) (hB : B ≠ 0) : A = Int.tdiv A B * B + Int.tmod A B ∧ (Int.tmod A B).natAbs < B.natAbs ∧ (0 ≤ A → 0 ≤ Int.tmod A B) ∧ (A ≤ 0 → Int.tmod A B ≤ 0) := by
  refine ⟨?_, ?_, ?_, ?_⟩
  · have := Int.mul_tdiv_add_tmod A B
    rw [Int.mul_comm] at this
    exact this.symm
  · rw [Int.natAbs_tmod]
    exact Nat.mod_lt _ (by omega)
  · intro h; exact Int.tmod_nonneg _ h
  · intro h
    have h2 := Int.tmod_nonneg B (a := -A) (by omega)
    rw [Int.neg_tmod] at h2
    omega
theorem emod_rng (a b : Int) : 0 ≤ a % 2 ^ b.toNat ∧ a % 2 ^ b.toNat < 2 ^ b.toNat :=
  ⟨Int.emod_nonneg _ (Int.ne_of_gt (pw_pos _)), Int.emod_lt_of_pos _ (pw_pos _)⟩
section
variable {k x y b : Int} {tag : Str} {v : Value}
theorem told_zero (h : y = 0) (T : Told k x y b tag v) : tag = Str.ofString "trap" ∧ ∃ t, v = .str (Str.ofString "integer divide by zero") t := by
  rcases T with ⟨_, a, c⟩ | ⟨n, _⟩ | ⟨n, _⟩
  · exact ⟨a, c⟩
  · exact absurd h n
  · exact absurd h n
theorem told_over0 (h : y ≠ 0) (h1 : sgn x b = -2 ^ (b - 1).toNat) (h2 : sgn y b = -1) (T : Told 0 x y b tag v) : tag = Str.ofString "trap" ∧ ∃ t, v = .str (Str.ofString "integer overflow") t := by
  rcases T with ⟨n, _⟩ | ⟨_, _, _, _, a, c⟩ | ⟨_, n, _⟩
  · exact absurd n h
  · exact ⟨a, c⟩
  · exact absurd ⟨rfl, h1, h2⟩ n
theorem told_one (h : y ≠ 0) (T : Told 1 x y b tag v) : tag = Str.ofString "told" ∧ ∃ t, v = .int ((sgn x b - sgn y b * Int.tdiv (sgn x b) (sgn y b)) % 2 ^ b.toNat) t := by
  rcases T with ⟨n, _⟩ | ⟨_, n, _⟩ | ⟨_, _, a, c⟩
  · exact absurd n h
  · exact absurd n (by decide)
  · exact ⟨a, c⟩
theorem told_over1 (h : y ≠ 0) (_h1 : sgn x b = -2 ^ (b - 1).toNat) (h2 : sgn y b = -1) (T : Told 1 x y b tag v) : tag = Str.ofString "told" ∧ ∃ t, v = .int 0 t := by
  obtain ⟨a, t, c⟩ := told_one h T
  refine ⟨a, t, c.trans ?_⟩
  rw [h2, Int.tdiv_neg, Int.tdiv_one, Int.neg_mul_neg, Int.one_mul, Int.sub_self, Int.zero_emod]
theorem told_r (h1 : 1 ≤ b) (y0 : 0 ≤ y) (yb : y < 2 ^ b.toNat) (h : y ≠ 0) (T : Told 1 x y b tag v) :
    tag = Str.ofString "told" ∧ ∃ r t, v = .int r t ∧ (0 ≤ r ∧ r < 2 ^ b.toNat) ∧ sgn r b = Int.tmod (sgn x b) (sgn y b) := by
  obtain ⟨a, t, c⟩ := told_one h T
  refine ⟨a, _, t, c, emod_rng _ _, ?_⟩
  have hB : sgn y b ≠ 0 := by unfold sgn; split <;> omega
  have f := tmod_fact (sgn x b) (sgn y b) hB
  have r := sgn_rng h1 y0 yb
  have e : sgn x b - sgn y b * Int.tdiv (sgn x b) (sgn y b) = Int.tmod (sgn x b) (sgn y b) := by
    have := f.1
    rw [Int.mul_comm] at this
    omega
  rw [e]
  refine sgn_mod h1 ?_ ?_
  all_goals (generalize (2 : Int) ^ (b - 1).toNat = P at *; omega)
theorem told_q (h1 : 1 ≤ b) (x0 : 0 ≤ x) (xb : x < 2 ^ b.toNat) (_y0 : 0 ≤ y) (yb : y < 2 ^ b.toNat) (h : y ≠ 0) (n : ¬ (sgn x b = -2 ^ (b - 1).toNat ∧ sgn y b = -1)) (T : Told 0 x y b tag v) :
    tag = Str.ofString "told" ∧ ∃ q t, v = .int q t ∧ (0 ≤ q ∧ q < 2 ^ b.toNat) ∧ sgn q b = Int.tdiv (sgn x b) (sgn y b) := by
  rcases T with ⟨z, _⟩ | ⟨_, _, z1, z2, _⟩ | ⟨_, _, a, t, c⟩
  · exact absurd z h
  · exact absurd ⟨z1, z2⟩ n
  refine ⟨a, _, t, c, emod_rng _ _, ?_⟩
  have hB : sgn y b ≠ 0 := by unfold sgn; split <;> omega
  have r := tdiv_rng (sgn_rng h1 x0 xb) hB n
  exact sgn_mod h1 r.1 r.2
theorem told_d (h : y ≠ 0) (T : Told 2 x y b tag v) : tag = Str.ofString "told" ∧ ∃ q t, v = .int q t ∧ q = x.fdiv y := by
  rcases T with ⟨n, _⟩ | ⟨_, n, _⟩ | ⟨_, _, a, t, c⟩
  · exact absurd n h
  · exact absurd n (by decide)
  · exact ⟨a, _, t, c, rfl⟩
theorem told_m (h : y ≠ 0) (T : Told 3 x y b tag v) : tag = Str.ofString "told" ∧ ∃ q t, v = .int q t ∧ q = x.fmod y := by
  rcases T with ⟨n, _⟩ | ⟨_, n, _⟩ | ⟨_, _, a, t, c⟩
  · exact absurd n h
  · exact absurd n (by decide)
  · exact ⟨a, _, t, c, rfl⟩
theorem plain_fact {q r : Int} (y0 : 0 ≤ y) (h : y ≠ 0) (hq : q = x.fdiv y) (hr : r = x.fmod y) : x = q * y + r ∧ 0 ≤ r ∧ r < y := by
  subst hq; subst hr
  refine ⟨?_, Int.fmod_nonneg_of_pos _ (by omega), Int.fmod_lt_of_pos _ (by omega)⟩
  have := Int.mul_fdiv_add_fmod x y
  rw [Int.mul_comm] at this
  exact this.symm
theorem signed_fact {q r : Int} (_h1 : 1 ≤ b) (_y0 : 0 ≤ y) (yb : y < 2 ^ b.toNat) (h : y ≠ 0) (hq : sgn q b = Int.tdiv (sgn x b) (sgn y b)) (hr : sgn r b = Int.tmod (sgn x b) (sgn y b)) :
    sgn x b = sgn q b * sgn y b + sgn r b ∧ (sgn r b).natAbs < (sgn y b).natAbs ∧ (0 ≤ sgn x b → 0 ≤ sgn r b) ∧ (sgn x b ≤ 0 → sgn r b ≤ 0) := by
  have hB : sgn y b ≠ 0 := by unfold sgn; split <;> omega
  rw [hq, hr]
  exact tmod_fact _ _ hB
theorem int_bits (h2 : b ≤ 64) (h0 : 0 ≤ y) (hy : y < 2 ^ b.toNat) : Builtin.Int.intBits y ≤ 64 := by
  have h3 := lt64 h2 h0 hy
  have h4 : (2 : Nat) ^ 64 = 18446744073709551616 := by decide
  have h5 : (2 : Int) ^ 64 = 18446744073709551616 := by decide
  exact PySem.intBits_le_64 (by omega) (by omega)
end
end Mine
end
section
open PySem PySem.W PyProof.Rows
namespace Mine
local macro_rules | `(tactic| k_room) => `(tactic| ktr_room)
local macro_rules | `(tactic| ktr_step) => `(tactic| (unfold ClaimG; k_fill; intro w hh mg mb news dp un gd cn cs ca ccd cl outer h₀ L m s Q E hF hK hN hT hcs hask hdp hun hret; (try obtain ⟨hask1, hask2⟩ := hask); (try obtain ⟨hask2, hask3⟩ := hask2); (try obtain ⟨hask3, hask4⟩ := hask3); (try obtain ⟨hask4, hask5⟩ := hask4); (try obtain ⟨hask5, hask6⟩ := hask5); refine wpAny_call ?_; k_dflt ktr_enter))
local macro_rules | `(tactic| k_enter) => `(tactic| ktr_enter)
-- the end of a way
local macro_rules | `(tactic| ktr_rel) => `(tactic| first
  | (refine RetI.of (by assumption) (by k_asm) (cb_drop (by k_asm) (by kcj_all)) ?_)
  | (refine RetB.of (by assumption) (by k_asm) (cb_drop (by k_asm) (by kcj_all)) ?_)
  | (refine RetP.of (by assumption) (by k_asm) (cb_drop (by k_asm) (by kcj_all)) ?_)
  | (refine RetL.of (by assumption) (by k_asm) (cb_drop (by k_asm) (by kcj_all)) (by assumption) ?_))
local macro_rules | `(tactic| units_room) => `(tactic| ktr_units)
local macro_rules | `(tactic| ktr_enter) => `(tactic| k_extra "m ktr_enter")
local macro_rules | `(tactic| k_all) => `(tactic| k_extra "m k_all")
local macro_rules | `(tactic| walk_at "binaryOp FloorDiv int int") => `(tactic| k_extra "m binaryOp FloorDiv int int")
local macro_rules | `(tactic| walk_at "CompEnd") => `(tactic| k_extra "m CompEnd")
local macro_rules | `(tactic| walk_at "eval ListComp") => `(tactic| k_extra "m eval ListComp")
local macro_rules | `(tactic| walk_at "CompSrc") => `(tactic| k_extra "m CompSrc")
local macro_rules | `(tactic| walk_at "call ref") => `(tactic| k_extra "m call ref")
local macro_rules | `(tactic| walk_at "CompSrcT") => `(tactic| k_extra "m CompSrcT")
local macro_rules | `(tactic| walk_at "call type:range") => `(tactic| k_extra "m call type:range")
local macro_rules | `(tactic| walk_at "binaryOp LShift int int") => `(tactic| k_extra "m binaryOp LShift int int")
local macro_rules | `(tactic| walk_at "eval IfExp") => `(tactic| k_extra "m eval IfExp")
local macro_rules | `(tactic| walk_at "getMethod type:Exception") => `(tactic| k_extra "m getMethod type:Exception")
local macro_rules | `(tactic| walk_at "call builtin:Exception.__init__") => `(tactic| k_extra "m call builtin:Exception.__init__")
local macro_rules | `(tactic| walk_at "setAttr ref") => `(tactic| k_extra "m setAttr ref")
local macro_rules | `(tactic| walk_at "binaryOp Mult int int") => `(tactic| k_extra "m binaryOp Mult int int")
local macro_rules | `(tactic| walk_at "exec Raise some none") => `(tactic| k_extra "m exec Raise some none")
local macro_rules | `(tactic| walk_at "RaiseBack") => `(tactic| k_extra "m RaiseBack")
local macro_rules | `(tactic| walk_at "leaving ref") => `(tactic| k_extra "m leaving ref")
local macro_rules | `(tactic| walk_at "noteFrame ref") => `(tactic| k_extra "m noteFrame ref")
local macro_rules | `(tactic| walk_at "getAttr ref") => `(tactic| k_extra "m getAttr ref")
local macro_rules | `(tactic| walk_at "LeaveY") => `(tactic| k_extra "m LeaveY")
local macro_rules | `(tactic| walk_at "eval Call") => `(tactic| k_extra "m eval Call")
local macro_rules | `(tactic| walk_at "newTuple") => `(tactic| k_extra "m newTuple")
local macro_rules | `(tactic| walk_at "execs cons") => `(tactic| k_extra "m execs cons")
local macro_rules | `(tactic| walk_at "execs nil") => `(tactic| k_extra "m execs nil")
local macro_rules | `(tactic| walk_at "isTrue BoolOp") => `(tactic| k_extra "m isTrue BoolOp")
local macro_rules | `(tactic| walk_at "binaryOp Mult ref int") => `(tactic| k_extra "m binaryOp Mult ref int")
local macro_rules | `(tactic| walk_at "CompRest") => `(tactic| k_extra "m CompRest")
local macro_rules | `(tactic| walk_at "exec For Name Call cons nil") => `(tactic| k_extra "m exec For Name Call cons nil")
local macro_rules | `(tactic| walk_at "pyIter ref") => `(tactic| k_extra "m pyIter ref")
/-! part A1 -/
section
set_option maxRecDepth 100000 in
set_option maxHeartbeats 8000000 in
theorem unsigned_c (z b : Int) (tz tb : Tok) : ClaimG 53 1 (fun _ _ => 1 ≤ b ∧ b ≤ 64) [.int z tz, .int b tb] (RetI (z % 2 ^ b.toNat)) := by
  k_with_none
  (k_with "m ktr_enter" => first | (refine' code_defY ?k2 ?k3 ?k4 ?k5 ?kA ?kF ?kK ?k6 ?k7 ?k8 ?k9 ?kB ?_ ?c2 ?c3 ?c4 ?c5; (case kA => exact rfl); (case kF => exact rfl); (case kK => first | exact rfl | assumption); (case k2 => k_asm); (case k3 => k_asm); (case k4 => k_asm); (case k5 => k_asm); (case k6 => k_is); (case k7 => k_is); (case k8 => ktr_room); (case k9 => exact BindsTo.of_eq rfl); (case c5 => decide); (case kB => exact locs rfl); (case c2 => exact rfl); (case c3 => exact rfl); (case c4 => exact rfl); k_whole; intro g' L' h' FG' F' N' X' T'; (try dsimp only); (try k_fold)) | (refine' code_defCY ?k2 ?k3 ?k4 ?k5 ?kA ?kF ?kK ?k6 ?k7 ?k8 ?k9 ?kB ?kD ?_ ?c2 ?c3 ?c4; (case kA => exact rfl); (case kF => exact rfl); (case kK => first | exact rfl | assumption); (case k2 => k_asm); (case k3 => k_asm); (case k4 => k_asm); (case k5 => k_asm); (case k6 => k_is); (case k7 => k_is); (case k8 => ktr_room); (case k9 => exact BindsTo.of_eq rfl); (case kB => exact rfl); (case kD => decide +kernel); (case c2 => exact rfl); (case c3 => exact rfl); (case c4 => exact rfl); k_whole; intro g' L' h' tk' cells' FG' F' N' Y' X' T' l1; (try k_lt l1); k_cells Y'; (try simp only [List.cons_append, List.nil_append] at N'); (try dsimp only); (try k_fold)))
  (k_with "m k_all" => exact all_ne (by assumption) (by first | exact Nat.le_refl _ | exact Nat.le_add_right _ _ | exact Nat.le_trans (Nat.le_add_right _ _) (Nat.le_add_right _ _)))
  (k_with "m binaryOp FloorDiv int int" => (k_here; (refine floordiv_int ?fd0 ?_ (Or.inl (PyProof.noPylong_of_log2 ?fd1))); (case fd0 => exact abs_ne (by assumption)); (case fd1 => exact abs_log (by assumption))))
  ktr_step
  k_steps
  all_goals ktr_rel
  all_goals exact uns_is _ _
set_option maxRecDepth 100000 in
set_option maxHeartbeats 8000000 in
theorem signed_c (x b : Int) (tx tb : Tok) : ClaimG 60 1 (fun _ _ => 1 ≤ b ∧ b ≤ 64 ∧ 0 ≤ x ∧ x < 2 ^ b.toNat) [.int x tx, .int b tb] (RetI (sgn x b)) := by
  k_with_none
  (k_with "m ktr_enter" => first | (refine' code_defY ?k2 ?k3 ?k4 ?k5 ?kA ?kF ?kK ?k6 ?k7 ?k8 ?k9 ?kB ?_ ?c2 ?c3 ?c4 ?c5; (case kA => exact rfl); (case kF => exact rfl); (case kK => first | exact rfl | assumption); (case k2 => k_asm); (case k3 => k_asm); (case k4 => k_asm); (case k5 => k_asm); (case k6 => k_is); (case k7 => k_is); (case k8 => ktr_room); (case k9 => exact BindsTo.of_eq rfl); (case c5 => decide); (case kB => exact locs rfl); (case c2 => exact rfl); (case c3 => exact rfl); (case c4 => exact rfl); k_whole; intro g' L' h' FG' F' N' X' T'; (try dsimp only); (try k_fold)) | (refine' code_defCY ?k2 ?k3 ?k4 ?k5 ?kA ?kF ?kK ?k6 ?k7 ?k8 ?k9 ?kB ?kD ?_ ?c2 ?c3 ?c4; (case kA => exact rfl); (case kF => exact rfl); (case kK => first | exact rfl | assumption); (case k2 => k_asm); (case k3 => k_asm); (case k4 => k_asm); (case k5 => k_asm); (case k6 => k_is); (case k7 => k_is); (case k8 => ktr_room); (case k9 => exact BindsTo.of_eq rfl); (case kB => exact rfl); (case kD => decide +kernel); (case c2 => exact rfl); (case c3 => exact rfl); (case c4 => exact rfl); k_whole; intro g' L' h' tk' cells' FG' F' N' Y' X' T' l1; (try k_lt l1); k_cells Y'; (try simp only [List.cons_append, List.nil_append] at N'); (try dsimp only); (try k_fold)))
  (k_with "m k_all" => exact all_ne (by assumption) (by first | exact Nat.le_refl _ | exact Nat.le_add_right _ _ | exact Nat.le_trans (Nat.le_add_right _ _) (Nat.le_add_right _ _)))
  (k_with "m binaryOp FloorDiv int int" => (k_here; (refine floordiv_int ?fd0 ?_ (Or.inl (PyProof.noPylong_of_log2 ?fd1))); (case fd0 => exact abs_ne (by assumption)); (case fd1 => exact abs_log (by assumption))))
  ktr_step
  k_steps
  all_goals ktr_rel
  all_goals first | exact sgn_hi (by assumption) (by assumption) | exact sgn_lo (by assumption)
set_option maxRecDepth 100000 in
set_option maxHeartbeats 8000000 in
theorem least_c (b : Int) (tb : Tok) : ClaimG 67 1 (fun _ _ => 1 ≤ b ∧ b ≤ 64) [.int b tb] (RetI (-2 ^ (b - 1).toNat)) := by
  k_with_none
  (k_with "m ktr_enter" => first | (refine' code_defY ?k2 ?k3 ?k4 ?k5 ?kA ?kF ?kK ?k6 ?k7 ?k8 ?k9 ?kB ?_ ?c2 ?c3 ?c4 ?c5; (case kA => exact rfl); (case kF => exact rfl); (case kK => first | exact rfl | assumption); (case k2 => k_asm); (case k3 => k_asm); (case k4 => k_asm); (case k5 => k_asm); (case k6 => k_is); (case k7 => k_is); (case k8 => ktr_room); (case k9 => exact BindsTo.of_eq rfl); (case c5 => decide); (case kB => exact locs rfl); (case c2 => exact rfl); (case c3 => exact rfl); (case c4 => exact rfl); k_whole; intro g' L' h' FG' F' N' X' T'; (try dsimp only); (try k_fold)) | (refine' code_defCY ?k2 ?k3 ?k4 ?k5 ?kA ?kF ?kK ?k6 ?k7 ?k8 ?k9 ?kB ?kD ?_ ?c2 ?c3 ?c4; (case kA => exact rfl); (case kF => exact rfl); (case kK => first | exact rfl | assumption); (case k2 => k_asm); (case k3 => k_asm); (case k4 => k_asm); (case k5 => k_asm); (case k6 => k_is); (case k7 => k_is); (case k8 => ktr_room); (case k9 => exact BindsTo.of_eq rfl); (case kB => exact rfl); (case kD => decide +kernel); (case c2 => exact rfl); (case c3 => exact rfl); (case c4 => exact rfl); k_whole; intro g' L' h' tk' cells' FG' F' N' Y' X' T' l1; (try k_lt l1); k_cells Y'; (try simp only [List.cons_append, List.nil_append] at N'); (try dsimp only); (try k_fold)))
  (k_with "m k_all" => exact all_ne (by assumption) (by first | exact Nat.le_refl _ | exact Nat.le_add_right _ _ | exact Nat.le_trans (Nat.le_add_right _ _) (Nat.le_add_right _ _)))
  (k_with "m binaryOp FloorDiv int int" => (k_here; (refine floordiv_int ?fd0 ?_ (Or.inl (PyProof.noPylong_of_log2 ?fd1))); (case fd0 => exact abs_ne (by assumption)); (case fd1 => exact abs_log (by assumption))))
  ktr_step
  k_steps
  all_goals ktr_rel
  all_goals rw [Int.one_mul]
set_option maxRecDepth 100000 in
set_option maxHeartbeats 8000000 in
theorem greatest_c (b : Int) (tb : Tok) : ClaimG 74 1 (fun _ _ => 1 ≤ b ∧ b ≤ 64) [.int b tb] (RetI (2 ^ (b - 1).toNat - 1)) := by
  k_with_none
  (k_with "m ktr_enter" => first | (refine' code_defY ?k2 ?k3 ?k4 ?k5 ?kA ?kF ?kK ?k6 ?k7 ?k8 ?k9 ?kB ?_ ?c2 ?c3 ?c4 ?c5; (case kA => exact rfl); (case kF => exact rfl); (case kK => first | exact rfl | assumption); (case k2 => k_asm); (case k3 => k_asm); (case k4 => k_asm); (case k5 => k_asm); (case k6 => k_is); (case k7 => k_is); (case k8 => ktr_room); (case k9 => exact BindsTo.of_eq rfl); (case c5 => decide); (case kB => exact locs rfl); (case c2 => exact rfl); (case c3 => exact rfl); (case c4 => exact rfl); k_whole; intro g' L' h' FG' F' N' X' T'; (try dsimp only); (try k_fold)) | (refine' code_defCY ?k2 ?k3 ?k4 ?k5 ?kA ?kF ?kK ?k6 ?k7 ?k8 ?k9 ?kB ?kD ?_ ?c2 ?c3 ?c4; (case kA => exact rfl); (case kF => exact rfl); (case kK => first | exact rfl | assumption); (case k2 => k_asm); (case k3 => k_asm); (case k4 => k_asm); (case k5 => k_asm); (case k6 => k_is); (case k7 => k_is); (case k8 => ktr_room); (case k9 => exact BindsTo.of_eq rfl); (case kB => exact rfl); (case kD => decide +kernel); (case c2 => exact rfl); (case c3 => exact rfl); (case c4 => exact rfl); k_whole; intro g' L' h' tk' cells' FG' F' N' Y' X' T' l1; (try k_lt l1); k_cells Y'; (try simp only [List.cons_append, List.nil_append] at N'); (try dsimp only); (try k_fold)))
  (k_with "m k_all" => exact all_ne (by assumption) (by first | exact Nat.le_refl _ | exact Nat.le_add_right _ _ | exact Nat.le_trans (Nat.le_add_right _ _) (Nat.le_add_right _ _)))
  (k_with "m binaryOp FloorDiv int int" => (k_here; (refine floordiv_int ?fd0 ?_ (Or.inl (PyProof.noPylong_of_log2 ?fd1))); (case fd0 => exact abs_ne (by assumption)); (case fd1 => exact abs_log (by assumption))))
  ktr_step
  k_steps
  all_goals ktr_rel
  all_goals rw [Int.one_mul]
set_option maxRecDepth 100000 in
set_option maxHeartbeats 8000000 in
theorem toward_c (a b : Int) (ta tb : Tok) : ClaimG 81 1 (fun _ _ => b ≠ 0 ∧ b.natAbs < 2 ^ 100) [.int a ta, .int b tb] (RetI (Int.tdiv a b)) := by
  k_with_none
  (k_with "m ktr_enter" => first | (refine' code_defY ?k2 ?k3 ?k4 ?k5 ?kA ?kF ?kK ?k6 ?k7 ?k8 ?k9 ?kB ?_ ?c2 ?c3 ?c4 ?c5; (case kA => exact rfl); (case kF => exact rfl); (case kK => first | exact rfl | assumption); (case k2 => k_asm); (case k3 => k_asm); (case k4 => k_asm); (case k5 => k_asm); (case k6 => k_is); (case k7 => k_is); (case k8 => ktr_room); (case k9 => exact BindsTo.of_eq rfl); (case c5 => decide); (case kB => exact locs rfl); (case c2 => exact rfl); (case c3 => exact rfl); (case c4 => exact rfl); k_whole; intro g' L' h' FG' F' N' X' T'; (try dsimp only); (try k_fold)) | (refine' code_defCY ?k2 ?k3 ?k4 ?k5 ?kA ?kF ?kK ?k6 ?k7 ?k8 ?k9 ?kB ?kD ?_ ?c2 ?c3 ?c4; (case kA => exact rfl); (case kF => exact rfl); (case kK => first | exact rfl | assumption); (case k2 => k_asm); (case k3 => k_asm); (case k4 => k_asm); (case k5 => k_asm); (case k6 => k_is); (case k7 => k_is); (case k8 => ktr_room); (case k9 => exact BindsTo.of_eq rfl); (case kB => exact rfl); (case kD => decide +kernel); (case c2 => exact rfl); (case c3 => exact rfl); (case c4 => exact rfl); k_whole; intro g' L' h' tk' cells' FG' F' N' Y' X' T' l1; (try k_lt l1); k_cells Y'; (try simp only [List.cons_append, List.nil_append] at N'); (try dsimp only); (try k_fold)))
  (k_with "m k_all" => exact all_ne (by assumption) (by first | exact Nat.le_refl _ | exact Nat.le_add_right _ _ | exact Nat.le_trans (Nat.le_add_right _ _) (Nat.le_add_right _ _)))
  (k_with "m binaryOp FloorDiv int int" => (k_here; (refine floordiv_int ?fd0 ?_ (Or.inl (PyProof.noPylong_of_log2 ?fd1))); (case fd0 => exact abs_ne (by assumption)); (case fd1 => exact abs_log (by assumption))))
  ktr_step
  k_steps
  all_goals ktr_rel
  all_goals first | exact toward_pos (by assumption) | exact toward_neg (by assumption)
end
/-! part A2 -/
section
abbrev rngObj (a b : Int) (t u v : Tok) : Obj := { cls := .type "range", dict := none, data := .fields #[.int a t, .int b u, .int 1 v], slots := #[] }
theorem rng_of {h₀ h : Heap} {L r : Addr} {news : List (Addr × Obj)} {a b : Int} {t u v : Tok} (N : News h₀ L h news) (hm : (r, rngObj a b t u v) ∈ news) : IsRange h r a b 1 t u v := (N _ hm).1
section
variable {prog : Program} {w : World} {A : Around} {E : Value → Shared → Prop} {s : Shared} {h₀ : Heap} {L : Addr} {m : Str → Option Value} {news : List (Addr × Obj)} {Q : Value → Shared → Prop}
theorem range1_N {n : Int} {t : Tok} (F : Fr h₀ L s.heap m) (N : News h₀ L s.heap news)
    (h : ∀ r h' tk t₁ u₁ v₁, Fr h₀ L h' m → News h₀ L h' ((r, rngObj 0 n t₁ u₁ v₁) :: news) → Q (.ref r) { s with heap := h', toks := tk }) :
    wpAny (model prog w) A (call (.type "range") [.int n t]) Q E s :=
  range1_rows F N fun h' tk t₁ u₁ v₁ R F' N' _ => h _ h' tk t₁ u₁ v₁ F' fun p hp => by
    rcases List.mem_cons.mp hp with rfl | hp
    · exact ⟨R, Ne.symm (Nat.ne_of_lt F.ns.lt), next_is_new F⟩
    · exact N' p hp
theorem range2_N {a b : Int} {t u : Tok} (F : Fr h₀ L s.heap m) (N : News h₀ L s.heap news)
    (h : ∀ r h' tk t₁ u₁ v₁, Fr h₀ L h' m → News h₀ L h' ((r, rngObj a b t₁ u₁ v₁) :: news) → Q (.ref r) { s with heap := h', toks := tk }) :
    wpAny (model prog w) A (call (.type "range") [.int a t, .int b u]) Q E s :=
  range2_rows F N fun h' tk t₁ u₁ v₁ R F' N' _ => h _ h' tk t₁ u₁ v₁ F' fun p hp => by
    rcases List.mem_cons.mp hp with rfl | hp
    · exact ⟨R, Ne.symm (Nat.ne_of_lt F.ns.lt), next_is_new F⟩
    · exact N' p hp
end
theorem mem_bnd {ks : List Int} {u : Int} {k : Int} (hk : k ∈ ks) (h : ∀ k ∈ ks, 0 ≤ k ∧ k ≤ u) : 0 ≤ k ∧ k ≤ u := h k hk
theorem size64 {vs : List Value} {ks : List Int} (hI : IntsAre vs ks) (hl : ks.length ≤ 64) : vs.toArray.size ≤ sizeLine := by
  rw [List.size_toArray, hI.length, PySem.sizeLine_eq]; omega
set_option maxRecDepth 100000 in
set_option maxHeartbeats 8000000 in
theorem places_c (x b : Int) (tx tb : Tok)  : ClaimG 170 1 (fun _ _ => 1 ≤ b ∧ b ≤ 64) [.int x tx, .int b tb] (RetL (plc x b)) := by
  k_with_none
  (k_with "m ktr_enter" => first | (refine' code_defY ?k2 ?k3 ?k4 ?k5 ?kA ?kF ?kK ?k6 ?k7 ?k8 ?k9 ?kB ?_ ?c2 ?c3 ?c4 ?c5; (case kA => exact rfl); (case kF => exact rfl); (case kK => first | exact rfl | assumption); (case k2 => k_asm); (case k3 => k_asm); (case k4 => k_asm); (case k5 => k_asm); (case k6 => k_is); (case k7 => k_is); (case k8 => ktr_room); (case k9 => exact BindsTo.of_eq rfl); (case c5 => decide); (case kB => exact locs rfl); (case c2 => exact rfl); (case c3 => exact rfl); (case c4 => exact rfl); k_whole; intro g' L' h' FG' F' N' X' T'; (try dsimp only); (try k_fold)) | (refine' code_defCY ?k2 ?k3 ?k4 ?k5 ?kA ?kF ?kK ?k6 ?k7 ?k8 ?k9 ?kB ?kD ?_ ?c2 ?c3 ?c4; (case kA => exact rfl); (case kF => exact rfl); (case kK => first | exact rfl | assumption); (case k2 => k_asm); (case k3 => k_asm); (case k4 => k_asm); (case k5 => k_asm); (case k6 => k_is); (case k7 => k_is); (case k8 => ktr_room); (case k9 => exact BindsTo.of_eq rfl); (case kB => exact rfl); (case kD => decide +kernel); (case c2 => exact rfl); (case c3 => exact rfl); (case c4 => exact rfl); k_whole; intro g' L' h' tk' cells' FG' F' N' Y' X' T' l1; (try k_lt l1); k_cells Y'; (try simp only [List.cons_append, List.nil_append] at N'); (try dsimp only); (try k_fold)))
  (k_with "m k_all" => exact all_ne (by assumption) (by first | exact Nat.le_refl _ | exact Nat.le_add_right _ _ | exact Nat.le_trans (Nat.le_add_right _ _) (Nat.le_add_right _ _)))
  (k_with "m CompEnd" => (refine LCg.CompEnd.intro (by assumption) (by assumption) _ (fun _ hp => hp) (by first | assumption | (simp only [LCg.Off3, and_true]; assumption)) (by first | exact trivial | exact Or.inr ⟨_, by assumption, rfl, _, rfl⟩ | lcg_src | assumption) ?_))
  ktr_step
  k_steps
  all_goals ktr_rel
  all_goals exact plc_is x b
set_option maxRecDepth 100000 in
set_option maxHeartbeats 8000000 in
theorem powersL_c (D : Addr) (vs : List Value) (ks : List Int) : ClaimG 175 1 (fun _ news => (D, LCg.lst vs) ∈ news ∧ IntsAre vs ks ∧ (∀ k ∈ ks, 0 ≤ k ∧ k ≤ 64) ∧ ks.length ≤ 64) [.ref D] (RetI (pws ks)) := by
  k_with_none
  (k_with "m ktr_enter" => first | (refine' code_defY ?k2 ?k3 ?k4 ?k5 ?kA ?kF ?kK ?k6 ?k7 ?k8 ?k9 ?kB ?_ ?c2 ?c3 ?c4 ?c5; (case kA => exact rfl); (case kF => exact rfl); (case kK => first | exact rfl | assumption); (case k2 => k_asm); (case k3 => k_asm); (case k4 => k_asm); (case k5 => k_asm); (case k6 => k_is); (case k7 => k_is); (case k8 => ktr_room); (case k9 => exact BindsTo.of_eq rfl); (case c5 => decide); (case kB => exact locs rfl); (case c2 => exact rfl); (case c3 => exact rfl); (case c4 => exact rfl); k_whole; intro g' L' h' FG' F' N' X' T'; (try dsimp only); (try k_fold)) | (refine' code_defCY ?k2 ?k3 ?k4 ?k5 ?kA ?kF ?kK ?k6 ?k7 ?k8 ?k9 ?kB ?kD ?_ ?c2 ?c3 ?c4; (case kA => exact rfl); (case kF => exact rfl); (case kK => first | exact rfl | assumption); (case k2 => k_asm); (case k3 => k_asm); (case k4 => k_asm); (case k5 => k_asm); (case k6 => k_is); (case k7 => k_is); (case k8 => ktr_room); (case k9 => exact BindsTo.of_eq rfl); (case kB => exact rfl); (case kD => decide +kernel); (case c2 => exact rfl); (case c3 => exact rfl); (case c4 => exact rfl); k_whole; intro g' L' h' tk' cells' FG' F' N' Y' X' T' l1; (try k_lt l1); k_cells Y'; (try simp only [List.cons_append, List.nil_append] at N'); (try dsimp only); (try k_fold)))
  (k_with "m k_all" => exact all_ne (by assumption) (by first | exact Nat.le_refl _ | exact Nat.le_add_right _ _ | exact Nat.le_trans (Nat.le_add_right _ _) (Nat.le_add_right _ _)))
  (k_with "m CompEnd" => (refine LCg.CompEnd.intro (by assumption) (by assumption) _ (fun _ hp => hp) (by first | assumption | (simp only [LCg.Off3, and_true]; assumption)) (by first | exact trivial | exact Or.inr ⟨_, by assumption, rfl, _, rfl⟩ | lcg_src | assumption) ?_))
  (k_with "m eval ListComp" => (k_here; k_dflt (refine LCg.ListComp_U (F₀ := by k_asm) (by with_unfolding_all rfl) (by decide) (by rfl) (by decide) (by rfl) ?_)))
  (k_with "m CompSrc" => (k_here; k_dflt (first | (refine LCg.CompSrc.ledger (by rfl) (by k_asm) (by k_asm) (by assumption) (size64 (by assumption) (by assumption)) ?_; intro g'; (refine' kcf_list (fun k => (2:Int) ^ k.toNat) (by assumption) (fun k' t' I' oI' C' oC' D' m' ys' h' tk' E' hk' hC' hx' F' N' off' ne' hMark' => ?_) ?_); (focus (have hb9 := mem_bnd hk' (by assumption)); (obtain ⟨hb91, hb92⟩ := hb9)); kcf_last) | (refine LCg.CompSrc.range (by rfl) (by k_asm) (by k_asm) (rng_of (by k_asm) (by assumption)) (small_one (by l_bnd) (by l_bnd) (by l_bnd) (by l_bnd)) (rangeSize_nat _ _) (by rw [PySem.sizeLine_eq]; omega) ?_; intro g'; (refine' kcf_range (fun k => (2:Int) ^ k.toNat) (fun k' t' I' oI' C' oC' D' m' ys' h' tk' E' hlo' hhi' hC' hx' F' N' off' ne' hMark' => ?_) ?_); kcf_last))))
  ktr_step
  k_steps
  all_goals ktr_rel
  all_goals rfl
set_option maxRecDepth 100000 in
set_option maxHeartbeats 8000000 in
theorem powersR_c (D : Addr) (lo hi : Int) (tlo thi tst : Tok) : ClaimG 175 1 (fun _ news => (D, rngObj lo hi tlo thi tst) ∈ news ∧ 0 ≤ lo ∧ lo ≤ 64 ∧ hi ≤ 64 ∧ 0 ≤ hi) [.ref D] (RetI (pws (rangeKs lo (hi - lo).toNat))) := by
  k_with_none
  (k_with "m ktr_enter" => first | (refine' code_defY ?k2 ?k3 ?k4 ?k5 ?kA ?kF ?kK ?k6 ?k7 ?k8 ?k9 ?kB ?_ ?c2 ?c3 ?c4 ?c5; (case kA => exact rfl); (case kF => exact rfl); (case kK => first | exact rfl | assumption); (case k2 => k_asm); (case k3 => k_asm); (case k4 => k_asm); (case k5 => k_asm); (case k6 => k_is); (case k7 => k_is); (case k8 => ktr_room); (case k9 => exact BindsTo.of_eq rfl); (case c5 => decide); (case kB => exact locs rfl); (case c2 => exact rfl); (case c3 => exact rfl); (case c4 => exact rfl); k_whole; intro g' L' h' FG' F' N' X' T'; (try dsimp only); (try k_fold)) | (refine' code_defCY ?k2 ?k3 ?k4 ?k5 ?kA ?kF ?kK ?k6 ?k7 ?k8 ?k9 ?kB ?kD ?_ ?c2 ?c3 ?c4; (case kA => exact rfl); (case kF => exact rfl); (case kK => first | exact rfl | assumption); (case k2 => k_asm); (case k3 => k_asm); (case k4 => k_asm); (case k5 => k_asm); (case k6 => k_is); (case k7 => k_is); (case k8 => ktr_room); (case k9 => exact BindsTo.of_eq rfl); (case kB => exact rfl); (case kD => decide +kernel); (case c2 => exact rfl); (case c3 => exact rfl); (case c4 => exact rfl); k_whole; intro g' L' h' tk' cells' FG' F' N' Y' X' T' l1; (try k_lt l1); k_cells Y'; (try simp only [List.cons_append, List.nil_append] at N'); (try dsimp only); (try k_fold)))
  (k_with "m k_all" => exact all_ne (by assumption) (by first | exact Nat.le_refl _ | exact Nat.le_add_right _ _ | exact Nat.le_trans (Nat.le_add_right _ _) (Nat.le_add_right _ _)))
  (k_with "m CompEnd" => (refine LCg.CompEnd.intro (by assumption) (by assumption) _ (fun _ hp => hp) (by first | assumption | (simp only [LCg.Off3, and_true]; assumption)) (by first | exact trivial | exact Or.inr ⟨_, by assumption, rfl, _, rfl⟩ | lcg_src | assumption) ?_))
  (k_with "m eval ListComp" => (k_here; k_dflt (refine LCg.ListComp_U (F₀ := by k_asm) (by with_unfolding_all rfl) (by decide) (by rfl) (by decide) (by rfl) ?_)))
  (k_with "m CompSrc" => (k_here; k_dflt (first | (refine LCg.CompSrc.ledger (by rfl) (by k_asm) (by k_asm) (by assumption) (size64 (by assumption) (by assumption)) ?_; intro g'; (refine' kcf_list (fun k => (2:Int) ^ k.toNat) (by assumption) (fun k' t' I' oI' C' oC' D' m' ys' h' tk' E' hk' hC' hx' F' N' off' ne' hMark' => ?_) ?_); (focus (have hb9 := mem_bnd hk' (by assumption)); (obtain ⟨hb91, hb92⟩ := hb9)); kcf_last) | (refine LCg.CompSrc.range (by rfl) (by k_asm) (by k_asm) (rng_of (by k_asm) (by assumption)) (small_one (by l_bnd) (by l_bnd) (by l_bnd) (by l_bnd)) (rangeSize_nat _ _) (by rw [PySem.sizeLine_eq]; omega) ?_; intro g'; (refine' kcf_range (fun k => (2:Int) ^ k.toNat) (fun k' t' I' oI' C' oC' D' m' ys' h' tk' E' hlo' hhi' hC' hx' F' N' off' ne' hMark' => ?_) ?_); kcf_last))))
  ktr_step
  k_steps
  all_goals ktr_rel
  all_goals rfl
end
/-! part A3 -/
section
set_option maxRecDepth 100000 in
set_option maxHeartbeats 8000000 in
theorem lsigned_c (x b : Int) (tx tb : Tok) : ClaimG 180 3 (fun _ _ => 1 ≤ b ∧ b ≤ 64 ∧ 0 ≤ x ∧ x < 2 ^ b.toNat) [.int x tx, .int b tb] (RetI (sgn x b)) := by
  k_with_none
  (k_with "m ktr_enter" => first | (refine' code_defY ?k2 ?k3 ?k4 ?k5 ?kA ?kF ?kK ?k6 ?k7 ?k8 ?k9 ?kB ?_ ?c2 ?c3 ?c4 ?c5; (case kA => exact rfl); (case kF => exact rfl); (case kK => first | exact rfl | assumption); (case k2 => k_asm); (case k3 => k_asm); (case k4 => k_asm); (case k5 => k_asm); (case k6 => k_is); (case k7 => k_is); (case k8 => ktr_room); (case k9 => exact BindsTo.of_eq rfl); (case c5 => decide); (case kB => exact locs rfl); (case c2 => exact rfl); (case c3 => exact rfl); (case c4 => exact rfl); k_whole; intro g' L' h' FG' F' N' X' T'; (try dsimp only); (try k_fold)) | (refine' code_defCY ?k2 ?k3 ?k4 ?k5 ?kA ?kF ?kK ?k6 ?k7 ?k8 ?k9 ?kB ?kD ?_ ?c2 ?c3 ?c4; (case kA => exact rfl); (case kF => exact rfl); (case kK => first | exact rfl | assumption); (case k2 => k_asm); (case k3 => k_asm); (case k4 => k_asm); (case k5 => k_asm); (case k6 => k_is); (case k7 => k_is); (case k8 => ktr_room); (case k9 => exact BindsTo.of_eq rfl); (case kB => exact rfl); (case kD => decide +kernel); (case c2 => exact rfl); (case c3 => exact rfl); (case c4 => exact rfl); k_whole; intro g' L' h' tk' cells' FG' F' N' Y' X' T' l1; (try k_lt l1); k_cells Y'; (try simp only [List.cons_append, List.nil_append] at N'); (try dsimp only); (try k_fold)))
  (k_with "m k_all" => exact all_ne (by assumption) (by first | exact Nat.le_refl _ | exact Nat.le_add_right _ _ | exact Nat.le_trans (Nat.le_add_right _ _) (Nat.le_add_right _ _)))
  (k_with "m call ref" => (k_here; k_dflt (refine' ClaimG.use (places_c _ _ _ _) ?k2 ?k3 ?k4 ?k5 ?kK ?kp ?kd ?ku ?_); (case k2 => k_asm); (case k3 => k_asm); (case k4 => k_asm); (case k5 => k_asm); (case kK => first | exact rfl | assumption); (case kp => ((try dsimp only); (repeat' (refine And.intro ?_ ?_)); all_goals first | assumption | omega | l_bnd | k_dflt k_mem | exact bnd_up (by assumption) | exact filt_bnd _ (by assumption) | exact filt_len _ (by assumption))); (case kd => ktr_room); (case ku => ktr_units); intro D9 vs9 h9 tk9 F9 N9 I9; (try dsimp only); (have pl9 := plc_len I9 (by omega)); (have pb9 := plc_bnd I9 (by omega)); (try k_fold)))
  (k_with "m call ref" => (k_here; k_dflt (refine' ClaimG.use (powersL_c _ _ _) ?k2 ?k3 ?k4 ?k5 ?kK ?kp ?kd ?ku ?_); (case k2 => k_asm); (case k3 => k_asm); (case k4 => k_asm); (case k5 => k_asm); (case kK => first | exact rfl | assumption); (case kp => ((try dsimp only); (repeat' (refine And.intro ?_ ?_)); all_goals first | assumption | omega | l_bnd | k_dflt k_mem | exact bnd_up (by assumption) | exact filt_bnd _ (by assumption) | exact filt_len _ (by assumption))); (case kd => ktr_room); (case ku => ktr_units); intro t9 h9 tk9 F9 N9; (try dsimp only); (try k_fold)))
  (k_with "m CompEnd" => (refine LCg.CompEnd.intro (by assumption) (by assumption) _ (fun _ hp => hp) (by first | assumption | (simp only [LCg.Off3, and_true]; assumption)) (by first | exact trivial | exact Or.inr ⟨_, by k_mem, rfl, _, rfl⟩ | lcg_src | assumption) ?_))
  (k_with "m CompSrcT" => (k_here; k_dflt ((refine LCt.CompSrcT.ledger (by rfl) (by k_asm) (by k_asm) (by k_mem) (size64 (by assumption) (by assumption)) ?_; intro g'; (refine' kci_list _ (by assumption) (fun k' t' I' oI' C' oC' D' m' ys' l' h' tk' E' hk' hI' hC' hx' F' N' off' ne' => ?_) ?_ ?_); (all_goals (try ((show KPfMark → _); intro hMark'))); kcf_last))))
  (k_with "m call type:range" => (k_here; k_dflt (first | (refine' range1_N ?k1 ?k2 ?_; (case k1 => k_asm); (case k2 => k_asm); k_whole; intro r9 h9 tk9 t91 u91 v91 F9 N9) | (refine' range2_N ?k1 ?k2 ?_; (case k1 => k_asm); (case k2 => k_asm); k_whole; intro r9 h9 tk9 t91 u91 v91 F9 N9))))
  ktr_step
  k_steps
  all_goals ktr_rel
  all_goals first | exact lsg_hi (by assumption) (by assumption) (by assumption) (by assumption) | exact lsg_lo (by assumption) (by assumption) (by assumption) (by assumption)
set_option maxRecDepth 100000 in
set_option maxHeartbeats 8000000 in
theorem ends_c (x z b : Int) (tx tz tb : Tok) : ClaimG 218 20 (fun _ _ => 1 ≤ b ∧ b ≤ 64 ∧ 0 ≤ x ∧ x < 2 ^ b.toNat) [.int x tx, .int z tz, .int b tb] (RetB true) := by
  k_with_none
  (k_with "m ktr_enter" => first | (refine' code_defY ?k2 ?k3 ?k4 ?k5 ?kA ?kF ?kK ?k6 ?k7 ?k8 ?k9 ?kB ?_ ?c2 ?c3 ?c4 ?c5; (case kA => exact rfl); (case kF => exact rfl); (case kK => first | exact rfl | assumption); (case k2 => k_asm); (case k3 => k_asm); (case k4 => k_asm); (case k5 => k_asm); (case k6 => k_is); (case k7 => k_is); (case k8 => ktr_room); (case k9 => exact BindsTo.of_eq rfl); (case c5 => decide); (case kB => exact locs rfl); (case c2 => exact rfl); (case c3 => exact rfl); (case c4 => exact rfl); k_whole; intro g' L' h' FG' F' N' X' T'; (try dsimp only); (try k_fold)) | (refine' code_defCY ?k2 ?k3 ?k4 ?k5 ?kA ?kF ?kK ?k6 ?k7 ?k8 ?k9 ?kB ?kD ?_ ?c2 ?c3 ?c4; (case kA => exact rfl); (case kF => exact rfl); (case kK => first | exact rfl | assumption); (case k2 => k_asm); (case k3 => k_asm); (case k4 => k_asm); (case k5 => k_asm); (case k6 => k_is); (case k7 => k_is); (case k8 => ktr_room); (case k9 => exact BindsTo.of_eq rfl); (case kB => exact rfl); (case kD => decide +kernel); (case c2 => exact rfl); (case c3 => exact rfl); (case c4 => exact rfl); k_whole; intro g' L' h' tk' cells' FG' F' N' Y' X' T' l1; (try k_lt l1); k_cells Y'; (try simp only [List.cons_append, List.nil_append] at N'); (try dsimp only); (try k_fold)))
  (k_with "m k_all" => exact all_ne (by assumption) (by first | exact Nat.le_refl _ | exact Nat.le_add_right _ _ | exact Nat.le_trans (Nat.le_add_right _ _) (Nat.le_add_right _ _)))
  (k_with "m call ref" => (k_here; k_dflt (refine' ClaimG.use (places_c _ _ _ _) ?k2 ?k3 ?k4 ?k5 ?kK ?kp ?kd ?ku ?_); (case k2 => k_asm); (case k3 => k_asm); (case k4 => k_asm); (case k5 => k_asm); (case kK => first | exact rfl | assumption); (case kp => ((try dsimp only); (repeat' (refine And.intro ?_ ?_)); all_goals first | assumption | omega | l_bnd | k_dflt k_mem | exact bnd_up (by assumption) | exact filt_bnd _ (by assumption) | exact filt_len _ (by assumption))); (case kd => ktr_room); (case ku => ktr_units); intro D9 vs9 h9 tk9 F9 N9 I9; (try dsimp only); (have pl9 := plc_len I9 (by omega)); (have pb9 := plc_bnd I9 (by omega)); (try k_fold)))
  (k_with "m call ref" => (k_here; k_dflt (refine' ClaimG.use (powersL_c _ _ _) ?k2 ?k3 ?k4 ?k5 ?kK ?kp ?kd ?ku ?_); (case k2 => k_asm); (case k3 => k_asm); (case k4 => k_asm); (case k5 => k_asm); (case kK => first | exact rfl | assumption); (case kp => ((try dsimp only); (repeat' (refine And.intro ?_ ?_)); all_goals first | assumption | omega | l_bnd | k_dflt k_mem | exact bnd_up (by assumption) | exact filt_bnd _ (by assumption) | exact filt_len _ (by assumption))); (case kd => ktr_room); (case ku => ktr_units); intro t9 h9 tk9 F9 N9; (try dsimp only); (try k_fold)))
  (k_with "m CompEnd" => (refine LCg.CompEnd.intro (by assumption) (by assumption) _ (fun _ hp => hp) (by first | assumption | (simp only [LCg.Off3, and_true]; assumption)) (by first | exact trivial | exact Or.inr ⟨_, by k_mem, rfl, _, rfl⟩ | lcg_src | assumption) ?_))
  (k_with "m CompSrcT" => (k_here; k_dflt ((refine LCt.CompSrcT.ledger (by rfl) (by k_asm) (by k_asm) (by k_mem) (size64 (by assumption) (by assumption)) ?_; intro g'; (refine' kci_list _ (by assumption) (fun k' t' I' oI' C' oC' D' m' ys' l' h' tk' E' hk' hI' hC' hx' F' N' off' ne' => ?_) ?_ ?_); (all_goals (try ((show KPfMark → _); intro hMark'))); kcf_last))))
  (k_with "m call type:range" => (k_here; k_dflt (first | (refine' range1_N ?k1 ?k2 ?_; (case k1 => k_asm); (case k2 => k_asm); k_whole; intro r9 h9 tk9 t91 u91 v91 F9 N9) | (refine' range2_N ?k1 ?k2 ?_; (case k1 => k_asm); (case k2 => k_asm); k_whole; intro r9 h9 tk9 t91 u91 v91 F9 N9))))
  (k_with "m call ref" => (k_here; k_dflt (refine' ClaimG.use (unsigned_c _ _ _ _) ?k2 ?k3 ?k4 ?k5 ?kK ?kp ?kd ?ku ?_); (case k2 => k_asm); (case k3 => k_asm); (case k4 => k_asm); (case k5 => k_asm); (case kK => first | exact rfl | assumption); (case kp => ((try dsimp only); (repeat' (refine And.intro ?_ ?_)); all_goals first | assumption | omega | l_bnd | k_dflt k_mem | exact bnd_up (by assumption) | exact filt_bnd _ (by assumption) | exact filt_len _ (by assumption))); (case kd => ktr_room); (case ku => ktr_units); intro t9 h9 tk9 F9 N9; (try dsimp only); (try k_fold)))
  (k_with "m call ref" => (k_here; k_dflt (refine' ClaimG.use (signed_c _ _ _ _) ?k2 ?k3 ?k4 ?k5 ?kK ?kp ?kd ?ku ?_); (case k2 => k_asm); (case k3 => k_asm); (case k4 => k_asm); (case k5 => k_asm); (case kK => first | exact rfl | assumption); (case kp => ((try dsimp only); (repeat' (refine And.intro ?_ ?_)); all_goals first | assumption | omega | l_bnd | k_dflt k_mem | exact bnd_up (by assumption) | exact filt_bnd _ (by assumption) | exact filt_len _ (by assumption))); (case kd => ktr_room); (case ku => ktr_units); intro t9 h9 tk9 F9 N9; (try dsimp only); (try k_fold)))
  (k_with "m call ref" => (k_here; k_dflt (refine' ClaimG.use (least_c _ _) ?k2 ?k3 ?k4 ?k5 ?kK ?kp ?kd ?ku ?_); (case k2 => k_asm); (case k3 => k_asm); (case k4 => k_asm); (case k5 => k_asm); (case kK => first | exact rfl | assumption); (case kp => ((try dsimp only); (repeat' (refine And.intro ?_ ?_)); all_goals first | assumption | omega | l_bnd | k_dflt k_mem | exact bnd_up (by assumption) | exact filt_bnd _ (by assumption) | exact filt_len _ (by assumption))); (case kd => ktr_room); (case ku => ktr_units); intro t9 h9 tk9 F9 N9; (try dsimp only); (try k_fold)))
  (k_with "m call ref" => (k_here; k_dflt (refine' ClaimG.use (greatest_c _ _) ?k2 ?k3 ?k4 ?k5 ?kK ?kp ?kd ?ku ?_); (case k2 => k_asm); (case k3 => k_asm); (case k4 => k_asm); (case k5 => k_asm); (case kK => first | exact rfl | assumption); (case kp => ((try dsimp only); (repeat' (refine And.intro ?_ ?_)); all_goals first | assumption | omega | l_bnd | k_dflt k_mem | exact bnd_up (by assumption) | exact filt_bnd _ (by assumption) | exact filt_len _ (by assumption))); (case kd => ktr_room); (case ku => ktr_units); intro t9 h9 tk9 F9 N9; (try dsimp only); (try k_fold)))
  (k_with "m call ref" => (k_here; k_dflt (refine' ClaimG.use (powersR_c _ _ _ _ _ _) ?k2 ?k3 ?k4 ?k5 ?kK ?kp ?kd ?ku ?_); (case k2 => k_asm); (case k3 => k_asm); (case k4 => k_asm); (case k5 => k_asm); (case kK => first | exact rfl | assumption); (case kp => ((try dsimp only); (repeat' (refine And.intro ?_ ?_)); all_goals first | assumption | omega | l_bnd | k_dflt k_mem | exact bnd_up (by assumption) | exact filt_bnd _ (by assumption) | exact filt_len _ (by assumption))); (case kd => ktr_room); (case ku => ktr_units); intro t9 h9 tk9 F9 N9; (try dsimp only); (try k_fold)))
  (k_with "m call ref" => (k_here; k_dflt (refine' ClaimG.use (lsigned_c _ _ _ _) ?k2 ?k3 ?k4 ?k5 ?kK ?kp ?kd ?ku ?_); (case k2 => k_asm); (case k3 => k_asm); (case k4 => k_asm); (case k5 => k_asm); (case kK => first | exact rfl | assumption); (case kp => ((try dsimp only); (repeat' (refine And.intro ?_ ?_)); all_goals first | assumption | omega | l_bnd | k_dflt k_mem | exact bnd_up (by assumption) | exact filt_bnd _ (by assumption) | exact filt_len _ (by assumption))); (case kd => ktr_room); (case ku => ktr_units); intro t9 h9 tk9 F9 N9; (try dsimp only); (try k_fold)))
  ktr_step
  k_steps
  all_goals ktr_rel
  all_goals exact ends_fin (by assumption)
end
/-! part A4 -/
section
set_option maxRecDepth 100000 in
set_option maxHeartbeats 8000000 in
theorem rotl_c (x y b : Int) (tx ty tb : Tok) : ClaimG 137 5 (fun _ _ => 1 ≤ b ∧ b ≤ 64 ∧ 0 ≤ x ∧ x < 2 ^ b.toNat) [.int x tx, .int y ty, .int b tb] (RetI (Builtin.bitOr (x * 2 ^ (y.fmod b).toNat % 2 ^ b.toNat) (x.fdiv (2 ^ (b - y.fmod b).toNat)))) := by
  k_with_none
  (k_with "m ktr_enter" => first | (refine' code_defY ?k2 ?k3 ?k4 ?k5 ?kA ?kF ?kK ?k6 ?k7 ?k8 ?k9 ?kB ?_ ?c2 ?c3 ?c4 ?c5; (case kA => exact rfl); (case kF => exact rfl); (case kK => first | exact rfl | assumption); (case k2 => k_asm); (case k3 => k_asm); (case k4 => k_asm); (case k5 => k_asm); (case k6 => k_is); (case k7 => k_is); (case k8 => ktr_room); (case k9 => exact BindsTo.of_eq rfl); (case c5 => decide); (case kB => exact locs rfl); (case c2 => exact rfl); (case c3 => exact rfl); (case c4 => exact rfl); k_whole; intro g' L' h' FG' F' N' X' T'; (try dsimp only); (try k_fold)) | (refine' code_defCY ?k2 ?k3 ?k4 ?k5 ?kA ?kF ?kK ?k6 ?k7 ?k8 ?k9 ?kB ?kD ?_ ?c2 ?c3 ?c4; (case kA => exact rfl); (case kF => exact rfl); (case kK => first | exact rfl | assumption); (case k2 => k_asm); (case k3 => k_asm); (case k4 => k_asm); (case k5 => k_asm); (case k6 => k_is); (case k7 => k_is); (case k8 => ktr_room); (case k9 => exact BindsTo.of_eq rfl); (case kB => exact rfl); (case kD => decide +kernel); (case c2 => exact rfl); (case c3 => exact rfl); (case c4 => exact rfl); k_whole; intro g' L' h' tk' cells' FG' F' N' Y' X' T' l1; (try k_lt l1); k_cells Y'; (try simp only [List.cons_append, List.nil_append] at N'); (try dsimp only); (try k_fold)))
  (k_with "m k_all" => exact all_ne (by assumption) (by first | exact Nat.le_refl _ | exact Nat.le_add_right _ _ | exact Nat.le_trans (Nat.le_add_right _ _) (Nat.le_add_right _ _)))
  (k_with "m CompEnd" => (refine LCg.CompEnd.intro (by assumption) (by assumption) _ (fun _ hp => hp) (by first | assumption | (simp only [LCg.Off3, and_true]; assumption)) (by first | exact trivial | exact Or.inr ⟨_, by k_mem, rfl, _, rfl⟩ | lcg_src | assumption) ?_))
  (k_with "m CompSrcT" => (k_here; k_dflt ((refine LCt.CompSrcT.ledger (by rfl) (by k_asm) (by k_asm) (by k_mem) (size64 (by assumption) (by assumption)) ?_; intro g'; (refine' kci_list _ (by assumption) (fun k' t' I' oI' C' oC' D' m' ys' l' h' tk' E' hk' hI' hC' hx' F' N' off' ne' => ?_) ?_ ?_); (all_goals (try ((show KPfMark → _); intro hMark'))); kcf_last))))
  (k_with "m call type:range" => (k_here; k_dflt (first | (refine' range1_N ?k1 ?k2 ?_; (case k1 => k_asm); (case k2 => k_asm); k_whole; intro r9 h9 tk9 t91 u91 v91 F9 N9) | (refine' range2_N ?k1 ?k2 ?_; (case k1 => k_asm); (case k2 => k_asm); k_whole; intro r9 h9 tk9 t91 u91 v91 F9 N9))))
  (k_with "m eval ListComp" => (k_here; kcf_look; k_dflt (refine LCg.ListComp_U (F₀ := by k_asm) (by with_unfolding_all rfl) (by decide) (by rfl) (by decide) (by rfl) ?_)))
  (k_with "m CompSrc" => (k_here; k_dflt (refine LCg.CompSrc.ledger (by rfl) (by k_asm) (by k_asm) (by k_mem) (size64 (by assumption) (by assumption)) ?_; intro g'; (refine' kcf_list _ (by assumption) (fun k' t' I' oI' C' oC' D' m' ys' h' tk' E' hk' hC' hx' F' N' off' ne' hMark' => ?_) ?_); kcf_last)))
  (k_with "m binaryOp LShift int int" => (k_here; (try k_fmods); (with_reducible refine lshift_int_small ?kb1 ?kb2 ?kb3 ?_); (case kb1 => l_bnd); (case kb2 => l_bnd); (case kb3 => assumption)))
  (k_with "m call ref" => (k_here; k_dflt (refine' ClaimG.use (unsigned_c _ _ _ _) ?k2 ?k3 ?k4 ?k5 ?kK ?kp ?kd ?ku ?_); (case k2 => k_asm); (case k3 => k_asm); (case k4 => k_asm); (case k5 => k_asm); (case kK => first | exact rfl | assumption); (case kp => ((try dsimp only); (repeat' (refine And.intro ?_ ?_)); all_goals first | assumption | omega | l_bnd | k_dflt k_mem | exact bnd_up (by assumption) | exact filt_bnd _ (by assumption) | exact filt_len _ (by assumption) | exact fm_bnd _ _ (by assumption) (by intro k h1 h2 h3; (try dsimp only at h3 ⊢); omega) | exact fm_len _ _ (by assumption) | exact mp_bnd _ (by assumption) (by assumption) _ | exact mp_len _ (by assumption))); (case kd => ktr_room); (case ku => ktr_units); intro t9 h9 tk9 F9 N9; (try dsimp only); (try k_fold)))
  (k_with "m call ref" => (k_here; k_dflt (refine' ClaimG.use (signed_c _ _ _ _) ?k2 ?k3 ?k4 ?k5 ?kK ?kp ?kd ?ku ?_); (case k2 => k_asm); (case k3 => k_asm); (case k4 => k_asm); (case k5 => k_asm); (case kK => first | exact rfl | assumption); (case kp => ((try dsimp only); (repeat' (refine And.intro ?_ ?_)); all_goals first | assumption | omega | l_bnd | k_dflt k_mem | exact bnd_up (by assumption) | exact filt_bnd _ (by assumption) | exact filt_len _ (by assumption) | exact fm_bnd _ _ (by assumption) (by intro k h1 h2 h3; (try dsimp only at h3 ⊢); omega) | exact fm_len _ _ (by assumption) | exact mp_bnd _ (by assumption) (by assumption) _ | exact mp_len _ (by assumption))); (case kd => ktr_room); (case ku => ktr_units); intro t9 h9 tk9 F9 N9; (try dsimp only); (try k_fold)))
  (k_with "m call ref" => (k_here; k_dflt (refine' ClaimG.use (places_c _ _ _ _) ?k2 ?k3 ?k4 ?k5 ?kK ?kp ?kd ?ku ?_); (case k2 => k_asm); (case k3 => k_asm); (case k4 => k_asm); (case k5 => k_asm); (case kK => first | exact rfl | assumption); (case kp => ((try dsimp only); (repeat' (refine And.intro ?_ ?_)); all_goals first | assumption | omega | l_bnd | k_dflt k_mem | exact bnd_up (by assumption) | exact filt_bnd _ (by assumption) | exact filt_len _ (by assumption) | exact fm_bnd _ _ (by assumption) (by intro k h1 h2 h3; (try dsimp only at h3 ⊢); omega) | exact fm_len _ _ (by assumption) | exact mp_bnd _ (by assumption) (by assumption) _ | exact mp_len _ (by assumption))); (case kd => ktr_room); (case ku => ktr_units); intro D9 vs9 h9 tk9 F9 N9 I9; (try dsimp only); (have pl9 := plc_len I9 (by omega)); (have pb9 := plc_bnd I9 (by omega)); (try k_fold)))
  (k_with "m call ref" => (k_here; k_dflt (refine' ClaimG.use (powersL_c _ _ _) ?k2 ?k3 ?k4 ?k5 ?kK ?kp ?kd ?ku ?_); (case k2 => k_asm); (case k3 => k_asm); (case k4 => k_asm); (case k5 => k_asm); (case kK => first | exact rfl | assumption); (case kp => ((try dsimp only); (repeat' (refine And.intro ?_ ?_)); all_goals first | assumption | omega | l_bnd | k_dflt k_mem | exact bnd_up (by assumption) | exact filt_bnd _ (by assumption) | exact filt_len _ (by assumption) | exact fm_bnd _ _ (by assumption) (by intro k h1 h2 h3; (try dsimp only at h3 ⊢); omega) | exact fm_len _ _ (by assumption) | exact mp_bnd _ (by assumption) (by assumption) _ | exact mp_len _ (by assumption))); (case kd => ktr_room); (case ku => ktr_units); intro t9 h9 tk9 F9 N9; (replace N9 := News.tail' N9); (try dsimp only); (try k_fold)))
  (k_with "m call ref" => (k_here; k_dflt (refine' ClaimG.use (powersR_c _ _ _ _ _ _) ?k2 ?k3 ?k4 ?k5 ?kK ?kp ?kd ?ku ?_); (case k2 => k_asm); (case k3 => k_asm); (case k4 => k_asm); (case k5 => k_asm); (case kK => first | exact rfl | assumption); (case kp => ((try dsimp only); (repeat' (refine And.intro ?_ ?_)); all_goals first | assumption | omega | l_bnd | k_dflt k_mem | exact bnd_up (by assumption) | exact filt_bnd _ (by assumption) | exact filt_len _ (by assumption) | exact fm_bnd _ _ (by assumption) (by intro k h1 h2 h3; (try dsimp only at h3 ⊢); omega) | exact fm_len _ _ (by assumption) | exact mp_bnd _ (by assumption) (by assumption) _ | exact mp_len _ (by assumption))); (case kd => ktr_room); (case ku => ktr_units); intro t9 h9 tk9 F9 N9; (replace N9 := News.tail' N9); (try dsimp only); (try k_fold)))
  ktr_step
  obtain ⟨hy1, hy2⟩ := fmod_bnd y (b := b) (by assumption)
  have hx64 := lt64 (x := x) (b := b) (by assumption) (by assumption) (by assumption)
  k_steps
  all_goals ktr_rel
  all_goals rfl
set_option profiler true in
set_option profiler.threshold 500 in
def JMark : Prop := True
theorem join_int {M : Model} {A : Around} {T : Sem Value} {h₀ : Heap} {L : Addr} {m : Str → Option Value} {news : List (Addr × Obj)} {s : Shared} {Q E : Value → Shared → Prop} (x : Int) (_F : Fr h₀ L s.heap m) (_N : News h₀ L s.heap news)
    (h1 : ∀ Q' : Value → Shared → Prop, JMark → RetI x h₀ L m news s Q' → wpAny M A T Q' E s) (h2 : ∀ (t : Tok) (h' : Heap) (tk' : Nat), Fr h₀ L h' m → News h₀ L h' news → Q (.int x t) { s with heap := h', toks := tk' }) : wpAny M A T Q E s := h1 Q True.intro h2
def spr (x y b : Int) : Int := (sgn x b).fdiv (2 ^ (y.fmod b).toNat) % 2 ^ b.toNat - x / 2 ^ (y.fmod b).toNat
theorem spr_eq (x y b : Int) : (sgn x b).fdiv (2 ^ (y.fmod b).toNat) % 2 ^ b.toNat = x / 2 ^ (y.fmod b).toNat + spr x y b := by
  unfold spr; rw [Int.add_comm, Int.sub_add_cancel]
theorem spr_hi {x y b : Int} (hb : 1 ≤ b) (hx0 : 0 ≤ x) (hx : x < 2 ^ b.toNat) (h : ((plc x b).any fun x => x == b - 1) = true) : pws (rangeKs (b - y.fmod b) (b - (b - y.fmod b)).toNat) = spr x y b := by
  unfold spr; rw [spread_hi hb hx0 hx h, Int.add_comm, Int.add_sub_cancel]
theorem spr_lo {x y b : Int} (hb : 1 ≤ b) (hx0 : 0 ≤ x) (hx : x < 2 ^ b.toNat) (h : ((plc x b).any fun x => x == b - 1) = false) : 0 = spr x y b := by
  unfold spr; rw [spread_lo hb hx0 hx h, Int.add_zero, Int.sub_self]
set_option maxRecDepth 100000 in
set_option maxHeartbeats 8000000 in
theorem moves_c (x y b : Int) (tx ty tb : Tok) : ClaimG 211 20 (fun _ _ => 1 ≤ b ∧ b ≤ 64 ∧ 0 ≤ x ∧ x < 2 ^ b.toNat ∧ 0 ≤ y ∧ y < 2 ^ b.toNat) [.int x tx, .int y ty, .int b tb] (RetB true) := by
  k_with_none
  (k_with "m ktr_enter" => first | (refine' code_defY ?k2 ?k3 ?k4 ?k5 ?kA ?kF ?kK ?k6 ?k7 ?k8 ?k9 ?kB ?_ ?c2 ?c3 ?c4 ?c5; (case kA => exact rfl); (case kF => exact rfl); (case kK => first | exact rfl | assumption); (case k2 => k_asm); (case k3 => k_asm); (case k4 => k_asm); (case k5 => k_asm); (case k6 => k_is); (case k7 => k_is); (case k8 => ktr_room); (case k9 => exact BindsTo.of_eq rfl); (case c5 => decide); (case kB => exact locs rfl); (case c2 => exact rfl); (case c3 => exact rfl); (case c4 => exact rfl); k_whole; intro g' L' h' FG' F' N' X' T'; (try dsimp only); (try k_fold)) | (refine' code_defCY ?k2 ?k3 ?k4 ?k5 ?kA ?kF ?kK ?k6 ?k7 ?k8 ?k9 ?kB ?kD ?_ ?c2 ?c3 ?c4; (case kA => exact rfl); (case kF => exact rfl); (case kK => first | exact rfl | assumption); (case k2 => k_asm); (case k3 => k_asm); (case k4 => k_asm); (case k5 => k_asm); (case k6 => k_is); (case k7 => k_is); (case k8 => ktr_room); (case k9 => exact BindsTo.of_eq rfl); (case kB => exact rfl); (case kD => decide +kernel); (case c2 => exact rfl); (case c3 => exact rfl); (case c4 => exact rfl); k_whole; intro g' L' h' tk' cells' FG' F' N' Y' X' T' l1; (try k_lt l1); k_cells Y'; (try simp only [List.cons_append, List.nil_append] at N'); (try dsimp only); (try k_fold)))
  (k_with "m k_all" => exact all_ne (by assumption) (by first | exact Nat.le_refl _ | exact Nat.le_add_right _ _ | exact Nat.le_trans (Nat.le_add_right _ _) (Nat.le_add_right _ _)))
  (k_with "m CompEnd" => (refine LCg.CompEnd.intro (by assumption) (by assumption) _ (fun _ hp => hp) (by first | assumption | (simp only [LCg.Off3, and_true]; assumption)) (by first | exact trivial | exact Or.inr ⟨_, by k_mem, rfl, _, rfl⟩ | lcg_src | assumption) ?_))
  (k_with "m CompSrcT" => (k_here; k_dflt ((refine LCt.CompSrcT.ledger (by rfl) (by k_asm) (by k_asm) (by k_mem) (size64 (by assumption) (by assumption)) ?_; intro g'; (refine' kci_list _ (by assumption) (fun k' t' I' oI' C' oC' D' m' ys' l' h' tk' E' hk' hI' hC' hx' F' N' off' ne' => ?_) ?_ ?_); (all_goals (try ((show KPfMark → _); intro hMark'))); kcf_last))))
  (k_with "m call type:range" => (k_here; k_dflt (first | (refine' range1_N ?k1 ?k2 ?_; (case k1 => k_asm); (case k2 => k_asm); k_whole; intro r9 h9 tk9 t91 u91 v91 F9 N9) | (refine' range2_N ?k1 ?k2 ?_; (case k1 => k_asm); (case k2 => k_asm); k_whole; intro r9 h9 tk9 t91 u91 v91 F9 N9))))
  (k_with "m eval ListComp" => (k_here; kcf_look; k_dflt (refine LCg.ListComp_U (F₀ := by k_asm) (by with_unfolding_all rfl) (by decide) (by rfl) (by decide) (by rfl) ?_)))
  (k_with "m CompSrc" => (k_here; k_dflt (refine LCg.CompSrc.ledger (by rfl) (by k_asm) (by k_asm) (by k_mem) (size64 (by assumption) (by assumption)) ?_; intro g'; (refine' kcf_list _ (by assumption) (fun k' t' I' oI' C' oC' D' m' ys' h' tk' E' hk' hC' hx' F' N' off' ne' hMark' => ?_) ?_); kcf_last)))
  (k_with "m binaryOp LShift int int" => (k_here; (try k_fmods); (with_reducible refine lshift_int_small ?kb1 ?kb2 ?kb3 ?_); (case kb1 => l_bnd); (case kb2 => l_bnd); (case kb3 => assumption)))
  (k_with "m call ref" => (k_here; k_dflt (refine' ClaimG.use (unsigned_c _ _ _ _) ?k2 ?k3 ?k4 ?k5 ?kK ?kp ?kd ?ku ?_); (case k2 => k_asm); (case k3 => k_asm); (case k4 => k_asm); (case k5 => k_asm); (case kK => first | exact rfl | assumption); (case kp => ((try dsimp only); (repeat' (refine And.intro ?_ ?_)); all_goals first | assumption | omega | l_bnd | k_dflt k_mem | exact bnd_up (by assumption) | exact filt_bnd _ (by assumption) | exact filt_len _ (by assumption) | exact fm_bnd _ _ (by assumption) (by intro k h1 h2 h3; (try dsimp only at h3 ⊢); omega) | exact fm_len _ _ (by assumption) | exact mp_bnd _ (by assumption) (by assumption) _ | exact mp_len _ (by assumption))); (case kd => ktr_room); (case ku => ktr_units); intro t9 h9 tk9 F9 N9; (try dsimp only); (try k_fold)))
  (k_with "m call ref" => (k_here; k_dflt (refine' ClaimG.use (signed_c _ _ _ _) ?k2 ?k3 ?k4 ?k5 ?kK ?kp ?kd ?ku ?_); (case k2 => k_asm); (case k3 => k_asm); (case k4 => k_asm); (case k5 => k_asm); (case kK => first | exact rfl | assumption); (case kp => ((try dsimp only); (repeat' (refine And.intro ?_ ?_)); all_goals first | assumption | omega | l_bnd | k_dflt k_mem | exact bnd_up (by assumption) | exact filt_bnd _ (by assumption) | exact filt_len _ (by assumption) | exact fm_bnd _ _ (by assumption) (by intro k h1 h2 h3; (try dsimp only at h3 ⊢); omega) | exact fm_len _ _ (by assumption) | exact mp_bnd _ (by assumption) (by assumption) _ | exact mp_len _ (by assumption))); (case kd => ktr_room); (case ku => ktr_units); intro t9 h9 tk9 F9 N9; (try dsimp only); (try k_fold)))
  (k_with "m call ref" => (k_here; k_dflt (refine' ClaimG.use (places_c _ _ _ _) ?k2 ?k3 ?k4 ?k5 ?kK ?kp ?kd ?ku ?_); (case k2 => k_asm); (case k3 => k_asm); (case k4 => k_asm); (case k5 => k_asm); (case kK => first | exact rfl | assumption); (case kp => ((try dsimp only); (repeat' (refine And.intro ?_ ?_)); all_goals first | assumption | omega | l_bnd | k_dflt k_mem | exact bnd_up (by assumption) | exact filt_bnd _ (by assumption) | exact filt_len _ (by assumption) | exact fm_bnd _ _ (by assumption) (by intro k h1 h2 h3; (try dsimp only at h3 ⊢); omega) | exact fm_len _ _ (by assumption) | exact mp_bnd _ (by assumption) (by assumption) _ | exact mp_len _ (by assumption))); (case kd => ktr_room); (case ku => ktr_units); intro D9 vs9 h9 tk9 F9 N9 I9; (try dsimp only); (have pl9 := plc_len I9 (by omega)); (have pb9 := plc_bnd I9 (by omega)); (try k_fold)))
  (k_with "m call ref" => (k_here; k_dflt (refine' ClaimG.use (powersL_c _ _ _) ?k2 ?k3 ?k4 ?k5 ?kK ?kp ?kd ?ku ?_); (case k2 => k_asm); (case k3 => k_asm); (case k4 => k_asm); (case k5 => k_asm); (case kK => first | exact rfl | assumption); (case kp => ((try dsimp only); (repeat' (refine And.intro ?_ ?_)); all_goals first | assumption | omega | l_bnd | k_dflt k_mem | exact bnd_up (by assumption) | exact filt_bnd _ (by assumption) | exact filt_len _ (by assumption) | exact fm_bnd _ _ (by assumption) (by intro k h1 h2 h3; (try dsimp only at h3 ⊢); omega) | exact fm_len _ _ (by assumption) | exact mp_bnd _ (by assumption) (by assumption) _ | exact mp_len _ (by assumption))); (case kd => ktr_room); (case ku => ktr_units); intro t9 h9 tk9 F9 N9; (replace N9 := News.tail' N9); (try dsimp only); (try k_fold)))
  (k_with "m call ref" => (k_here; k_dflt (refine' ClaimG.use (powersR_c _ _ _ _ _ _) ?k2 ?k3 ?k4 ?k5 ?kK ?kp ?kd ?ku ?_); (case k2 => k_asm); (case k3 => k_asm); (case k4 => k_asm); (case k5 => k_asm); (case kK => first | exact rfl | assumption); (case kp => ((try dsimp only); (repeat' (refine And.intro ?_ ?_)); all_goals first | assumption | omega | l_bnd | k_dflt k_mem | exact bnd_up (by assumption) | exact filt_bnd _ (by assumption) | exact filt_len _ (by assumption) | exact fm_bnd _ _ (by assumption) (by intro k h1 h2 h3; (try dsimp only at h3 ⊢); omega) | exact fm_len _ _ (by assumption) | exact mp_bnd _ (by assumption) (by assumption) _ | exact mp_len _ (by assumption))); (case kd => ktr_room); (case ku => ktr_units); intro t9 h9 tk9 F9 N9; (replace N9 := News.tail' N9); (try dsimp only); (try k_fold)))
  (k_with "m call ref" => (k_here; k_dflt (refine' ClaimG.use (rotl_c _ _ _ _ _ _) ?k2 ?k3 ?k4 ?k5 ?kK ?kp ?kd ?ku ?_); (case k2 => k_asm); (case k3 => k_asm); (case k4 => k_asm); (case k5 => k_asm); (case kK => first | exact rfl | assumption); (case kp => ((try dsimp only); (repeat' (refine And.intro ?_ ?_)); all_goals first | assumption | omega | l_bnd | k_dflt k_mem | exact bnd_up (by assumption) | exact filt_bnd _ (by assumption) | exact filt_len _ (by assumption) | exact fm_bnd _ _ (by assumption) (by intro k h1 h2 h3; (try dsimp only at h3 ⊢); omega) | exact fm_len _ _ (by assumption) | exact mp_bnd _ (by assumption) (by assumption) _ | exact mp_len _ (by assumption))); (case kd => ktr_room); (case ku => ktr_units); intro t9 h9 tk9 F9 N9; (try dsimp only); (try k_fold)))
  (k_with "m eval IfExp" => k_extra "m2 eval IfExp")
  ktr_step
  obtain ⟨hy1, hy2⟩ := fmod_bnd y (b := b) (by assumption)
  have hx64 := lt64 (x := x) (b := b) (by assumption) (by assumption) (by assumption)
  (k_with "m2 eval IfExp" => (k_here; (fail_if_success (rename JMark => jM)); k_dflt (refine' join_int (spr x y b) ?k1 ?k2 ?_ ?_; (case k1 => k_asm); (case k2 => k_asm)); (focus (intro Q9 jM9 hQ9)); (rotate_left; intro t9 h9 tk9 F9 N9; (try dsimp only); (try k_fold)); rotate_left))
  k_steps
  all_goals ktr_rel
  all_goals first
    | exact spr_hi (by assumption) (by assumption) (by assumption) (by assumption)
    | exact spr_lo (by assumption) (by assumption) (by assumption) (by assumption)
    | exact moves_fin (by assumption) (by assumption) (by assumption) (spr_eq _ _ _)
end
/-! part A5 -/
section
set_option maxRecDepth 100000 in
set_option maxHeartbeats 8000000 in
theorem width_c (d k : Int) (td tk : Tok) : ClaimG 158 1 (fun _ _ => True) [.int d td, .int k tk] (RetP fun w => 1 ≤ w ∧ w ≤ 64) := by
  k_with_none
  (k_with "m ktr_enter" => first | (refine' code_defY ?k2 ?k3 ?k4 ?k5 ?kA ?kF ?kK ?k6 ?k7 ?k8 ?k9 ?kB ?_ ?c2 ?c3 ?c4 ?c5; (case kA => exact rfl); (case kF => exact rfl); (case kK => first | exact rfl | assumption); (case k2 => k_asm); (case k3 => k_asm); (case k4 => k_asm); (case k5 => k_asm); (case k6 => k_is); (case k7 => k_is); (case k8 => ktr_room); (case k9 => exact BindsTo.of_eq rfl); (case c5 => decide); (case kB => exact locs rfl); (case c2 => exact rfl); (case c3 => exact rfl); (case c4 => exact rfl); k_whole; intro g' L' h' FG' F' N' X' T'; (try dsimp only); (try k_fold)) | (refine' code_defCY ?k2 ?k3 ?k4 ?k5 ?kA ?kF ?kK ?k6 ?k7 ?k8 ?k9 ?kB ?kD ?_ ?c2 ?c3 ?c4; (case kA => exact rfl); (case kF => exact rfl); (case kK => first | exact rfl | assumption); (case k2 => k_asm); (case k3 => k_asm); (case k4 => k_asm); (case k5 => k_asm); (case k6 => k_is); (case k7 => k_is); (case k8 => ktr_room); (case k9 => exact BindsTo.of_eq rfl); (case kB => exact rfl); (case kD => decide +kernel); (case c2 => exact rfl); (case c3 => exact rfl); (case c4 => exact rfl); k_whole; intro g' L' h' tk' cells' FG' F' N' Y' X' T' l1; (try k_lt l1); k_cells Y'; (try simp only [List.cons_append, List.nil_append] at N'); (try dsimp only); (try k_fold)))
  (k_with "m k_all" => exact all_ne (by assumption) (by first | exact Nat.le_refl _ | exact Nat.le_add_right _ _ | exact Nat.le_trans (Nat.le_add_right _ _) (Nat.le_add_right _ _)))
  ktr_step
  k_steps
  all_goals ktr_rel
  all_goals first | exact wid_1 | exact wid_2 | exact wid_3 _
set_option maxRecDepth 100000 in
set_option maxHeartbeats 8000000 in
theorem operand_c (d near shift b : Int) (td tn ts tb : Tok) : ClaimG 165 1 (fun _ _ => 1 ≤ b ∧ b ≤ 64) [.int d td, .int near tn, .int shift ts, .int b tb] (RetP fun x => 0 ≤ x ∧ x < 2 ^ b.toNat) := by
  k_with_none
  (k_with "m ktr_enter" => first | (refine' code_defY ?k2 ?k3 ?k4 ?k5 ?kA ?kF ?kK ?k6 ?k7 ?k8 ?k9 ?kB ?_ ?c2 ?c3 ?c4 ?c5; (case kA => exact rfl); (case kF => exact rfl); (case kK => first | exact rfl | assumption); (case k2 => k_asm); (case k3 => k_asm); (case k4 => k_asm); (case k5 => k_asm); (case k6 => k_is); (case k7 => k_is); (case k8 => ktr_room); (case k9 => exact BindsTo.of_eq rfl); (case c5 => decide); (case kB => exact locs rfl); (case c2 => exact rfl); (case c3 => exact rfl); (case c4 => exact rfl); k_whole; intro g' L' h' FG' F' N' X' T'; (try dsimp only); (try k_fold)) | (refine' code_defCY ?k2 ?k3 ?k4 ?k5 ?kA ?kF ?kK ?k6 ?k7 ?k8 ?k9 ?kB ?kD ?_ ?c2 ?c3 ?c4; (case kA => exact rfl); (case kF => exact rfl); (case kK => first | exact rfl | assumption); (case k2 => k_asm); (case k3 => k_asm); (case k4 => k_asm); (case k5 => k_asm); (case k6 => k_is); (case k7 => k_is); (case k8 => ktr_room); (case k9 => exact BindsTo.of_eq rfl); (case kB => exact rfl); (case kD => decide +kernel); (case c2 => exact rfl); (case c3 => exact rfl); (case c4 => exact rfl); k_whole; intro g' L' h' tk' cells' FG' F' N' Y' X' T' l1; (try k_lt l1); k_cells Y'; (try simp only [List.cons_append, List.nil_append] at N'); (try dsimp only); (try k_fold)))
  (k_with "m k_all" => exact all_ne (by assumption) (by first | exact Nat.le_refl _ | exact Nat.le_add_right _ _ | exact Nat.le_trans (Nat.le_add_right _ _) (Nat.le_add_right _ _)))
  ktr_step
  obtain ⟨hr1, hr2⟩ := fmod_bnd (d.fdiv 4) (b := b) (by assumption)
  k_steps
  all_goals ktr_rel
  all_goals first | exact opd_mod _ _ | exact opd_pow (by assumption) (by assumption)
end
/-! part T3 -/
section
set_option maxRecDepth 100000 in
set_option maxHeartbeats 8000000 in
theorem trap_c (x : Str) (tx : Tok) : ClaimG 44 4 (fun _ _ => True) [.str x tx] (RetTrap x) := by
  k_with_none
  (k_with "m ktr_enter" => first | (refine' code_defY ?k2 ?k3 ?k4 ?k5 ?kA ?kF ?kK ?k6 ?k7 ?k8 ?k9 ?kB ?_ ?c2 ?c3 ?c4 ?c5; (case kA => exact rfl); (case kF => exact rfl); (case kK => first | exact rfl | assumption); (case k2 => k_asm); (case k3 => k_asm); (case k4 => k_asm); (case k5 => k_asm); (case k6 => k_is); (case k7 => k_is); (case k8 => ktr_room); (case k9 => exact BindsTo.of_eq rfl); (case c5 => decide); (case kB => exact locs rfl); (case c2 => exact rfl); (case c3 => exact rfl); (case c4 => exact rfl); k_whole; intro g' L' h' FG' F' N' X' T'; (try dsimp only); (try k_fold)) | (refine' code_defCY ?k2 ?k3 ?k4 ?k5 ?kA ?kF ?kK ?k6 ?k7 ?k8 ?k9 ?kB ?kD ?_ ?c2 ?c3 ?c4; (case kA => exact rfl); (case kF => exact rfl); (case kK => first | exact rfl | assumption); (case k2 => k_asm); (case k3 => k_asm); (case k4 => k_asm); (case k5 => k_asm); (case k6 => k_is); (case k7 => k_is); (case k8 => ktr_room); (case k9 => exact BindsTo.of_eq rfl); (case kB => exact rfl); (case kD => decide +kernel); (case c2 => exact rfl); (case c3 => exact rfl); (case c4 => exact rfl); k_whole; intro g' L' h' tk' cells' FG' F' N' Y' X' T' l1; (try k_lt l1); k_cells Y'; (try simp only [List.cons_append, List.nil_append] at N'); (try dsimp only); (try k_fold)))
  (k_with "m k_all" => exact all_ne (by assumption) (by first | exact Nat.le_refl _ | exact Nat.le_add_right _ _ | exact Nat.le_trans (Nat.le_add_right _ _) (Nat.le_add_right _ _)))
  (k_with "m getMethod type:Exception" => (k_here; k_dflt (refine' exc_getm ?k1 ?_; (case k1 => k_in))))
  (k_with "m call builtin:Exception.__init__" => (k_here; k_dflt (refine' exc_init_K ?k1 ?k2 ?k3 ?k4 ?_; (case k1 => k_asm); (case k2 => k_asm); (case k3 => k_in); (case k4 => first | assumption | k_all)); intro t9 h9 F9 N9 l91 l92; (have l93 := Ne.symm (Nat.ne_of_lt l92))))
  (k_with "m setAttr ref" => (k_here; k_dflt (refine' exc_set ?k1 ?k2 ?k3 ?k4 ?k5 ?_; (case k1 => k_asm); (case k2 => k_asm); (case k3 => k_in); (case k4 => assumption); (case k5 => assumption)); intro d9 h9 hs9 tk9 F9 N9 l91 l92 l93))
  unfold ClaimG; k_fill; intro w hh mg mb news dp un gd cn cs ca ccd cl outer h₀ L m s Q E hF hK hN hT hcs hask hdp hun hret
  refine wpAny_call (trap_K hF hN (hK.keeps hF.keep) (by rw [PySem.sizeLine_eq]; exact Nat.le_of_ble_eq_true rfl) ?_)
  intro e t h' F N l1 l2
  have l3 : ∀ p ∈ (t, tupObj [.str x tx]) :: news, p.1 ≠ e := List.forall_mem_cons.mpr ⟨Nat.ne_of_lt l2, all_ne l1 (Nat.le_of_lt l2)⟩
  k_dflt ktr_enter
  k_steps
  exact hret _ _ _ _ _ _ _ _ (by k_asm) (cb_drop (by k_asm) (by kcj_all)) (fun p hp => Nat.lt_trans (l1 p hp) l2) (by assumption) (by assumption)
end
/-! part D0 -/
section
theorem lg64 {y b : Int} (h2 : b ≤ 64) (h0 : 0 ≤ y) (hy : y < 2 ^ b.toNat) : y.natAbs.log2 < 9000 := by
  have h := lt64 h2 h0 hy
  by_cases h1 : y.natAbs = 0
  · rw [h1]; decide
  · have := (Nat.log2_lt h1).mpr h
    omega
theorem kind_ne {cs : Scope} (h : cs.kind = .function) : cs.kind ≠ .module := by rw [h]; decide
theorem sgn_ne {y b : Int} (_h1 : 1 ≤ b) (_h0 : 0 ≤ y) (hy : y < 2 ^ b.toNat) (hne : y ≠ 0) : sgn y b ≠ 0 := by
  unfold sgn
  split
  · omega
  · exact hne
theorem sgn_100 {y b : Int} (h2 : b ≤ 64) (h0 : 0 ≤ y) (hy : y < 2 ^ b.toNat) : (sgn y b).natAbs < 2 ^ 100 := by
  have h := lt64 h2 h0 hy
  have h3 : (2 : Int) ^ b.toNat ≤ 2 ^ 64 := by
    have h1 : (2 : Nat) ^ b.toNat ≤ 2 ^ 64 := Nat.pow_le_pow_right (by decide) (by omega)
    rw [← kbt_cast, ← kbt_cast]
    omega
  have h4 : (2 : Int) ^ 64 = 18446744073709551616 := by decide
  have h5 : (2 : Nat) ^ 100 = 1267650600228229401496703205376 := by decide
  have h6 : (2 : Nat) ^ 64 = 18446744073709551616 := by decide
  unfold sgn
  split <;> omega
theorem sgn_bits {y b : Int} (h2 : b ≤ 64) (h0 : 0 ≤ y) (hy : y < 2 ^ b.toNat) (h1 : 1 ≤ b) : Builtin.Int.intBits (sgn y b) ≤ 64 := by
  have h3 : (2 : Int) ^ b.toNat ≤ 2 ^ 64 := by
    have h1 : (2 : Nat) ^ b.toNat ≤ 2 ^ 64 := Nat.pow_le_pow_right (by decide) (by omega)
    rw [← kbt_cast, ← kbt_cast]
    omega
  have h4 : (2 : Int) ^ 64 = 18446744073709551616 := by decide
  have h5 : (2 : Int) ^ (b - 1).toNat > 0 := pw_pos _
  have h6 : -18446744073709551616 < sgn y b ∧ sgn y b < 18446744073709551616 := by
    unfold sgn
    split <;> omega
  exact PySem.intBits_le_64 h6.1 h6.2
theorem lt_sub {news news' : List (Addr × Obj)} {D : Addr} (h : ∀ p ∈ news, p.1 < D) (sub : ∀ p ∈ news', p ∈ news) : ∀ p ∈ news', p.1 < D := fun p hp => h p (sub p hp)
set_option maxRecDepth 100000 in
set_option maxHeartbeats 8000000 in
theorem divided0_c (x y b : Int) (tw tx ty tb : Tok) : DivG 0 x y b tw tx ty tb := by
  k_with_none
  (k_with "m ktr_enter" => first | (refine' code_defY ?k2 ?k3 ?k4 ?k5 ?kA ?kF ?kK ?k6 ?k7 ?k8 ?k9 ?kB ?_ ?c2 ?c3 ?c4 ?c5; (case kA => exact rfl); (case kF => exact rfl); (case kK => first | exact rfl | assumption); (case k2 => k_asm); (case k3 => k_asm); (case k4 => k_asm); (case k5 => k_asm); (case k6 => k_is); (case k7 => k_is); (case k8 => ktr_room); (case k9 => exact BindsTo.of_eq rfl); (case c5 => decide); (case kB => exact locs rfl); (case c2 => exact rfl); (case c3 => exact rfl); (case c4 => exact rfl); k_whole; intro g' L' h' FG' F' N' X' T'; (try dsimp only); (try k_fold)) | (refine' code_defCY ?k2 ?k3 ?k4 ?k5 ?kA ?kF ?kK ?k6 ?k7 ?k8 ?k9 ?kB ?kD ?_ ?c2 ?c3 ?c4; (case kA => exact rfl); (case kF => exact rfl); (case kK => first | exact rfl | assumption); (case k2 => k_asm); (case k3 => k_asm); (case k4 => k_asm); (case k5 => k_asm); (case k6 => k_is); (case k7 => k_is); (case k8 => ktr_room); (case k9 => exact BindsTo.of_eq rfl); (case kB => exact rfl); (case kD => decide +kernel); (case c2 => exact rfl); (case c3 => exact rfl); (case c4 => exact rfl); k_whole; intro g' L' h' tk' cells' FG' F' N' Y' X' T' l1; (try k_lt l1); k_cells Y'; (try simp only [List.cons_append, List.nil_append] at N'); (try dsimp only); (try k_fold)))
  (k_with "m k_all" => exact all_ne (by assumption) (by first | exact Nat.le_refl _ | exact Nat.le_add_right _ _ | exact Nat.le_trans (Nat.le_add_right _ _) (Nat.le_add_right _ _)))
  (k_with "m binaryOp FloorDiv int int" => (k_here; (k_dflt (refine' floordiv_int ?fd0 ?_ (Or.inl (PyProof.noPylong_of_log2 (lg64 ?fd1 ?fd2 ?fd3))); (case fd0 => assumption); (case fd3 => assumption); (case fd1 => assumption); (case fd2 => assumption))); (try dsimp only)))
  (k_with "m ktr_enter" => (refine' enterX ?k2 ?k3 ?k4 ?k5 ?kA ?kF ?k6 ?k7 ?k8 ?k9 ?kB ?_ ?c2 ?c3 ?c4 ?c5; (case kA => exact rfl); (case kF => exact rfl); (case k2 => k_asm); (case k3 => k_asm); (case k4 => k_asm); (case k5 => k_asm); (case k6 => k_is); (case k7 => k_is); (case k8 => ktr_room); (case k9 => exact BindsTo.of_eq rfl); (case c5 => decide); (case kB => exact locs rfl); (case c2 => exact rfl); (case c3 => exact rfl); (case c4 => exact rfl); k_whole; intro g' L' h' oL' st' hl' F' N' X' T' l1; (try dsimp only); (try k_fold)))
  (k_with "m call ref" => (k_here; k_dflt (refine' ClaimG.use (unsigned_c _ _ _ _) ?k2 ?k3 ?k4 ?k5 ?kK ?kp ?kd ?ku ?_); (case k2 => k_asm); (case k3 => k_asm); (case k4 => k_asm); (case k5 => k_asm); (case kK => first | exact rfl | assumption); (case kp => ((try dsimp only); (repeat' (refine And.intro ?_ ?_)); all_goals first | assumption | omega | l_bnd | k_dflt k_mem | exact bnd_up (by assumption) | exact filt_bnd _ (by assumption) | exact filt_len _ (by assumption) | exact fm_bnd _ _ (by assumption) (by intro k h1 h2 h3; (try dsimp only at h3 ⊢); omega) | exact fm_len _ _ (by assumption) | exact mp_bnd _ (by assumption) (by assumption) _ | exact mp_len _ (by assumption))); (case kd => ktr_room); (case ku => ktr_units); intro t9 h9 tk9 F9 N9; (try dsimp only); (try k_fold)))
  (k_with "m call ref" => (k_here; k_dflt (refine' ClaimG.use (signed_c _ _ _ _) ?k2 ?k3 ?k4 ?k5 ?kK ?kp ?kd ?ku ?_); (case k2 => k_asm); (case k3 => k_asm); (case k4 => k_asm); (case k5 => k_asm); (case kK => first | exact rfl | assumption); (case kp => ((try dsimp only); (repeat' (refine And.intro ?_ ?_)); all_goals first | assumption | omega | l_bnd | k_dflt k_mem | exact bnd_up (by assumption) | exact filt_bnd _ (by assumption) | exact filt_len _ (by assumption) | exact fm_bnd _ _ (by assumption) (by intro k h1 h2 h3; (try dsimp only at h3 ⊢); omega) | exact fm_len _ _ (by assumption) | exact mp_bnd _ (by assumption) (by assumption) _ | exact mp_len _ (by assumption))); (case kd => ktr_room); (case ku => ktr_units); intro t9 h9 tk9 F9 N9; (try dsimp only); (try k_fold)))
  (k_with "m call ref" => (k_here; k_dflt (refine' ClaimG.use (least_c _ _) ?k2 ?k3 ?k4 ?k5 ?kK ?kp ?kd ?ku ?_); (case k2 => k_asm); (case k3 => k_asm); (case k4 => k_asm); (case k5 => k_asm); (case kK => first | exact rfl | assumption); (case kp => ((try dsimp only); (repeat' (refine And.intro ?_ ?_)); all_goals first | assumption | omega | l_bnd | k_dflt k_mem | exact bnd_up (by assumption) | exact filt_bnd _ (by assumption) | exact filt_len _ (by assumption) | exact fm_bnd _ _ (by assumption) (by intro k h1 h2 h3; (try dsimp only at h3 ⊢); omega) | exact fm_len _ _ (by assumption) | exact mp_bnd _ (by assumption) (by assumption) _ | exact mp_len _ (by assumption))); (case kd => ktr_room); (case ku => ktr_units); intro t9 h9 tk9 F9 N9; (try dsimp only); (try k_fold)))
  (k_with "m call ref" => (k_here; k_dflt (refine' ClaimG.use (toward_c _ _ _ _) ?k2 ?k3 ?k4 ?k5 ?kK ?kp ?kd ?ku ?_); (case k2 => k_asm); (case k3 => k_asm); (case k4 => k_asm); (case k5 => k_asm); (case kK => first | exact rfl | assumption); (case kp => ((try dsimp only); (repeat' (refine And.intro ?_ ?_)); all_goals first | assumption | omega | l_bnd | k_dflt k_mem | exact bnd_up (by assumption) | exact filt_bnd _ (by assumption) | exact filt_len _ (by assumption) | exact fm_bnd _ _ (by assumption) (by intro k h1 h2 h3; (try dsimp only at h3 ⊢); omega) | exact fm_len _ _ (by assumption) | exact mp_bnd _ (by assumption) (by assumption) _ | exact mp_len _ (by assumption))); (case kd => ktr_room); (case ku => ktr_units); intro t9 h9 tk9 F9 N9; (try dsimp only); (try k_fold)))
  (k_with "m binaryOp Mult int int" => (k_here; k_dflt (refine' mul_int ?_ (IntMulOk.of_left (sgn_bits ?fd1 ?fd2 ?fd3 ?fd4)); (case fd3 => assumption); (case fd1 => assumption); (case fd2 => assumption); (case fd4 => assumption)); (try dsimp only)))
  (k_with "m call ref" => (k_here; k_dflt (refine' ClaimG.use (toward_c _ _ _ _) ?k2 ?k3 ?k4 ?k5 ?kK ?kp ?kd ?ku ?_); (case k2 => k_asm); (case k3 => k_asm); (case k4 => k_asm); (case k5 => k_asm); (case kK => first | exact rfl | assumption); (case kp => exact ⟨sgn_ne (by assumption) (by assumption) (by assumption) (by assumption), sgn_100 (by assumption) (by assumption) (by assumption)⟩); (case kd => ktr_room); (case ku => ktr_units); intro t9 h9 tk9 F9 N9; (try dsimp only); (try k_fold)))
  (k_with "m call ref" => (k_here; (with_reducible show wpAny _ _ (call (Value.ref 44) [Value.str _ _]) _ _ _); k_dflt (refine' ClaimG.use (trap_c _ _) ?k2 ?k3 ?k4 ?k5 ?kK ?kp ?kd ?ku ?_); (case k2 => k_asm); (case k3 => k_asm); (case k4 => k_asm); (case k5 => k_asm); (case kK => first | exact rfl | assumption); (case kp => exact trivial); (case kd => ktr_room); (case ku => ktr_units); intro e9 t9 dx9 h9 tk9 hs9 tkw9 tx9 F9 N9 l91 l92 l93; (try dsimp only); (try k_fold)))
  (k_with "m exec Raise some none" => (k_here; k_dflt (refine raiseE rfl ?_)))
  (k_with "m RaiseBack" => (k_dflt (refine' RaiseBack.of ?k1 ?k2 ?k3 ?k4 ?_; (case k1 => k_asm); (case k2 => assumption); (case k3 => assumption); (case k4 => exact .tail _ (.tail _ (.head _)))); (try dsimp only); (try k_fold)))
  (k_with "m leaving ref" => (k_here; (k_dflt (refine' fly3 rfl rfl (kind_ne rfl) ?k1 ?k2 ?k3 ?k4 ?k5 ?k6 ?k7 ?k8 ?k9 ?k10 ?k11 ?k12 (kind_ne rfl) rfl ?k13 ?k14 ?_; (case k1 => k_asm); (case k2 => assumption); (case k3 => assumption); (case k6 => assumption); (case k4 => assumption); (case k5 => assumption);  (case k7 => assumption); (case k8 => assumption); (case k9 => assumption); (case k10 => assumption); (case k11 => assumption); (case k12 => kcj_all); (case k13 => exact kind_ne (by assumption)); (case k14 => rfl))); intro h' z' hn'; (try dsimp only); (try k_fold)))
  (k_with "m noteFrame ref" => (k_here; k_dflt (refine' caughtE rfl ?k1 ?k2 ?k3 ?k4 ?k5 ?k6 ?k7 ?_; (case k1 => assumption); (case k2 => assumption); (case k3 => assumption); (case k4 => exact Fr.above (by assumption)); (case k5 => assumption); (case k6 => exact topRead_of (by assumption)); (case k7 => assumption)); intro h' tk' ws' sd' sw' F' N'; (try dsimp only); (try k_fold)))
  (k_with "m getAttr ref" => (k_here; (k_dflt (refine' exc_getN ?k1 ?k2 ?k3 ?k4 ?k5 ?k6 ?_; (case k1 => k_asm); (case k2 => assumption); (case k3 => k_asm); (case k4 => k_mem); (case k5 => k_mem); (case k6 => rfl))); (try dsimp only); (try k_fold)))
  (k_with "m LeaveY" => (k_here; k_dflt (refine' LeaveY.back ?k1 ?k2 ?k3 ?k4 ?k5 ?k6 ?_; (case k1 => assumption); (case k2 => k_asm); (case k3 => k_asm); (case k4 => assumption); (case k5 => k_mem); (case k6 => kcj_all)); intro F' N'; (try dsimp only); (try k_fold)))
  (k_with "m eval Call" => (k_dflt (refine Call_ ?_)))
  (k_with "m newTuple" => (k_here; k_dflt (refine' kup_newTuple ?F ?N ?_ ?z; (case F => k_asm); (case N => k_asm); (case z => kmk_size)); intro D' h' F' N' l1; (try k_sweep)))
  unfold DivG; k_fill; intro w hh mg mb rest Lw oW mw envW dp un gd cn cs ca ccd cl h₀ L m s Q E hF hK hN hO hlW hne hT hcs hask hdp hun hret
  obtain ⟨hask1, hask2, hask3, hask4, hask5, hask6⟩ := hask
  refine wpAny_call ?_
  k_dflt ktr_enter
  k_steps
  all_goals (refine' LeaveY.told ?k1 ?k2 ?k3 hN ?k4 ?k5 ?k6 ?k7 ?k8 ?k9 ?_; (case k1 => assumption); (case k2 => k_asm); (case k3 => assumption); (case k4 => assumption); (case k5 => k_mem); (case k6 => k_mem); (case k7 => k_mem); (case k8 => kcj_all); (case k9 => exact lt_sub (by assumption) (by kcj_all)); intro F9 N9 hn9; refine hret _ _ _ _ _ _ _ F9 N9 hn9 ?_; first | exact .inl ⟨by assumption, rfl, _, rfl⟩ | exact .inr (.inl ⟨by assumption, rfl, by assumption, by assumption, rfl, _, rfl⟩) | exact .inr (.inr ⟨by assumption, by (intro h; first | exact absurd h.1 (by decide) | exact absurd h.2.1 (by assumption) | exact absurd h.2.2 (by assumption)), rfl, _, rfl⟩))
set_option maxRecDepth 100000 in
set_option maxHeartbeats 8000000 in
theorem divided1_c (x y b : Int) (tw tx ty tb : Tok) : DivG 1 x y b tw tx ty tb := by
  k_with_none
  (k_with "m ktr_enter" => first | (refine' code_defY ?k2 ?k3 ?k4 ?k5 ?kA ?kF ?kK ?k6 ?k7 ?k8 ?k9 ?kB ?_ ?c2 ?c3 ?c4 ?c5; (case kA => exact rfl); (case kF => exact rfl); (case kK => first | exact rfl | assumption); (case k2 => k_asm); (case k3 => k_asm); (case k4 => k_asm); (case k5 => k_asm); (case k6 => k_is); (case k7 => k_is); (case k8 => ktr_room); (case k9 => exact BindsTo.of_eq rfl); (case c5 => decide); (case kB => exact locs rfl); (case c2 => exact rfl); (case c3 => exact rfl); (case c4 => exact rfl); k_whole; intro g' L' h' FG' F' N' X' T'; (try dsimp only); (try k_fold)) | (refine' code_defCY ?k2 ?k3 ?k4 ?k5 ?kA ?kF ?kK ?k6 ?k7 ?k8 ?k9 ?kB ?kD ?_ ?c2 ?c3 ?c4; (case kA => exact rfl); (case kF => exact rfl); (case kK => first | exact rfl | assumption); (case k2 => k_asm); (case k3 => k_asm); (case k4 => k_asm); (case k5 => k_asm); (case k6 => k_is); (case k7 => k_is); (case k8 => ktr_room); (case k9 => exact BindsTo.of_eq rfl); (case kB => exact rfl); (case kD => decide +kernel); (case c2 => exact rfl); (case c3 => exact rfl); (case c4 => exact rfl); k_whole; intro g' L' h' tk' cells' FG' F' N' Y' X' T' l1; (try k_lt l1); k_cells Y'; (try simp only [List.cons_append, List.nil_append] at N'); (try dsimp only); (try k_fold)))
  (k_with "m k_all" => exact all_ne (by assumption) (by first | exact Nat.le_refl _ | exact Nat.le_add_right _ _ | exact Nat.le_trans (Nat.le_add_right _ _) (Nat.le_add_right _ _)))
  (k_with "m binaryOp FloorDiv int int" => (k_here; (k_dflt (refine' floordiv_int ?fd0 ?_ (Or.inl (PyProof.noPylong_of_log2 (lg64 ?fd1 ?fd2 ?fd3))); (case fd0 => assumption); (case fd3 => assumption); (case fd1 => assumption); (case fd2 => assumption))); (try dsimp only)))
  (k_with "m ktr_enter" => (refine' enterX ?k2 ?k3 ?k4 ?k5 ?kA ?kF ?k6 ?k7 ?k8 ?k9 ?kB ?_ ?c2 ?c3 ?c4 ?c5; (case kA => exact rfl); (case kF => exact rfl); (case k2 => k_asm); (case k3 => k_asm); (case k4 => k_asm); (case k5 => k_asm); (case k6 => k_is); (case k7 => k_is); (case k8 => ktr_room); (case k9 => exact BindsTo.of_eq rfl); (case c5 => decide); (case kB => exact locs rfl); (case c2 => exact rfl); (case c3 => exact rfl); (case c4 => exact rfl); k_whole; intro g' L' h' oL' st' hl' F' N' X' T' l1; (try dsimp only); (try k_fold)))
  (k_with "m call ref" => (k_here; k_dflt (refine' ClaimG.use (unsigned_c _ _ _ _) ?k2 ?k3 ?k4 ?k5 ?kK ?kp ?kd ?ku ?_); (case k2 => k_asm); (case k3 => k_asm); (case k4 => k_asm); (case k5 => k_asm); (case kK => first | exact rfl | assumption); (case kp => ((try dsimp only); (repeat' (refine And.intro ?_ ?_)); all_goals first | assumption | omega | l_bnd | k_dflt k_mem | exact bnd_up (by assumption) | exact filt_bnd _ (by assumption) | exact filt_len _ (by assumption) | exact fm_bnd _ _ (by assumption) (by intro k h1 h2 h3; (try dsimp only at h3 ⊢); omega) | exact fm_len _ _ (by assumption) | exact mp_bnd _ (by assumption) (by assumption) _ | exact mp_len _ (by assumption))); (case kd => ktr_room); (case ku => ktr_units); intro t9 h9 tk9 F9 N9; (try dsimp only); (try k_fold)))
  (k_with "m call ref" => (k_here; k_dflt (refine' ClaimG.use (signed_c _ _ _ _) ?k2 ?k3 ?k4 ?k5 ?kK ?kp ?kd ?ku ?_); (case k2 => k_asm); (case k3 => k_asm); (case k4 => k_asm); (case k5 => k_asm); (case kK => first | exact rfl | assumption); (case kp => ((try dsimp only); (repeat' (refine And.intro ?_ ?_)); all_goals first | assumption | omega | l_bnd | k_dflt k_mem | exact bnd_up (by assumption) | exact filt_bnd _ (by assumption) | exact filt_len _ (by assumption) | exact fm_bnd _ _ (by assumption) (by intro k h1 h2 h3; (try dsimp only at h3 ⊢); omega) | exact fm_len _ _ (by assumption) | exact mp_bnd _ (by assumption) (by assumption) _ | exact mp_len _ (by assumption))); (case kd => ktr_room); (case ku => ktr_units); intro t9 h9 tk9 F9 N9; (try dsimp only); (try k_fold)))
  (k_with "m call ref" => (k_here; k_dflt (refine' ClaimG.use (least_c _ _) ?k2 ?k3 ?k4 ?k5 ?kK ?kp ?kd ?ku ?_); (case k2 => k_asm); (case k3 => k_asm); (case k4 => k_asm); (case k5 => k_asm); (case kK => first | exact rfl | assumption); (case kp => ((try dsimp only); (repeat' (refine And.intro ?_ ?_)); all_goals first | assumption | omega | l_bnd | k_dflt k_mem | exact bnd_up (by assumption) | exact filt_bnd _ (by assumption) | exact filt_len _ (by assumption) | exact fm_bnd _ _ (by assumption) (by intro k h1 h2 h3; (try dsimp only at h3 ⊢); omega) | exact fm_len _ _ (by assumption) | exact mp_bnd _ (by assumption) (by assumption) _ | exact mp_len _ (by assumption))); (case kd => ktr_room); (case ku => ktr_units); intro t9 h9 tk9 F9 N9; (try dsimp only); (try k_fold)))
  (k_with "m call ref" => (k_here; k_dflt (refine' ClaimG.use (toward_c _ _ _ _) ?k2 ?k3 ?k4 ?k5 ?kK ?kp ?kd ?ku ?_); (case k2 => k_asm); (case k3 => k_asm); (case k4 => k_asm); (case k5 => k_asm); (case kK => first | exact rfl | assumption); (case kp => ((try dsimp only); (repeat' (refine And.intro ?_ ?_)); all_goals first | assumption | omega | l_bnd | k_dflt k_mem | exact bnd_up (by assumption) | exact filt_bnd _ (by assumption) | exact filt_len _ (by assumption) | exact fm_bnd _ _ (by assumption) (by intro k h1 h2 h3; (try dsimp only at h3 ⊢); omega) | exact fm_len _ _ (by assumption) | exact mp_bnd _ (by assumption) (by assumption) _ | exact mp_len _ (by assumption))); (case kd => ktr_room); (case ku => ktr_units); intro t9 h9 tk9 F9 N9; (try dsimp only); (try k_fold)))
  (k_with "m binaryOp Mult int int" => (k_here; k_dflt (refine' mul_int ?_ (IntMulOk.of_left (sgn_bits ?fd1 ?fd2 ?fd3 ?fd4)); (case fd3 => assumption); (case fd1 => assumption); (case fd2 => assumption); (case fd4 => assumption)); (try dsimp only)))
  (k_with "m call ref" => (k_here; k_dflt (refine' ClaimG.use (toward_c _ _ _ _) ?k2 ?k3 ?k4 ?k5 ?kK ?kp ?kd ?ku ?_); (case k2 => k_asm); (case k3 => k_asm); (case k4 => k_asm); (case k5 => k_asm); (case kK => first | exact rfl | assumption); (case kp => exact ⟨sgn_ne (by assumption) (by assumption) (by assumption) (by assumption), sgn_100 (by assumption) (by assumption) (by assumption)⟩); (case kd => ktr_room); (case ku => ktr_units); intro t9 h9 tk9 F9 N9; (try dsimp only); (try k_fold)))
  (k_with "m call ref" => (k_here; (with_reducible show wpAny _ _ (call (Value.ref 44) [Value.str _ _]) _ _ _); k_dflt (refine' ClaimG.use (trap_c _ _) ?k2 ?k3 ?k4 ?k5 ?kK ?kp ?kd ?ku ?_); (case k2 => k_asm); (case k3 => k_asm); (case k4 => k_asm); (case k5 => k_asm); (case kK => first | exact rfl | assumption); (case kp => exact trivial); (case kd => ktr_room); (case ku => ktr_units); intro e9 t9 dx9 h9 tk9 hs9 tkw9 tx9 F9 N9 l91 l92 l93; (try dsimp only); (try k_fold)))
  (k_with "m exec Raise some none" => (k_here; k_dflt (refine raiseE rfl ?_)))
  (k_with "m RaiseBack" => (k_dflt (refine' RaiseBack.of ?k1 ?k2 ?k3 ?k4 ?_; (case k1 => k_asm); (case k2 => assumption); (case k3 => assumption); (case k4 => exact .tail _ (.tail _ (.head _)))); (try dsimp only); (try k_fold)))
  (k_with "m leaving ref" => (k_here; (k_dflt (refine' fly3 rfl rfl (kind_ne rfl) ?k1 ?k2 ?k3 ?k4 ?k5 ?k6 ?k7 ?k8 ?k9 ?k10 ?k11 ?k12 (kind_ne rfl) rfl ?k13 ?k14 ?_; (case k1 => k_asm); (case k2 => assumption); (case k3 => assumption); (case k6 => assumption); (case k4 => assumption); (case k5 => assumption);  (case k7 => assumption); (case k8 => assumption); (case k9 => assumption); (case k10 => assumption); (case k11 => assumption); (case k12 => kcj_all); (case k13 => exact kind_ne (by assumption)); (case k14 => rfl))); intro h' z' hn'; (try dsimp only); (try k_fold)))
  (k_with "m noteFrame ref" => (k_here; k_dflt (refine' caughtE rfl ?k1 ?k2 ?k3 ?k4 ?k5 ?k6 ?k7 ?_; (case k1 => assumption); (case k2 => assumption); (case k3 => assumption); (case k4 => exact Fr.above (by assumption)); (case k5 => assumption); (case k6 => exact topRead_of (by assumption)); (case k7 => assumption)); intro h' tk' ws' sd' sw' F' N'; (try dsimp only); (try k_fold)))
  (k_with "m getAttr ref" => (k_here; (k_dflt (refine' exc_getN ?k1 ?k2 ?k3 ?k4 ?k5 ?k6 ?_; (case k1 => k_asm); (case k2 => assumption); (case k3 => k_asm); (case k4 => k_mem); (case k5 => k_mem); (case k6 => rfl))); (try dsimp only); (try k_fold)))
  (k_with "m LeaveY" => (k_here; k_dflt (refine' LeaveY.back ?k1 ?k2 ?k3 ?k4 ?k5 ?k6 ?_; (case k1 => assumption); (case k2 => k_asm); (case k3 => k_asm); (case k4 => assumption); (case k5 => k_mem); (case k6 => kcj_all)); intro F' N'; (try dsimp only); (try k_fold)))
  (k_with "m eval Call" => (k_dflt (refine Call_ ?_)))
  (k_with "m newTuple" => (k_here; k_dflt (refine' kup_newTuple ?F ?N ?_ ?z; (case F => k_asm); (case N => k_asm); (case z => kmk_size)); intro D' h' F' N' l1; (try k_sweep)))
  unfold DivG; k_fill; intro w hh mg mb rest Lw oW mw envW dp un gd cn cs ca ccd cl h₀ L m s Q E hF hK hN hO hlW hne hT hcs hask hdp hun hret
  obtain ⟨hask1, hask2, hask3, hask4, hask5, hask6⟩ := hask
  refine wpAny_call ?_
  k_dflt ktr_enter
  k_steps
  all_goals (refine' LeaveY.told ?k1 ?k2 ?k3 hN ?k4 ?k5 ?k6 ?k7 ?k8 ?k9 ?_; (case k1 => assumption); (case k2 => k_asm); (case k3 => assumption); (case k4 => assumption); (case k5 => k_mem); (case k6 => k_mem); (case k7 => k_mem); (case k8 => kcj_all); (case k9 => exact lt_sub (by assumption) (by kcj_all)); intro F9 N9 hn9; refine hret _ _ _ _ _ _ _ F9 N9 hn9 ?_; first | exact .inl ⟨by assumption, rfl, _, rfl⟩ | exact .inr (.inl ⟨by assumption, rfl, by assumption, by assumption, rfl, _, rfl⟩) | exact .inr (.inr ⟨by assumption, by (intro h; first | exact absurd h.1 (by decide) | exact absurd h.2.1 (by assumption) | exact absurd h.2.2 (by assumption)), rfl, _, rfl⟩))
set_option maxRecDepth 100000 in
set_option maxHeartbeats 8000000 in
theorem divided2_c (x y b : Int) (tw tx ty tb : Tok) : DivG 2 x y b tw tx ty tb := by
  k_with_none
  (k_with "m ktr_enter" => first | (refine' code_defY ?k2 ?k3 ?k4 ?k5 ?kA ?kF ?kK ?k6 ?k7 ?k8 ?k9 ?kB ?_ ?c2 ?c3 ?c4 ?c5; (case kA => exact rfl); (case kF => exact rfl); (case kK => first | exact rfl | assumption); (case k2 => k_asm); (case k3 => k_asm); (case k4 => k_asm); (case k5 => k_asm); (case k6 => k_is); (case k7 => k_is); (case k8 => ktr_room); (case k9 => exact BindsTo.of_eq rfl); (case c5 => decide); (case kB => exact locs rfl); (case c2 => exact rfl); (case c3 => exact rfl); (case c4 => exact rfl); k_whole; intro g' L' h' FG' F' N' X' T'; (try dsimp only); (try k_fold)) | (refine' code_defCY ?k2 ?k3 ?k4 ?k5 ?kA ?kF ?kK ?k6 ?k7 ?k8 ?k9 ?kB ?kD ?_ ?c2 ?c3 ?c4; (case kA => exact rfl); (case kF => exact rfl); (case kK => first | exact rfl | assumption); (case k2 => k_asm); (case k3 => k_asm); (case k4 => k_asm); (case k5 => k_asm); (case k6 => k_is); (case k7 => k_is); (case k8 => ktr_room); (case k9 => exact BindsTo.of_eq rfl); (case kB => exact rfl); (case kD => decide +kernel); (case c2 => exact rfl); (case c3 => exact rfl); (case c4 => exact rfl); k_whole; intro g' L' h' tk' cells' FG' F' N' Y' X' T' l1; (try k_lt l1); k_cells Y'; (try simp only [List.cons_append, List.nil_append] at N'); (try dsimp only); (try k_fold)))
  (k_with "m k_all" => exact all_ne (by assumption) (by first | exact Nat.le_refl _ | exact Nat.le_add_right _ _ | exact Nat.le_trans (Nat.le_add_right _ _) (Nat.le_add_right _ _)))
  (k_with "m binaryOp FloorDiv int int" => (k_here; (k_dflt (refine' floordiv_int ?fd0 ?_ (Or.inl (PyProof.noPylong_of_log2 (lg64 ?fd1 ?fd2 ?fd3))); (case fd0 => assumption); (case fd3 => assumption); (case fd1 => assumption); (case fd2 => assumption))); (try dsimp only)))
  (k_with "m ktr_enter" => (refine' enterX ?k2 ?k3 ?k4 ?k5 ?kA ?kF ?k6 ?k7 ?k8 ?k9 ?kB ?_ ?c2 ?c3 ?c4 ?c5; (case kA => exact rfl); (case kF => exact rfl); (case k2 => k_asm); (case k3 => k_asm); (case k4 => k_asm); (case k5 => k_asm); (case k6 => k_is); (case k7 => k_is); (case k8 => ktr_room); (case k9 => exact BindsTo.of_eq rfl); (case c5 => decide); (case kB => exact locs rfl); (case c2 => exact rfl); (case c3 => exact rfl); (case c4 => exact rfl); k_whole; intro g' L' h' oL' st' hl' F' N' X' T' l1; (try dsimp only); (try k_fold)))
  (k_with "m call ref" => (k_here; k_dflt (refine' ClaimG.use (unsigned_c _ _ _ _) ?k2 ?k3 ?k4 ?k5 ?kK ?kp ?kd ?ku ?_); (case k2 => k_asm); (case k3 => k_asm); (case k4 => k_asm); (case k5 => k_asm); (case kK => first | exact rfl | assumption); (case kp => ((try dsimp only); (repeat' (refine And.intro ?_ ?_)); all_goals first | assumption | omega | l_bnd | k_dflt k_mem | exact bnd_up (by assumption) | exact filt_bnd _ (by assumption) | exact filt_len _ (by assumption) | exact fm_bnd _ _ (by assumption) (by intro k h1 h2 h3; (try dsimp only at h3 ⊢); omega) | exact fm_len _ _ (by assumption) | exact mp_bnd _ (by assumption) (by assumption) _ | exact mp_len _ (by assumption))); (case kd => ktr_room); (case ku => ktr_units); intro t9 h9 tk9 F9 N9; (try dsimp only); (try k_fold)))
  (k_with "m call ref" => (k_here; k_dflt (refine' ClaimG.use (signed_c _ _ _ _) ?k2 ?k3 ?k4 ?k5 ?kK ?kp ?kd ?ku ?_); (case k2 => k_asm); (case k3 => k_asm); (case k4 => k_asm); (case k5 => k_asm); (case kK => first | exact rfl | assumption); (case kp => ((try dsimp only); (repeat' (refine And.intro ?_ ?_)); all_goals first | assumption | omega | l_bnd | k_dflt k_mem | exact bnd_up (by assumption) | exact filt_bnd _ (by assumption) | exact filt_len _ (by assumption) | exact fm_bnd _ _ (by assumption) (by intro k h1 h2 h3; (try dsimp only at h3 ⊢); omega) | exact fm_len _ _ (by assumption) | exact mp_bnd _ (by assumption) (by assumption) _ | exact mp_len _ (by assumption))); (case kd => ktr_room); (case ku => ktr_units); intro t9 h9 tk9 F9 N9; (try dsimp only); (try k_fold)))
  (k_with "m call ref" => (k_here; k_dflt (refine' ClaimG.use (least_c _ _) ?k2 ?k3 ?k4 ?k5 ?kK ?kp ?kd ?ku ?_); (case k2 => k_asm); (case k3 => k_asm); (case k4 => k_asm); (case k5 => k_asm); (case kK => first | exact rfl | assumption); (case kp => ((try dsimp only); (repeat' (refine And.intro ?_ ?_)); all_goals first | assumption | omega | l_bnd | k_dflt k_mem | exact bnd_up (by assumption) | exact filt_bnd _ (by assumption) | exact filt_len _ (by assumption) | exact fm_bnd _ _ (by assumption) (by intro k h1 h2 h3; (try dsimp only at h3 ⊢); omega) | exact fm_len _ _ (by assumption) | exact mp_bnd _ (by assumption) (by assumption) _ | exact mp_len _ (by assumption))); (case kd => ktr_room); (case ku => ktr_units); intro t9 h9 tk9 F9 N9; (try dsimp only); (try k_fold)))
  (k_with "m call ref" => (k_here; k_dflt (refine' ClaimG.use (toward_c _ _ _ _) ?k2 ?k3 ?k4 ?k5 ?kK ?kp ?kd ?ku ?_); (case k2 => k_asm); (case k3 => k_asm); (case k4 => k_asm); (case k5 => k_asm); (case kK => first | exact rfl | assumption); (case kp => ((try dsimp only); (repeat' (refine And.intro ?_ ?_)); all_goals first | assumption | omega | l_bnd | k_dflt k_mem | exact bnd_up (by assumption) | exact filt_bnd _ (by assumption) | exact filt_len _ (by assumption) | exact fm_bnd _ _ (by assumption) (by intro k h1 h2 h3; (try dsimp only at h3 ⊢); omega) | exact fm_len _ _ (by assumption) | exact mp_bnd _ (by assumption) (by assumption) _ | exact mp_len _ (by assumption))); (case kd => ktr_room); (case ku => ktr_units); intro t9 h9 tk9 F9 N9; (try dsimp only); (try k_fold)))
  (k_with "m binaryOp Mult int int" => (k_here; k_dflt (refine' mul_int ?_ (IntMulOk.of_left (sgn_bits ?fd1 ?fd2 ?fd3 ?fd4)); (case fd3 => assumption); (case fd1 => assumption); (case fd2 => assumption); (case fd4 => assumption)); (try dsimp only)))
  (k_with "m call ref" => (k_here; k_dflt (refine' ClaimG.use (toward_c _ _ _ _) ?k2 ?k3 ?k4 ?k5 ?kK ?kp ?kd ?ku ?_); (case k2 => k_asm); (case k3 => k_asm); (case k4 => k_asm); (case k5 => k_asm); (case kK => first | exact rfl | assumption); (case kp => exact ⟨sgn_ne (by assumption) (by assumption) (by assumption) (by assumption), sgn_100 (by assumption) (by assumption) (by assumption)⟩); (case kd => ktr_room); (case ku => ktr_units); intro t9 h9 tk9 F9 N9; (try dsimp only); (try k_fold)))
  (k_with "m call ref" => (k_here; (with_reducible show wpAny _ _ (call (Value.ref 44) [Value.str _ _]) _ _ _); k_dflt (refine' ClaimG.use (trap_c _ _) ?k2 ?k3 ?k4 ?k5 ?kK ?kp ?kd ?ku ?_); (case k2 => k_asm); (case k3 => k_asm); (case k4 => k_asm); (case k5 => k_asm); (case kK => first | exact rfl | assumption); (case kp => exact trivial); (case kd => ktr_room); (case ku => ktr_units); intro e9 t9 dx9 h9 tk9 hs9 tkw9 tx9 F9 N9 l91 l92 l93; (try dsimp only); (try k_fold)))
  (k_with "m exec Raise some none" => (k_here; k_dflt (refine raiseE rfl ?_)))
  (k_with "m RaiseBack" => (k_dflt (refine' RaiseBack.of ?k1 ?k2 ?k3 ?k4 ?_; (case k1 => k_asm); (case k2 => assumption); (case k3 => assumption); (case k4 => exact .tail _ (.tail _ (.head _)))); (try dsimp only); (try k_fold)))
  (k_with "m leaving ref" => (k_here; (k_dflt (refine' fly3 rfl rfl (kind_ne rfl) ?k1 ?k2 ?k3 ?k4 ?k5 ?k6 ?k7 ?k8 ?k9 ?k10 ?k11 ?k12 (kind_ne rfl) rfl ?k13 ?k14 ?_; (case k1 => k_asm); (case k2 => assumption); (case k3 => assumption); (case k6 => assumption); (case k4 => assumption); (case k5 => assumption);  (case k7 => assumption); (case k8 => assumption); (case k9 => assumption); (case k10 => assumption); (case k11 => assumption); (case k12 => kcj_all); (case k13 => exact kind_ne (by assumption)); (case k14 => rfl))); intro h' z' hn'; (try dsimp only); (try k_fold)))
  (k_with "m noteFrame ref" => (k_here; k_dflt (refine' caughtE rfl ?k1 ?k2 ?k3 ?k4 ?k5 ?k6 ?k7 ?_; (case k1 => assumption); (case k2 => assumption); (case k3 => assumption); (case k4 => exact Fr.above (by assumption)); (case k5 => assumption); (case k6 => exact topRead_of (by assumption)); (case k7 => assumption)); intro h' tk' ws' sd' sw' F' N'; (try dsimp only); (try k_fold)))
  (k_with "m getAttr ref" => (k_here; (k_dflt (refine' exc_getN ?k1 ?k2 ?k3 ?k4 ?k5 ?k6 ?_; (case k1 => k_asm); (case k2 => assumption); (case k3 => k_asm); (case k4 => k_mem); (case k5 => k_mem); (case k6 => rfl))); (try dsimp only); (try k_fold)))
  (k_with "m LeaveY" => (k_here; k_dflt (refine' LeaveY.back ?k1 ?k2 ?k3 ?k4 ?k5 ?k6 ?_; (case k1 => assumption); (case k2 => k_asm); (case k3 => k_asm); (case k4 => assumption); (case k5 => k_mem); (case k6 => kcj_all)); intro F' N'; (try dsimp only); (try k_fold)))
  (k_with "m eval Call" => (k_dflt (refine Call_ ?_)))
  (k_with "m newTuple" => (k_here; k_dflt (refine' kup_newTuple ?F ?N ?_ ?z; (case F => k_asm); (case N => k_asm); (case z => kmk_size)); intro D' h' F' N' l1; (try k_sweep)))
  unfold DivG; k_fill; intro w hh mg mb rest Lw oW mw envW dp un gd cn cs ca ccd cl h₀ L m s Q E hF hK hN hO hlW hne hT hcs hask hdp hun hret
  obtain ⟨hask1, hask2, hask3, hask4, hask5, hask6⟩ := hask
  refine wpAny_call ?_
  k_dflt ktr_enter
  k_steps
  all_goals (refine' LeaveY.told ?k1 ?k2 ?k3 hN ?k4 ?k5 ?k6 ?k7 ?k8 ?k9 ?_; (case k1 => assumption); (case k2 => k_asm); (case k3 => assumption); (case k4 => assumption); (case k5 => k_mem); (case k6 => k_mem); (case k7 => k_mem); (case k8 => kcj_all); (case k9 => exact lt_sub (by assumption) (by kcj_all)); intro F9 N9 hn9; refine hret _ _ _ _ _ _ _ F9 N9 hn9 ?_; first | exact .inl ⟨by assumption, rfl, _, rfl⟩ | exact .inr (.inl ⟨by assumption, rfl, by assumption, by assumption, rfl, _, rfl⟩) | exact .inr (.inr ⟨by assumption, by (intro h; first | exact absurd h.1 (by decide) | exact absurd h.2.1 (by assumption) | exact absurd h.2.2 (by assumption)), rfl, _, rfl⟩))
set_option maxRecDepth 100000 in
set_option maxHeartbeats 8000000 in
theorem divided3_c (x y b : Int) (tw tx ty tb : Tok) : DivG 3 x y b tw tx ty tb := by
  k_with_none
  (k_with "m ktr_enter" => first | (refine' code_defY ?k2 ?k3 ?k4 ?k5 ?kA ?kF ?kK ?k6 ?k7 ?k8 ?k9 ?kB ?_ ?c2 ?c3 ?c4 ?c5; (case kA => exact rfl); (case kF => exact rfl); (case kK => first | exact rfl | assumption); (case k2 => k_asm); (case k3 => k_asm); (case k4 => k_asm); (case k5 => k_asm); (case k6 => k_is); (case k7 => k_is); (case k8 => ktr_room); (case k9 => exact BindsTo.of_eq rfl); (case c5 => decide); (case kB => exact locs rfl); (case c2 => exact rfl); (case c3 => exact rfl); (case c4 => exact rfl); k_whole; intro g' L' h' FG' F' N' X' T'; (try dsimp only); (try k_fold)) | (refine' code_defCY ?k2 ?k3 ?k4 ?k5 ?kA ?kF ?kK ?k6 ?k7 ?k8 ?k9 ?kB ?kD ?_ ?c2 ?c3 ?c4; (case kA => exact rfl); (case kF => exact rfl); (case kK => first | exact rfl | assumption); (case k2 => k_asm); (case k3 => k_asm); (case k4 => k_asm); (case k5 => k_asm); (case k6 => k_is); (case k7 => k_is); (case k8 => ktr_room); (case k9 => exact BindsTo.of_eq rfl); (case kB => exact rfl); (case kD => decide +kernel); (case c2 => exact rfl); (case c3 => exact rfl); (case c4 => exact rfl); k_whole; intro g' L' h' tk' cells' FG' F' N' Y' X' T' l1; (try k_lt l1); k_cells Y'; (try simp only [List.cons_append, List.nil_append] at N'); (try dsimp only); (try k_fold)))
  (k_with "m k_all" => exact all_ne (by assumption) (by first | exact Nat.le_refl _ | exact Nat.le_add_right _ _ | exact Nat.le_trans (Nat.le_add_right _ _) (Nat.le_add_right _ _)))
  (k_with "m binaryOp FloorDiv int int" => (k_here; (k_dflt (refine' floordiv_int ?fd0 ?_ (Or.inl (PyProof.noPylong_of_log2 (lg64 ?fd1 ?fd2 ?fd3))); (case fd0 => assumption); (case fd3 => assumption); (case fd1 => assumption); (case fd2 => assumption))); (try dsimp only)))
  (k_with "m ktr_enter" => (refine' enterX ?k2 ?k3 ?k4 ?k5 ?kA ?kF ?k6 ?k7 ?k8 ?k9 ?kB ?_ ?c2 ?c3 ?c4 ?c5; (case kA => exact rfl); (case kF => exact rfl); (case k2 => k_asm); (case k3 => k_asm); (case k4 => k_asm); (case k5 => k_asm); (case k6 => k_is); (case k7 => k_is); (case k8 => ktr_room); (case k9 => exact BindsTo.of_eq rfl); (case c5 => decide); (case kB => exact locs rfl); (case c2 => exact rfl); (case c3 => exact rfl); (case c4 => exact rfl); k_whole; intro g' L' h' oL' st' hl' F' N' X' T' l1; (try dsimp only); (try k_fold)))
  (k_with "m call ref" => (k_here; k_dflt (refine' ClaimG.use (unsigned_c _ _ _ _) ?k2 ?k3 ?k4 ?k5 ?kK ?kp ?kd ?ku ?_); (case k2 => k_asm); (case k3 => k_asm); (case k4 => k_asm); (case k5 => k_asm); (case kK => first | exact rfl | assumption); (case kp => ((try dsimp only); (repeat' (refine And.intro ?_ ?_)); all_goals first | assumption | omega | l_bnd | k_dflt k_mem | exact bnd_up (by assumption) | exact filt_bnd _ (by assumption) | exact filt_len _ (by assumption) | exact fm_bnd _ _ (by assumption) (by intro k h1 h2 h3; (try dsimp only at h3 ⊢); omega) | exact fm_len _ _ (by assumption) | exact mp_bnd _ (by assumption) (by assumption) _ | exact mp_len _ (by assumption))); (case kd => ktr_room); (case ku => ktr_units); intro t9 h9 tk9 F9 N9; (try dsimp only); (try k_fold)))
  (k_with "m call ref" => (k_here; k_dflt (refine' ClaimG.use (signed_c _ _ _ _) ?k2 ?k3 ?k4 ?k5 ?kK ?kp ?kd ?ku ?_); (case k2 => k_asm); (case k3 => k_asm); (case k4 => k_asm); (case k5 => k_asm); (case kK => first | exact rfl | assumption); (case kp => ((try dsimp only); (repeat' (refine And.intro ?_ ?_)); all_goals first | assumption | omega | l_bnd | k_dflt k_mem | exact bnd_up (by assumption) | exact filt_bnd _ (by assumption) | exact filt_len _ (by assumption) | exact fm_bnd _ _ (by assumption) (by intro k h1 h2 h3; (try dsimp only at h3 ⊢); omega) | exact fm_len _ _ (by assumption) | exact mp_bnd _ (by assumption) (by assumption) _ | exact mp_len _ (by assumption))); (case kd => ktr_room); (case ku => ktr_units); intro t9 h9 tk9 F9 N9; (try dsimp only); (try k_fold)))
  (k_with "m call ref" => (k_here; k_dflt (refine' ClaimG.use (least_c _ _) ?k2 ?k3 ?k4 ?k5 ?kK ?kp ?kd ?ku ?_); (case k2 => k_asm); (case k3 => k_asm); (case k4 => k_asm); (case k5 => k_asm); (case kK => first | exact rfl | assumption); (case kp => ((try dsimp only); (repeat' (refine And.intro ?_ ?_)); all_goals first | assumption | omega | l_bnd | k_dflt k_mem | exact bnd_up (by assumption) | exact filt_bnd _ (by assumption) | exact filt_len _ (by assumption) | exact fm_bnd _ _ (by assumption) (by intro k h1 h2 h3; (try dsimp only at h3 ⊢); omega) | exact fm_len _ _ (by assumption) | exact mp_bnd _ (by assumption) (by assumption) _ | exact mp_len _ (by assumption))); (case kd => ktr_room); (case ku => ktr_units); intro t9 h9 tk9 F9 N9; (try dsimp only); (try k_fold)))
  (k_with "m call ref" => (k_here; k_dflt (refine' ClaimG.use (toward_c _ _ _ _) ?k2 ?k3 ?k4 ?k5 ?kK ?kp ?kd ?ku ?_); (case k2 => k_asm); (case k3 => k_asm); (case k4 => k_asm); (case k5 => k_asm); (case kK => first | exact rfl | assumption); (case kp => ((try dsimp only); (repeat' (refine And.intro ?_ ?_)); all_goals first | assumption | omega | l_bnd | k_dflt k_mem | exact bnd_up (by assumption) | exact filt_bnd _ (by assumption) | exact filt_len _ (by assumption) | exact fm_bnd _ _ (by assumption) (by intro k h1 h2 h3; (try dsimp only at h3 ⊢); omega) | exact fm_len _ _ (by assumption) | exact mp_bnd _ (by assumption) (by assumption) _ | exact mp_len _ (by assumption))); (case kd => ktr_room); (case ku => ktr_units); intro t9 h9 tk9 F9 N9; (try dsimp only); (try k_fold)))
  (k_with "m binaryOp Mult int int" => (k_here; k_dflt (refine' mul_int ?_ (IntMulOk.of_left (sgn_bits ?fd1 ?fd2 ?fd3 ?fd4)); (case fd3 => assumption); (case fd1 => assumption); (case fd2 => assumption); (case fd4 => assumption)); (try dsimp only)))
  (k_with "m call ref" => (k_here; k_dflt (refine' ClaimG.use (toward_c _ _ _ _) ?k2 ?k3 ?k4 ?k5 ?kK ?kp ?kd ?ku ?_); (case k2 => k_asm); (case k3 => k_asm); (case k4 => k_asm); (case k5 => k_asm); (case kK => first | exact rfl | assumption); (case kp => exact ⟨sgn_ne (by assumption) (by assumption) (by assumption) (by assumption), sgn_100 (by assumption) (by assumption) (by assumption)⟩); (case kd => ktr_room); (case ku => ktr_units); intro t9 h9 tk9 F9 N9; (try dsimp only); (try k_fold)))
  (k_with "m call ref" => (k_here; (with_reducible show wpAny _ _ (call (Value.ref 44) [Value.str _ _]) _ _ _); k_dflt (refine' ClaimG.use (trap_c _ _) ?k2 ?k3 ?k4 ?k5 ?kK ?kp ?kd ?ku ?_); (case k2 => k_asm); (case k3 => k_asm); (case k4 => k_asm); (case k5 => k_asm); (case kK => first | exact rfl | assumption); (case kp => exact trivial); (case kd => ktr_room); (case ku => ktr_units); intro e9 t9 dx9 h9 tk9 hs9 tkw9 tx9 F9 N9 l91 l92 l93; (try dsimp only); (try k_fold)))
  (k_with "m exec Raise some none" => (k_here; k_dflt (refine raiseE rfl ?_)))
  (k_with "m RaiseBack" => (k_dflt (refine' RaiseBack.of ?k1 ?k2 ?k3 ?k4 ?_; (case k1 => k_asm); (case k2 => assumption); (case k3 => assumption); (case k4 => exact .tail _ (.tail _ (.head _)))); (try dsimp only); (try k_fold)))
  (k_with "m leaving ref" => (k_here; (k_dflt (refine' fly3 rfl rfl (kind_ne rfl) ?k1 ?k2 ?k3 ?k4 ?k5 ?k6 ?k7 ?k8 ?k9 ?k10 ?k11 ?k12 (kind_ne rfl) rfl ?k13 ?k14 ?_; (case k1 => k_asm); (case k2 => assumption); (case k3 => assumption); (case k6 => assumption); (case k4 => assumption); (case k5 => assumption);  (case k7 => assumption); (case k8 => assumption); (case k9 => assumption); (case k10 => assumption); (case k11 => assumption); (case k12 => kcj_all); (case k13 => exact kind_ne (by assumption)); (case k14 => rfl))); intro h' z' hn'; (try dsimp only); (try k_fold)))
  (k_with "m noteFrame ref" => (k_here; k_dflt (refine' caughtE rfl ?k1 ?k2 ?k3 ?k4 ?k5 ?k6 ?k7 ?_; (case k1 => assumption); (case k2 => assumption); (case k3 => assumption); (case k4 => exact Fr.above (by assumption)); (case k5 => assumption); (case k6 => exact topRead_of (by assumption)); (case k7 => assumption)); intro h' tk' ws' sd' sw' F' N'; (try dsimp only); (try k_fold)))
  (k_with "m getAttr ref" => (k_here; (k_dflt (refine' exc_getN ?k1 ?k2 ?k3 ?k4 ?k5 ?k6 ?_; (case k1 => k_asm); (case k2 => assumption); (case k3 => k_asm); (case k4 => k_mem); (case k5 => k_mem); (case k6 => rfl))); (try dsimp only); (try k_fold)))
  (k_with "m LeaveY" => (k_here; k_dflt (refine' LeaveY.back ?k1 ?k2 ?k3 ?k4 ?k5 ?k6 ?_; (case k1 => assumption); (case k2 => k_asm); (case k3 => k_asm); (case k4 => assumption); (case k5 => k_mem); (case k6 => kcj_all)); intro F' N'; (try dsimp only); (try k_fold)))
  (k_with "m eval Call" => (k_dflt (refine Call_ ?_)))
  (k_with "m newTuple" => (k_here; k_dflt (refine' kup_newTuple ?F ?N ?_ ?z; (case F => k_asm); (case N => k_asm); (case z => kmk_size)); intro D' h' F' N' l1; (try k_sweep)))
  unfold DivG; k_fill; intro w hh mg mb rest Lw oW mw envW dp un gd cn cs ca ccd cl h₀ L m s Q E hF hK hN hO hlW hne hT hcs hask hdp hun hret
  obtain ⟨hask1, hask2, hask3, hask4, hask5, hask6⟩ := hask
  refine wpAny_call ?_
  k_dflt ktr_enter
  k_steps
  all_goals (refine' LeaveY.told ?k1 ?k2 ?k3 hN ?k4 ?k5 ?k6 ?k7 ?k8 ?k9 ?_; (case k1 => assumption); (case k2 => k_asm); (case k3 => assumption); (case k4 => assumption); (case k5 => k_mem); (case k6 => k_mem); (case k7 => k_mem); (case k8 => kcj_all); (case k9 => exact lt_sub (by assumption) (by kcj_all)); intro F9 N9 hn9; refine hret _ _ _ _ _ _ _ F9 N9 hn9 ?_; first | exact .inl ⟨by assumption, rfl, _, rfl⟩ | exact .inr (.inl ⟨by assumption, rfl, by assumption, by assumption, rfl, _, rfl⟩) | exact .inr (.inr ⟨by assumption, by (intro h; first | exact absurd h.1 (by decide) | exact absurd h.2.1 (by assumption) | exact absurd h.2.2 (by assumption)), rfl, _, rfl⟩))
end
/-! part E1 -/
section
def NeI (y : Int) : Prop := y ≠ 0
theorem NeI.no {y : Int} {P : Prop} (h : NeI y) (e : y = 0) : P := absurd e h
def NoOver (x y b : Int) : Prop := ¬ (sgn x b = -2 ^ (b - 1).toNat ∧ sgn y b = -1)
theorem NoOver.no {x y b : Int} {P : Prop} (h : NoOver x y b) (e : sgn x b = -2 ^ (b - 1).toNat) (e2 : sgn y b = -1) : P := absurd ⟨e, e2⟩ h
def Over (x y b : Int) : Prop := sgn x b = -2 ^ (b - 1).toNat ∧ sgn y b = -1
theorem Over.no1 {x y b : Int} {P : Prop} (h : Over x y b) (e : sgn x b ≠ -2 ^ (b - 1).toNat) : P := absurd h.1 e
theorem Over.no2 {x y b : Int} {P : Prop} (h : Over x y b) (e : sgn y b ≠ -1) : P := absurd h.2 e
theorem sign_no {r A : Int} (h : r ≠ 0) (a : (decide (r < 0) != decide (A < 0)) = true) (h1 : 0 ≤ A → 0 ≤ r) (h2 : A ≤ 0 → r ≤ 0) : False := by
  by_cases q : A < 0
  · have := h2 (Int.le_of_lt q)
    rw [decide_eq_true q, decide_eq_true (show r < 0 by omega)] at a
    cases a
  · have := h1 (by omega)
    rw [decide_eq_false q, decide_eq_false (show ¬ r < 0 by omega)] at a
    cases a
theorem abs_lt_true {r B : Int} (h : r.natAbs < B.natAbs) : decide ((if r < 0 then -r else r) < if B < 0 then -B else B) = true := by
  rw [abs_is, abs_is]
  exact decide_eq_true (Int.ofNat_lt.mpr h)
abbrev tT (tag : String) (q : Int) (t1 t2 : Tok) : Obj := tupObj [.str (Str.ofString tag) t1, .int q t2]
set_option maxRecDepth 100000 in
set_option maxHeartbeats 8000000 in
theorem plain_c (D2 D3 : Addr) (t21 t22 t31 t32 : Tok) (x y q r b : Int) (tx ty : Tok) : ClaimG 194 3 (fun _ news => (∃ rest, news = (D2, tT "told" q t21 t22) :: (D3, tT "told" r t31 t32) :: rest) ∧ b ≤ 64 ∧ 0 ≤ y ∧ y < 2 ^ b.toNat ∧ NeI y ∧ q = x.fdiv y ∧ r = x.fmod y) [.ref D2, .ref D3, .int x tx, .int y ty] (RetB true) := by
  k_with_none
  (k_with "m ktr_enter" => first | (refine' code_defY ?k2 ?k3 ?k4 ?k5 ?kA ?kF ?kK ?k6 ?k7 ?k8 ?k9 ?kB ?_ ?c2 ?c3 ?c4 ?c5; (case kA => exact rfl); (case kF => exact rfl); (case kK => first | exact rfl | assumption); (case k2 => k_asm); (case k3 => k_asm); (case k4 => k_asm); (case k5 => k_asm); (case k6 => k_is); (case k7 => k_is); (case k8 => ktr_room); (case k9 => exact BindsTo.of_eq rfl); (case c5 => decide); (case kB => exact locs rfl); (case c2 => exact rfl); (case c3 => exact rfl); (case c4 => exact rfl); k_whole; intro g' L' h' FG' F' N' X' T'; (try dsimp only); (try k_fold)) | (refine' code_defCY ?k2 ?k3 ?k4 ?k5 ?kA ?kF ?kK ?k6 ?k7 ?k8 ?k9 ?kB ?kD ?_ ?c2 ?c3 ?c4; (case kA => exact rfl); (case kF => exact rfl); (case kK => first | exact rfl | assumption); (case k2 => k_asm); (case k3 => k_asm); (case k4 => k_asm); (case k5 => k_asm); (case k6 => k_is); (case k7 => k_is); (case k8 => ktr_room); (case k9 => exact BindsTo.of_eq rfl); (case kB => exact rfl); (case kD => decide +kernel); (case c2 => exact rfl); (case c3 => exact rfl); (case c4 => exact rfl); k_whole; intro g' L' h' tk' cells' FG' F' N' Y' X' T' l1; (try k_lt l1); k_cells Y'; (try simp only [List.cons_append, List.nil_append] at N'); (try dsimp only); (try k_fold)))
  (k_with "m k_all" => exact all_ne (by assumption) (by first | exact Nat.le_refl _ | exact Nat.le_add_right _ _ | exact Nat.le_trans (Nat.le_add_right _ _) (Nat.le_add_right _ _)))
  (k_with "m call ref" => (k_here; k_dflt (refine' ClaimG.use (lsigned_c _ _ _ _) ?k2 ?k3 ?k4 ?k5 ?kK ?kp ?kd ?ku ?_); (case k2 => k_asm); (case k3 => k_asm); (case k4 => k_asm); (case k5 => k_asm); (case kK => first | exact rfl | assumption); (case kp => ((try dsimp only); (repeat' (refine And.intro ?_ ?_)); all_goals first | assumption | omega | l_bnd | k_dflt k_mem | exact bnd_up (by assumption) | exact filt_bnd _ (by assumption) | exact filt_len _ (by assumption) | exact fm_bnd _ _ (by assumption) (by intro k h1 h2 h3; (try dsimp only at h3 ⊢); omega) | exact fm_len _ _ (by assumption) | exact mp_bnd _ (by assumption) (by assumption) _ | exact mp_len _ (by assumption))); (case kd => ktr_room); (case ku => ktr_units); intro t9 h9 tk9 F9 N9; (try dsimp only); (try k_fold)))
  (k_with "m execs cons" => first | exact NeI.no (by assumption) (by assumption) | exact NoOver.no (by assumption) (by assumption) (by assumption) | exact Over.no1 (by assumption) (by assumption) | exact Over.no2 (by assumption) (by assumption))
  (k_with "m execs nil" => first | exact NeI.no (by assumption) (by assumption) | exact NoOver.no (by assumption) (by assumption) (by assumption) | exact Over.no1 (by assumption) (by assumption) | exact Over.no2 (by assumption) (by assumption))
  (k_with "m isTrue BoolOp" => first | exact Over.no1 (by assumption) (by assumption) | exact Over.no2 (by assumption) (by assumption))
  (k_with "m binaryOp Mult int int" => (k_here; k_dflt (first | (refine' mul_int ?_ (IntMulOk.of_right (sgn_bits ?fd1 ?fd2 ?fd3 ?fd4)); (case fd3 => assumption); (case fd1 => assumption); (case fd2 => assumption); (case fd4 => assumption)) | (refine' mul_int ?_ (IntMulOk.of_right (int_bits ?fd1 ?fd2 ?fd3)); (case fd3 => assumption); (case fd1 => assumption); (case fd2 => assumption))); (try dsimp only)))
  unfold ClaimG; k_fill; intro w hh mg mb news dp un gd cn cs ca ccd cl outer h₀ L m s Q E hF hK hN hT hcs hask hdp hun hret
  obtain ⟨⟨rest, rfl⟩, hask1, hask2, hask3, hask4, hask5, hask6⟩ := hask
  have hf := plain_fact hask2 hask4 hask5 hask6
  refine wpAny_call ?_; k_dflt ktr_enter
  k_steps
  all_goals ktr_rel
  all_goals first | exact decide_eq_true hf.2.2 | exact beq_iff_eq.mpr hf.1
set_option maxRecDepth 100000 in
set_option maxHeartbeats 8000000 in
theorem signedv_c (D2 D3 : Addr) (t21 t22 t31 t32 : Tok) (x y q r b : Int) (tx ty tb : Tok) : ClaimG 201 16 (fun _ news => (∃ rest, news = (D2, tT "told" q t21 t22) :: (D3, tT "told" r t31 t32) :: rest) ∧ (1 ≤ b ∧ b ≤ 64 ∧ 0 ≤ x ∧ x < 2 ^ b.toNat ∧ 0 ≤ y ∧ y < 2 ^ b.toNat) ∧ NeI y ∧ NoOver x y b ∧ (0 ≤ q ∧ q < 2 ^ b.toNat) ∧ (0 ≤ r ∧ r < 2 ^ b.toNat) ∧ sgn q b = Int.tdiv (sgn x b) (sgn y b) ∧ sgn r b = Int.tmod (sgn x b) (sgn y b)) [.ref D2, .ref D3, .int x tx, .int y ty, .int b tb] (RetB true) := by
  k_with_none
  (k_with "m ktr_enter" => first | (refine' code_defY ?k2 ?k3 ?k4 ?k5 ?kA ?kF ?kK ?k6 ?k7 ?k8 ?k9 ?kB ?_ ?c2 ?c3 ?c4 ?c5; (case kA => exact rfl); (case kF => exact rfl); (case kK => first | exact rfl | assumption); (case k2 => k_asm); (case k3 => k_asm); (case k4 => k_asm); (case k5 => k_asm); (case k6 => k_is); (case k7 => k_is); (case k8 => ktr_room); (case k9 => exact BindsTo.of_eq rfl); (case c5 => decide); (case kB => exact locs rfl); (case c2 => exact rfl); (case c3 => exact rfl); (case c4 => exact rfl); k_whole; intro g' L' h' FG' F' N' X' T'; (try dsimp only); (try k_fold)) | (refine' code_defCY ?k2 ?k3 ?k4 ?k5 ?kA ?kF ?kK ?k6 ?k7 ?k8 ?k9 ?kB ?kD ?_ ?c2 ?c3 ?c4; (case kA => exact rfl); (case kF => exact rfl); (case kK => first | exact rfl | assumption); (case k2 => k_asm); (case k3 => k_asm); (case k4 => k_asm); (case k5 => k_asm); (case k6 => k_is); (case k7 => k_is); (case k8 => ktr_room); (case k9 => exact BindsTo.of_eq rfl); (case kB => exact rfl); (case kD => decide +kernel); (case c2 => exact rfl); (case c3 => exact rfl); (case c4 => exact rfl); k_whole; intro g' L' h' tk' cells' FG' F' N' Y' X' T' l1; (try k_lt l1); k_cells Y'; (try simp only [List.cons_append, List.nil_append] at N'); (try dsimp only); (try k_fold)))
  (k_with "m k_all" => exact all_ne (by assumption) (by first | exact Nat.le_refl _ | exact Nat.le_add_right _ _ | exact Nat.le_trans (Nat.le_add_right _ _) (Nat.le_add_right _ _)))
  (k_with "m call ref" => (k_here; k_dflt (refine' ClaimG.use (lsigned_c _ _ _ _) ?k2 ?k3 ?k4 ?k5 ?kK ?kp ?kd ?ku ?_); (case k2 => k_asm); (case k3 => k_asm); (case k4 => k_asm); (case k5 => k_asm); (case kK => first | exact rfl | assumption); (case kp => ((try dsimp only); (repeat' (refine And.intro ?_ ?_)); all_goals first | assumption | omega | l_bnd | k_dflt k_mem | exact bnd_up (by assumption) | exact filt_bnd _ (by assumption) | exact filt_len _ (by assumption) | exact fm_bnd _ _ (by assumption) (by intro k h1 h2 h3; (try dsimp only at h3 ⊢); omega) | exact fm_len _ _ (by assumption) | exact mp_bnd _ (by assumption) (by assumption) _ | exact mp_len _ (by assumption))); (case kd => ktr_room); (case ku => ktr_units); intro t9 h9 tk9 F9 N9; (try dsimp only); (try k_fold)))
  (k_with "m execs cons" => first | exact NeI.no (by assumption) (by assumption) | exact NoOver.no (by assumption) (by assumption) (by assumption) | exact Over.no1 (by assumption) (by assumption) | exact Over.no2 (by assumption) (by assumption))
  (k_with "m execs nil" => first | exact NeI.no (by assumption) (by assumption) | exact NoOver.no (by assumption) (by assumption) (by assumption) | exact Over.no1 (by assumption) (by assumption) | exact Over.no2 (by assumption) (by assumption))
  (k_with "m isTrue BoolOp" => first | exact Over.no1 (by assumption) (by assumption) | exact Over.no2 (by assumption) (by assumption))
  (k_with "m binaryOp Mult int int" => (k_here; k_dflt (first | (refine' mul_int ?_ (IntMulOk.of_right (sgn_bits ?fd1 ?fd2 ?fd3 ?fd4)); (case fd3 => assumption); (case fd1 => assumption); (case fd2 => assumption); (case fd4 => assumption)) | (refine' mul_int ?_ (IntMulOk.of_right (int_bits ?fd1 ?fd2 ?fd3)); (case fd3 => assumption); (case fd1 => assumption); (case fd2 => assumption))); (try dsimp only)))
  unfold ClaimG; k_fill; intro w hh mg mb news dp un gd cn cs ca ccd cl outer h₀ L m s Q E hF hK hN hT hcs hask hdp hun hret
  obtain ⟨⟨rest, rfl⟩, ⟨hask1, hask2, hask3, hask4, hask5, hask6⟩, hask7, hask8, ⟨hask9, hask10⟩, ⟨hask11, hask12⟩, hask13, hask14⟩ := hask
  have hf := signed_fact hask1 hask5 hask6 hask7 hask13 hask14
  refine wpAny_call ?_; k_dflt ktr_enter
  k_steps
  all_goals ktr_rel
  all_goals first | exact abs_lt_true hf.2.1 | exact beq_iff_eq.mpr hf.1 | exact (sign_no (by assumption) (by assumption) hf.2.2.1 hf.2.2.2).elim
set_option maxRecDepth 100000 in
set_option maxHeartbeats 8000000 in
theorem signedo_c (D2 D3 : Addr) (t21 t22 t31 t32 : Tok) (x y b : Int) (tx ty tb : Tok) : ClaimG 201 16 (fun _ news => (∃ rest, news = (D2, tupObj [.str (Str.ofString "trap") t21, .str (Str.ofString "integer overflow") t22]) :: (D3, tupObj [.str (Str.ofString "told") t31, .int 0 t32]) :: rest) ∧ (1 ≤ b ∧ b ≤ 64 ∧ 0 ≤ x ∧ x < 2 ^ b.toNat ∧ 0 ≤ y ∧ y < 2 ^ b.toNat) ∧ Over x y b) [.ref D2, .ref D3, .int x tx, .int y ty, .int b tb] (RetB true) := by
  k_with_none
  (k_with "m ktr_enter" => first | (refine' code_defY ?k2 ?k3 ?k4 ?k5 ?kA ?kF ?kK ?k6 ?k7 ?k8 ?k9 ?kB ?_ ?c2 ?c3 ?c4 ?c5; (case kA => exact rfl); (case kF => exact rfl); (case kK => first | exact rfl | assumption); (case k2 => k_asm); (case k3 => k_asm); (case k4 => k_asm); (case k5 => k_asm); (case k6 => k_is); (case k7 => k_is); (case k8 => ktr_room); (case k9 => exact BindsTo.of_eq rfl); (case c5 => decide); (case kB => exact locs rfl); (case c2 => exact rfl); (case c3 => exact rfl); (case c4 => exact rfl); k_whole; intro g' L' h' FG' F' N' X' T'; (try dsimp only); (try k_fold)) | (refine' code_defCY ?k2 ?k3 ?k4 ?k5 ?kA ?kF ?kK ?k6 ?k7 ?k8 ?k9 ?kB ?kD ?_ ?c2 ?c3 ?c4; (case kA => exact rfl); (case kF => exact rfl); (case kK => first | exact rfl | assumption); (case k2 => k_asm); (case k3 => k_asm); (case k4 => k_asm); (case k5 => k_asm); (case k6 => k_is); (case k7 => k_is); (case k8 => ktr_room); (case k9 => exact BindsTo.of_eq rfl); (case kB => exact rfl); (case kD => decide +kernel); (case c2 => exact rfl); (case c3 => exact rfl); (case c4 => exact rfl); k_whole; intro g' L' h' tk' cells' FG' F' N' Y' X' T' l1; (try k_lt l1); k_cells Y'; (try simp only [List.cons_append, List.nil_append] at N'); (try dsimp only); (try k_fold)))
  (k_with "m k_all" => exact all_ne (by assumption) (by first | exact Nat.le_refl _ | exact Nat.le_add_right _ _ | exact Nat.le_trans (Nat.le_add_right _ _) (Nat.le_add_right _ _)))
  (k_with "m call ref" => (k_here; k_dflt (refine' ClaimG.use (lsigned_c _ _ _ _) ?k2 ?k3 ?k4 ?k5 ?kK ?kp ?kd ?ku ?_); (case k2 => k_asm); (case k3 => k_asm); (case k4 => k_asm); (case k5 => k_asm); (case kK => first | exact rfl | assumption); (case kp => ((try dsimp only); (repeat' (refine And.intro ?_ ?_)); all_goals first | assumption | omega | l_bnd | k_dflt k_mem | exact bnd_up (by assumption) | exact filt_bnd _ (by assumption) | exact filt_len _ (by assumption) | exact fm_bnd _ _ (by assumption) (by intro k h1 h2 h3; (try dsimp only at h3 ⊢); omega) | exact fm_len _ _ (by assumption) | exact mp_bnd _ (by assumption) (by assumption) _ | exact mp_len _ (by assumption))); (case kd => ktr_room); (case ku => ktr_units); intro t9 h9 tk9 F9 N9; (try dsimp only); (try k_fold)))
  (k_with "m execs cons" => first | exact NeI.no (by assumption) (by assumption) | exact NoOver.no (by assumption) (by assumption) (by assumption) | exact Over.no1 (by assumption) (by assumption) | exact Over.no2 (by assumption) (by assumption))
  (k_with "m execs nil" => first | exact NeI.no (by assumption) (by assumption) | exact NoOver.no (by assumption) (by assumption) (by assumption) | exact Over.no1 (by assumption) (by assumption) | exact Over.no2 (by assumption) (by assumption))
  (k_with "m isTrue BoolOp" => first | exact Over.no1 (by assumption) (by assumption) | exact Over.no2 (by assumption) (by assumption))
  (k_with "m binaryOp Mult int int" => (k_here; k_dflt (first | (refine' mul_int ?_ (IntMulOk.of_right (sgn_bits ?fd1 ?fd2 ?fd3 ?fd4)); (case fd3 => assumption); (case fd1 => assumption); (case fd2 => assumption); (case fd4 => assumption)) | (refine' mul_int ?_ (IntMulOk.of_right (int_bits ?fd1 ?fd2 ?fd3)); (case fd3 => assumption); (case fd1 => assumption); (case fd2 => assumption))); (try dsimp only)))
  unfold ClaimG; k_fill; intro w hh mg mb news dp un gd cn cs ca ccd cl outer h₀ L m s Q E hF hK hN hT hcs hask hdp hun hret
  obtain ⟨⟨rest, rfl⟩, ⟨hask1, hask2, hask3, hask4, hask5, hask6⟩, hask7⟩ := hask
  have hf1 := hask7.1
  have hf2 := hask7.2
  refine wpAny_call ?_; k_dflt ktr_enter
  k_steps
  all_goals ktr_rel
  all_goals rfl
end
/-! part E2 -/
section
theorem LeaveY.backN {h₀ g' : Heap} {L L' : Addr} {oL : Obj} {m m' : Str → Option Value} {s' : Shared} {news : List (Addr × Obj)} {R : Result → Shared → Prop} {v : Value} {news' : List (Addr × Obj)} {sl : Array (Option Value)} (st : h₀.StaysIn g') (F : Fr g' L' s'.heap m') (N : News g' L' s'.heap news) (ne : ∀ p ∈ news', p.1 ≠ L)
    (h1 : (L, { oL with slots := sl }) ∈ news) (h2 : ∀ p ∈ news', p ∈ news) (k : Fr h₀ L s'.heap m → News h₀ L s'.heap news' → R (.ok (.ret v)) s') : LeaveY h₀ L oL m R v s' :=
  ⟨g', L', m', news', sl, st, F, cb_drop N (List.forall_mem_cons.mpr ⟨h1, h2⟩), ne, k⟩
theorem frIn_one {cn : Str} {cs : Scope} {L ca : Addr} {ccd : Value} {cl : List (Str × Addr)} {oL : Obj} {m : Str → Option Value} (h : cs.kind = .function) (hl : IsLoc oL m) : FrIn [envX cn cs L ca ccd cl] [(L, oL)] := by
  obtain ⟨es, ep, hd, _⟩ := hl
  exact ⟨⟨kind_ne h, rfl, fun vs q => by rw [hd] at q; cases q⟩, trivial⟩
theorem two_news {h₀ h : Heap} {L D2 D3 : Addr} {o2 o3 : Obj} {all : List (Addr × Obj)} (N : News h₀ L h all) (m2 : (D2, o2) ∈ all) (m3 : (D3, o3) ∈ all) : News h₀ L h ((D2, o2) :: (D3, o3) :: all) :=
  List.forall_mem_cons.mpr ⟨N _ m2, List.forall_mem_cons.mpr ⟨N _ m3, N⟩⟩
section
variable {D2 D3 : Addr} {t21 t22 t31 t32 : Tok} {x y q r b : Int} {tx ty tb : Tok} {w : World} {hh : Heap} {mg mb : Str → Option Value} {all : List (Addr × Obj)}
  {dp un : Nat} {gd : Option (List Code)} {cn : Str} {cs : Scope} {ca : Addr} {ccd : Value} {cl : List (Str × Addr)} {outer : List Env} {h₀ : Heap} {L : Addr} {m : Str → Option Value} {s : Shared} {Q E : Value → Shared → Prop}
theorem plain_u (hF : Fr h₀ L s.heap m) (hK : (hd.heap_39 w.params).In h₀) (hN : News h₀ L s.heap all) (m2 : (D2, tT "told" q t21 t22) ∈ all) (m3 : (D3, tT "told" r t31 t32) ∈ all) (hT : Top hd.view_39 (looseW hd.view_39 []) (ExcName.means hh) mg mb h₀) (hcs : cs.kind = .function)
    (a1 : b ≤ 64) (a2 : 0 ≤ y) (a3 : y < 2 ^ b.toNat) (a4 : NeI y) (a5 : q = x.fdiv y) (a6 : r = x.fmod y) (hdp : dp + 3 < recursionLimit) (hun : un + 8 * 3 < cLine) (hret : RetB true h₀ L m all s Q) :
    wpAny (model PySem.Challenge.rw_nm0111_01.row.prog w) (ktrTop dp un gd cn cs L ca ccd cl outer) (call (.ref 194) [.ref D2, .ref D3, .int x tx, .int y ty]) Q E s :=
  ClaimG.use (plain_c _ _ _ _ _ _ _ _ _ _ _ _ _) hF hK (two_news hN m2 m3) hT hcs ⟨⟨_, rfl⟩, a1, a2, a3, a4, a5, a6⟩ hdp hun fun h' tk' F N => hret h' tk' F (News.tail' (News.tail' N))
theorem signedv_u (hF : Fr h₀ L s.heap m) (hK : (hd.heap_39 w.params).In h₀) (hN : News h₀ L s.heap all) (m2 : (D2, tT "told" q t21 t22) ∈ all) (m3 : (D3, tT "told" r t31 t32) ∈ all) (hT : Top hd.view_39 (looseW hd.view_39 []) (ExcName.means hh) mg mb h₀) (hcs : cs.kind = .function)
    (a1 : 1 ≤ b) (a2 : b ≤ 64) (a3 : 0 ≤ x) (a4 : x < 2 ^ b.toNat) (a5 : 0 ≤ y) (a6 : y < 2 ^ b.toNat) (a7 : NeI y) (a8 : NoOver x y b) (a9 : 0 ≤ q) (a10 : q < 2 ^ b.toNat) (a11 : 0 ≤ r) (a12 : r < 2 ^ b.toNat) (a13 : sgn q b = Int.tdiv (sgn x b) (sgn y b)) (a14 : sgn r b = Int.tmod (sgn x b) (sgn y b))
    (hdp : dp + 16 < recursionLimit) (hun : un + 8 * 16 < cLine) (hret : RetB true h₀ L m all s Q) :
    wpAny (model PySem.Challenge.rw_nm0111_01.row.prog w) (ktrTop dp un gd cn cs L ca ccd cl outer) (call (.ref 201) [.ref D2, .ref D3, .int x tx, .int y ty, .int b tb]) Q E s :=
  ClaimG.use (signedv_c _ _ _ _ _ _ _ _ _ _ _ _ _ _) hF hK (two_news hN m2 m3) hT hcs ⟨⟨_, rfl⟩, ⟨a1, a2, a3, a4, a5, a6⟩, a7, a8, ⟨a9, a10⟩, ⟨a11, a12⟩, a13, a14⟩ hdp hun fun h' tk' F N => hret h' tk' F (News.tail' (News.tail' N))
theorem signedo_u (hF : Fr h₀ L s.heap m) (hK : (hd.heap_39 w.params).In h₀) (hN : News h₀ L s.heap all) (m2 : (D2, tupObj [.str (Str.ofString "trap") t21, .str (Str.ofString "integer overflow") t22]) ∈ all) (m3 : (D3, tupObj [.str (Str.ofString "told") t31, .int 0 t32]) ∈ all) (hT : Top hd.view_39 (looseW hd.view_39 []) (ExcName.means hh) mg mb h₀) (hcs : cs.kind = .function)
    (a1 : 1 ≤ b) (a2 : b ≤ 64) (a3 : 0 ≤ x) (a4 : x < 2 ^ b.toNat) (a5 : 0 ≤ y) (a6 : y < 2 ^ b.toNat) (a7 : Over x y b)
    (hdp : dp + 16 < recursionLimit) (hun : un + 8 * 16 < cLine) (hret : RetB true h₀ L m all s Q) :
    wpAny (model PySem.Challenge.rw_nm0111_01.row.prog w) (ktrTop dp un gd cn cs L ca ccd cl outer) (call (.ref 201) [.ref D2, .ref D3, .int x tx, .int y ty, .int b tb]) Q E s :=
  ClaimG.use (signedo_c _ _ _ _ _ _ _ _ _ _ _ _) hF hK (two_news hN m2 m3) hT hcs ⟨⟨_, rfl⟩, ⟨a1, a2, a3, a4, a5, a6⟩, a7⟩ hdp hun fun h' tk' F N => hret h' tk' F (News.tail' (News.tail' N))
end
set_option maxRecDepth 100000 in
set_option maxHeartbeats 8000000 in
theorem divisions_z (x y b : Int) (tx ty tb : Tok) (hc1 : y = 0) : ∀ (w : World) (hh : Heap) (mg mb : Str → Option Value) (news : List (Addr × Obj))
   (dp un : Nat) (gd : Option (List Code)) (cn : Str) (cs : Scope) (ca : Addr) (ccd : Value) (cl : List (Str × Addr)) (h₀ : Heap) (L : Addr) (m : Str → Option Value) (s : Shared) (Q E : Value → Shared → Prop),
    Fr h₀ L s.heap m → (hd.heap_39 w.params).In h₀ → News h₀ L s.heap news → Top hd.view_39 (looseW hd.view_39 []) (ExcName.means hh) mg mb h₀ → cs.kind = .function →
    (1 ≤ b ∧ b ≤ 64 ∧ 0 ≤ x ∧ x < 2 ^ b.toNat ∧ 0 ≤ y ∧ y < 2 ^ b.toNat) → dp + 20 < recursionLimit → un + 8 * 20 < cLine → RetB true h₀ L m news s Q →
      wpAny (model PySem.Challenge.rw_nm0111_01.row.prog w) (ktrTop dp un gd cn cs L ca ccd cl []) (call (.ref 206) [.int x tx, .int y ty, .int b tb]) Q E s := by
  k_with_none
  (k_with "m ktr_enter" => first | (refine' code_defY ?k2 ?k3 ?k4 ?k5 ?kA ?kF ?kK ?k6 ?k7 ?k8 ?k9 ?kB ?_ ?c2 ?c3 ?c4 ?c5; (case kA => exact rfl); (case kF => exact rfl); (case kK => first | exact rfl | assumption); (case k2 => k_asm); (case k3 => k_asm); (case k4 => k_asm); (case k5 => k_asm); (case k6 => k_is); (case k7 => k_is); (case k8 => ktr_room); (case k9 => exact BindsTo.of_eq rfl); (case c5 => decide); (case kB => exact locs rfl); (case c2 => exact rfl); (case c3 => exact rfl); (case c4 => exact rfl); k_whole; intro g' L' h' FG' F' N' X' T'; (try dsimp only); (try k_fold)) | (refine' code_defCY ?k2 ?k3 ?k4 ?k5 ?kA ?kF ?kK ?k6 ?k7 ?k8 ?k9 ?kB ?kD ?_ ?c2 ?c3 ?c4; (case kA => exact rfl); (case kF => exact rfl); (case kK => first | exact rfl | assumption); (case k2 => k_asm); (case k3 => k_asm); (case k4 => k_asm); (case k5 => k_asm); (case k6 => k_is); (case k7 => k_is); (case k8 => ktr_room); (case k9 => exact BindsTo.of_eq rfl); (case kB => exact rfl); (case kD => decide +kernel); (case c2 => exact rfl); (case c3 => exact rfl); (case c4 => exact rfl); k_whole; intro g' L' h' tk' cells' FG' F' N' Y' X' T' l1; (try k_lt l1); k_cells Y'; (try simp only [List.cons_append, List.nil_append] at N'); (try dsimp only); (try k_fold)))
  (k_with "m k_all" => exact all_ne (by assumption) (by first | exact Nat.le_refl _ | exact Nat.le_add_right _ _ | exact Nat.le_trans (Nat.le_add_right _ _) (Nat.le_add_right _ _)))
  (k_with "m execs cons" => first | exact NeI.no (by assumption) (by assumption) | exact NoOver.no (by assumption) (by assumption) (by assumption) | exact Over.no1 (by assumption) (by assumption) | exact Over.no2 (by assumption) (by assumption))
  (k_with "m execs nil" => first | exact NeI.no (by assumption) (by assumption) | exact NoOver.no (by assumption) (by assumption) (by assumption) | exact Over.no1 (by assumption) (by assumption) | exact Over.no2 (by assumption) (by assumption))
  (k_with "m isTrue BoolOp" => first | exact Over.no1 (by assumption) (by assumption) | exact Over.no2 (by assumption) (by assumption))
  (k_with "m binaryOp Mult ref int" => (k_here; (with_reducible show wpAny _ _ (binaryOp Operator.Mult (Value.ref _) (Value.int _ _)) _ _ _); (k_dflt (refine' KMa.mul ?F ?N ?l ?lo ?hi ?z ?e ?_; (case F => k_asm); (case N => k_asm); (case l => is_list); (case lo => decide); (case hi => decide); (case z => (simp only [List.length_cons, List.length_nil]; decide)); (case e => (simp only [Int.reduceToNat, List.replicate_succ, List.replicate_zero, List.flatten_cons, List.flatten_nil, List.cons_append, List.nil_append, List.append_nil]; first | done | exact rfl)))); intro D' h' F' N' l1; (try k_lt l1); (try k_sweep)))
  (k_with "m k_all" => assumption)
  (k_with "m CompSrc" => (k_here; k_dflt (refine LCg.CompSrc.range (by rfl) (by k_asm) (by k_asm) (by assumption) (by first | decide | rfl) (by first | rfl | decide) (by first | size_fits | exact Nat.le_of_ble_eq_true rfl) ?_; intro g'; lcg_lit)))
  (k_with "m CompRest" => (with_unfolding_all first | (refine LCg.CompRest.succ ?_; intro v' I' oI' C' oC' D' m' h' tk' E' hv' hC' hx' F' N' off' ne'; (obtain ⟨t9', hv9'⟩ := hv'); subst hv'; (have off2' := off'); (try simp only [LCg.Off3, and_true] at off')) | refine LCg.CompRest.zero ?_))
  (k_with "m call ref" => (k_here; (with_reducible show wpAny _ _ (call (Value.ref 187) _) _ _ _); ((k_dflt ((first | refine' divTurn (k := 0) (by decide) (divided0_c _ _ _) ?k1 ?k2 ?k3 ?k4 ?k5 ?k6 ?k7 ?k8 ?k9 ?k10 ?k11 ?k12 ?k13 ?_ | refine' divTurn (k := 1) (by decide) (divided1_c _ _ _) ?k1 ?k2 ?k3 ?k4 ?k5 ?k6 ?k7 ?k8 ?k9 ?k10 ?k11 ?k12 ?k13 ?_ | refine' divTurn (k := 2) (by decide) (divided2_c _ _ _) ?k1 ?k2 ?k3 ?k4 ?k5 ?k6 ?k7 ?k8 ?k9 ?k10 ?k11 ?k12 ?k13 ?_ | refine' divTurn (k := 3) (by decide) (divided3_c _ _ _) ?k1 ?k2 ?k3 ?k4 ?k5 ?k6 ?k7 ?k8 ?k9 ?k10 ?k11 ?k12 ?k13 ?_); (case k1 => k_asm); (case k2 => k_asm); (case k3 => k_asm); (case k5 => assumption); (case k6 => assumption); (case k7 => assumption); (case k4 => k_updF); (case k8 => k_asm); (case k9 => first | exact rfl | assumption); (case k10 => (refine ⟨?_, ?_, ?_, ?_, ?_, ?_⟩ <;> assumption)); (case k11 => ktr_room); (case k12 => ktr_units); (case k13 => (intros; rfl)))); intro D9 tag9 t9 v9 sl9 hT9 l9; (first | (refine And.elim ?_ (told_zero (by assumption) hT9); rintro e81 ⟨t8, e82⟩) | (refine And.elim ?_ (told_over0 (by assumption) (by assumption) (by assumption) hT9); rintro e81 ⟨t8, e82⟩) | (refine And.elim ?_ (told_over1 (by assumption) (by assumption) (by assumption) hT9); rintro e81 ⟨t8, e82⟩) | (refine And.elim ?_ (told_q (by assumption) (by assumption) (by assumption) (by assumption) (by assumption) (by assumption) (by assumption) hT9); rintro e81 ⟨q8, t8, e82, ⟨q81, q82⟩, q83⟩) | (refine And.elim ?_ (told_r (by assumption) (by assumption) (by assumption) (by assumption) hT9); rintro e81 ⟨q8, t8, e82, ⟨q81, q82⟩, q83⟩) | (refine And.elim ?_ (told_d (by assumption) hT9); rintro e81 ⟨q8, t8, e82, q83⟩) | (refine And.elim ?_ (told_m (by assumption) hT9); rintro e81 ⟨q8, t8, e82, q83⟩)); subst e81; subst e82; (try dsimp only at l9); (try k_lt l9); (try dsimp only))))
  (k_with "m LeaveY" => (k_here; k_dflt (refine' LeaveY.backN ?k1 ?k2 ?k3 ?k4 ?k5 ?k6 ?_; (case k1 => assumption); (case k2 => k_asm); (case k3 => k_asm); (case k4 => assumption); (case k5 => k_mem); (case k6 => kcj_all)); intro F' N'; (try dsimp only); (try k_fold)))
  (k_with "m call ref" => (k_here; (with_reducible show wpAny _ _ (call (Value.ref 194) _) _ _ _); ((k_dflt (refine' plain_u ?k1 ?k2 ?k3 ?k4 ?k5 ?k6 ?k7 ?a1 ?a2 ?a3 ?a4 ?a5 ?a6 ?kd ?ku ?_)); (case k1 => k_asm); (case k2 => k_asm); (case k3 => k_asm); (case k4 => k_dflt k_mem); (case k5 => k_dflt k_mem); (case k6 => k_asm); (case k7 => first | exact rfl | assumption); (case a5 => assumption); (case a6 => assumption); (case a3 => assumption); (case a1 => assumption); (case a2 => assumption); (case a4 => assumption); (case kd => ktr_room); (case ku => ktr_units)); intro h9 tk9 F9 N9; (try dsimp only); (try k_fold)))
  (k_with "m call ref" => (k_here; (with_reducible show wpAny _ _ (call (Value.ref 201) _) _ _ _); (k_dflt (refine' signedo_u ?k1 ?k2 ?k3 ?k4 ?k5 ?k6 ?k7 ?a1 ?a2 ?a3 ?a4 ?a5 ?a6 ?a7 ?kd ?ku ?_)); (case k1 => k_asm); (case k2 => k_asm); (case k3 => k_asm); (case k4 => k_dflt k_mem); (case k5 => k_dflt k_mem); (case k6 => k_asm); (case k7 => first | exact rfl | assumption); (case a7 => assumption); (case a1 => assumption); (case a2 => assumption); (case a3 => assumption); (case a4 => assumption); (case a5 => assumption); (case a6 => assumption); (case kd => ktr_room); (case ku => ktr_units); intro h9 tk9 F9 N9; (try dsimp only); (try k_fold)))
  (k_with "m call ref" => (k_here; (with_reducible show wpAny _ _ (call (Value.ref 201) _) _ _ _); (k_dflt (refine' signedv_u ?k1 ?k2 ?k3 ?k4 ?k5 ?k6 ?k7 ?a1 ?a2 ?a3 ?a4 ?a5 ?a6 ?a7 ?a8 ?a9 ?a10 ?a11 ?a12 ?a13 ?a14 ?kd ?ku ?_)); (case k1 => k_asm); (case k2 => k_asm); (case k3 => k_asm); (case k4 => k_dflt k_mem); (case k5 => k_dflt k_mem); (case k6 => k_asm); (case k7 => first | exact rfl | assumption); (case a7 => assumption); (case a8 => assumption); (case a1 => assumption); (case a2 => assumption); (case a3 => assumption); (case a4 => assumption); (case a5 => assumption); (case a6 => assumption); (case a9 => assumption); (case a10 => assumption); (case a11 => assumption); (case a12 => assumption); (case a13 => assumption); (case a14 => assumption); (case kd => ktr_room); (case ku => ktr_units); intro h9 tk9 F9 N9; (try dsimp only); (try k_fold)))
  (k_with "m eval Call" => (k_here; (with_reducible show wpAny _ _ (eval (Expr.Call (Expr.Name _ _) _ _ _) (envOfC _ _ _ _ _)) _ _ _); (k_dflt (refine Call_ ?_))))
  k_fill; intro w hh mg mb news dp un gd cn cs ca ccd cl h₀ L m s Q E hF hK hN hT hcs hask hdp hun hret
  obtain ⟨hask1, hask2, hask3, hask4, hask5, hask6⟩ := hask
  skip
  refine wpAny_call ?_
  have hneW : ∀ p ∈ news, p.1 ≠ L := fun p hp => (hN p hp).2.1
  k_dflt (refine' enterCX ?k2 ?k3 ?k4 ?k5 ?kA ?kF ?k6 ?k7 ?k8 ?k9 ?kB ?kD ?_ ?c2 ?c3 ?c4; (case kA => exact rfl); (case kF => exact rfl); (case k2 => k_asm); (case k3 => k_asm); (case k4 => k_asm); (case k5 => k_asm); (case k6 => k_is); (case k7 => k_is); (case k8 => ktr_room); (case k9 => exact BindsTo.of_eq rfl); (case kB => exact rfl); (case kD => decide +kernel); (case c2 => exact rfl); (case c3 => exact rfl); (case c4 => exact rfl); k_whole)
  intro g' L' h' tk' cells' oL' st' hl' F' N' Y' X' T' l1
  have hO' := frIn_one (cn := cn) (ca := ca) (ccd := ccd) (cl := cl) (L := L) hcs hl'
  (try k_lt l1); k_cells Y'; (try simp only [List.cons_append, List.nil_append] at N'); (try dsimp only); (try k_fold)
  k_steps
  all_goals ktr_rel
  all_goals first | rfl | exact absurd hc1 (by assumption)
set_option maxRecDepth 100000 in
set_option maxHeartbeats 8000000 in
theorem divisions_o (x y b : Int) (tx ty tb : Tok) (hc1 : NeI y) (hc2 : Over x y b) : ∀ (w : World) (hh : Heap) (mg mb : Str → Option Value) (news : List (Addr × Obj))
   (dp un : Nat) (gd : Option (List Code)) (cn : Str) (cs : Scope) (ca : Addr) (ccd : Value) (cl : List (Str × Addr)) (h₀ : Heap) (L : Addr) (m : Str → Option Value) (s : Shared) (Q E : Value → Shared → Prop),
    Fr h₀ L s.heap m → (hd.heap_39 w.params).In h₀ → News h₀ L s.heap news → Top hd.view_39 (looseW hd.view_39 []) (ExcName.means hh) mg mb h₀ → cs.kind = .function →
    (1 ≤ b ∧ b ≤ 64 ∧ 0 ≤ x ∧ x < 2 ^ b.toNat ∧ 0 ≤ y ∧ y < 2 ^ b.toNat) → dp + 20 < recursionLimit → un + 8 * 20 < cLine → RetB true h₀ L m news s Q →
      wpAny (model PySem.Challenge.rw_nm0111_01.row.prog w) (ktrTop dp un gd cn cs L ca ccd cl []) (call (.ref 206) [.int x tx, .int y ty, .int b tb]) Q E s := by
  k_with_none
  (k_with "m ktr_enter" => first | (refine' code_defY ?k2 ?k3 ?k4 ?k5 ?kA ?kF ?kK ?k6 ?k7 ?k8 ?k9 ?kB ?_ ?c2 ?c3 ?c4 ?c5; (case kA => exact rfl); (case kF => exact rfl); (case kK => first | exact rfl | assumption); (case k2 => k_asm); (case k3 => k_asm); (case k4 => k_asm); (case k5 => k_asm); (case k6 => k_is); (case k7 => k_is); (case k8 => ktr_room); (case k9 => exact BindsTo.of_eq rfl); (case c5 => decide); (case kB => exact locs rfl); (case c2 => exact rfl); (case c3 => exact rfl); (case c4 => exact rfl); k_whole; intro g' L' h' FG' F' N' X' T'; (try dsimp only); (try k_fold)) | (refine' code_defCY ?k2 ?k3 ?k4 ?k5 ?kA ?kF ?kK ?k6 ?k7 ?k8 ?k9 ?kB ?kD ?_ ?c2 ?c3 ?c4; (case kA => exact rfl); (case kF => exact rfl); (case kK => first | exact rfl | assumption); (case k2 => k_asm); (case k3 => k_asm); (case k4 => k_asm); (case k5 => k_asm); (case k6 => k_is); (case k7 => k_is); (case k8 => ktr_room); (case k9 => exact BindsTo.of_eq rfl); (case kB => exact rfl); (case kD => decide +kernel); (case c2 => exact rfl); (case c3 => exact rfl); (case c4 => exact rfl); k_whole; intro g' L' h' tk' cells' FG' F' N' Y' X' T' l1; (try k_lt l1); k_cells Y'; (try simp only [List.cons_append, List.nil_append] at N'); (try dsimp only); (try k_fold)))
  (k_with "m k_all" => exact all_ne (by assumption) (by first | exact Nat.le_refl _ | exact Nat.le_add_right _ _ | exact Nat.le_trans (Nat.le_add_right _ _) (Nat.le_add_right _ _)))
  (k_with "m execs cons" => first | exact NeI.no (by assumption) (by assumption) | exact NoOver.no (by assumption) (by assumption) (by assumption) | exact Over.no1 (by assumption) (by assumption) | exact Over.no2 (by assumption) (by assumption))
  (k_with "m execs nil" => first | exact NeI.no (by assumption) (by assumption) | exact NoOver.no (by assumption) (by assumption) (by assumption) | exact Over.no1 (by assumption) (by assumption) | exact Over.no2 (by assumption) (by assumption))
  (k_with "m isTrue BoolOp" => first | exact Over.no1 (by assumption) (by assumption) | exact Over.no2 (by assumption) (by assumption))
  (k_with "m binaryOp Mult ref int" => (k_here; (with_reducible show wpAny _ _ (binaryOp Operator.Mult (Value.ref _) (Value.int _ _)) _ _ _); (k_dflt (refine' KMa.mul ?F ?N ?l ?lo ?hi ?z ?e ?_; (case F => k_asm); (case N => k_asm); (case l => is_list); (case lo => decide); (case hi => decide); (case z => (simp only [List.length_cons, List.length_nil]; decide)); (case e => (simp only [Int.reduceToNat, List.replicate_succ, List.replicate_zero, List.flatten_cons, List.flatten_nil, List.cons_append, List.nil_append, List.append_nil]; first | done | exact rfl)))); intro D' h' F' N' l1; (try k_lt l1); (try k_sweep)))
  (k_with "m k_all" => assumption)
  (k_with "m CompSrc" => (k_here; k_dflt (refine LCg.CompSrc.range (by rfl) (by k_asm) (by k_asm) (by assumption) (by first | decide | rfl) (by first | rfl | decide) (by first | size_fits | exact Nat.le_of_ble_eq_true rfl) ?_; intro g'; lcg_lit)))
  (k_with "m CompRest" => (with_unfolding_all first | (refine LCg.CompRest.succ ?_; intro v' I' oI' C' oC' D' m' h' tk' E' hv' hC' hx' F' N' off' ne'; (obtain ⟨t9', hv9'⟩ := hv'); subst hv'; (have off2' := off'); (try simp only [LCg.Off3, and_true] at off')) | refine LCg.CompRest.zero ?_))
  (k_with "m call ref" => (k_here; (with_reducible show wpAny _ _ (call (Value.ref 187) _) _ _ _); ((k_dflt ((first | refine' divTurn (k := 0) (by decide) (divided0_c _ _ _) ?k1 ?k2 ?k3 ?k4 ?k5 ?k6 ?k7 ?k8 ?k9 ?k10 ?k11 ?k12 ?k13 ?_ | refine' divTurn (k := 1) (by decide) (divided1_c _ _ _) ?k1 ?k2 ?k3 ?k4 ?k5 ?k6 ?k7 ?k8 ?k9 ?k10 ?k11 ?k12 ?k13 ?_ | refine' divTurn (k := 2) (by decide) (divided2_c _ _ _) ?k1 ?k2 ?k3 ?k4 ?k5 ?k6 ?k7 ?k8 ?k9 ?k10 ?k11 ?k12 ?k13 ?_ | refine' divTurn (k := 3) (by decide) (divided3_c _ _ _) ?k1 ?k2 ?k3 ?k4 ?k5 ?k6 ?k7 ?k8 ?k9 ?k10 ?k11 ?k12 ?k13 ?_); (case k1 => k_asm); (case k2 => k_asm); (case k3 => k_asm); (case k5 => assumption); (case k6 => assumption); (case k7 => assumption); (case k4 => k_updF); (case k8 => k_asm); (case k9 => first | exact rfl | assumption); (case k10 => (refine ⟨?_, ?_, ?_, ?_, ?_, ?_⟩ <;> assumption)); (case k11 => ktr_room); (case k12 => ktr_units); (case k13 => (intros; rfl)))); intro D9 tag9 t9 v9 sl9 hT9 l9; (first | (refine And.elim ?_ (told_zero (by assumption) hT9); rintro e81 ⟨t8, e82⟩) | (refine And.elim ?_ (told_over0 (by assumption) (by assumption) (by assumption) hT9); rintro e81 ⟨t8, e82⟩) | (refine And.elim ?_ (told_over1 (by assumption) (by assumption) (by assumption) hT9); rintro e81 ⟨t8, e82⟩) | (refine And.elim ?_ (told_q (by assumption) (by assumption) (by assumption) (by assumption) (by assumption) (by assumption) (by assumption) hT9); rintro e81 ⟨q8, t8, e82, ⟨q81, q82⟩, q83⟩) | (refine And.elim ?_ (told_r (by assumption) (by assumption) (by assumption) (by assumption) hT9); rintro e81 ⟨q8, t8, e82, ⟨q81, q82⟩, q83⟩) | (refine And.elim ?_ (told_d (by assumption) hT9); rintro e81 ⟨q8, t8, e82, q83⟩) | (refine And.elim ?_ (told_m (by assumption) hT9); rintro e81 ⟨q8, t8, e82, q83⟩)); subst e81; subst e82; (try dsimp only at l9); (try k_lt l9); (try dsimp only))))
  (k_with "m LeaveY" => (k_here; k_dflt (refine' LeaveY.backN ?k1 ?k2 ?k3 ?k4 ?k5 ?k6 ?_; (case k1 => assumption); (case k2 => k_asm); (case k3 => k_asm); (case k4 => assumption); (case k5 => k_mem); (case k6 => kcj_all)); intro F' N'; (try dsimp only); (try k_fold)))
  (k_with "m call ref" => (k_here; (with_reducible show wpAny _ _ (call (Value.ref 194) _) _ _ _); ((k_dflt (refine' plain_u ?k1 ?k2 ?k3 ?k4 ?k5 ?k6 ?k7 ?a1 ?a2 ?a3 ?a4 ?a5 ?a6 ?kd ?ku ?_)); (case k1 => k_asm); (case k2 => k_asm); (case k3 => k_asm); (case k4 => k_dflt k_mem); (case k5 => k_dflt k_mem); (case k6 => k_asm); (case k7 => first | exact rfl | assumption); (case a5 => assumption); (case a6 => assumption); (case a3 => assumption); (case a1 => assumption); (case a2 => assumption); (case a4 => assumption); (case kd => ktr_room); (case ku => ktr_units)); intro h9 tk9 F9 N9; (try dsimp only); (try k_fold)))
  (k_with "m call ref" => (k_here; (with_reducible show wpAny _ _ (call (Value.ref 201) _) _ _ _); (k_dflt (refine' signedo_u ?k1 ?k2 ?k3 ?k4 ?k5 ?k6 ?k7 ?a1 ?a2 ?a3 ?a4 ?a5 ?a6 ?a7 ?kd ?ku ?_)); (case k1 => k_asm); (case k2 => k_asm); (case k3 => k_asm); (case k4 => k_dflt k_mem); (case k5 => k_dflt k_mem); (case k6 => k_asm); (case k7 => first | exact rfl | assumption); (case a7 => assumption); (case a1 => assumption); (case a2 => assumption); (case a3 => assumption); (case a4 => assumption); (case a5 => assumption); (case a6 => assumption); (case kd => ktr_room); (case ku => ktr_units); intro h9 tk9 F9 N9; (try dsimp only); (try k_fold)))
  (k_with "m call ref" => (k_here; (with_reducible show wpAny _ _ (call (Value.ref 201) _) _ _ _); (k_dflt (refine' signedv_u ?k1 ?k2 ?k3 ?k4 ?k5 ?k6 ?k7 ?a1 ?a2 ?a3 ?a4 ?a5 ?a6 ?a7 ?a8 ?a9 ?a10 ?a11 ?a12 ?a13 ?a14 ?kd ?ku ?_)); (case k1 => k_asm); (case k2 => k_asm); (case k3 => k_asm); (case k4 => k_dflt k_mem); (case k5 => k_dflt k_mem); (case k6 => k_asm); (case k7 => first | exact rfl | assumption); (case a7 => assumption); (case a8 => assumption); (case a1 => assumption); (case a2 => assumption); (case a3 => assumption); (case a4 => assumption); (case a5 => assumption); (case a6 => assumption); (case a9 => assumption); (case a10 => assumption); (case a11 => assumption); (case a12 => assumption); (case a13 => assumption); (case a14 => assumption); (case kd => ktr_room); (case ku => ktr_units); intro h9 tk9 F9 N9; (try dsimp only); (try k_fold)))
  (k_with "m eval Call" => (k_here; (with_reducible show wpAny _ _ (eval (Expr.Call (Expr.Name _ _) _ _ _) (envOfC _ _ _ _ _)) _ _ _); (k_dflt (refine Call_ ?_))))
  k_fill; intro w hh mg mb news dp un gd cn cs ca ccd cl h₀ L m s Q E hF hK hN hT hcs hask hdp hun hret
  obtain ⟨hask1, hask2, hask3, hask4, hask5, hask6⟩ := hask
  have hc3 : y ≠ 0 := hc1; have hc4 := hc2.1; have hc5 := hc2.2
  refine wpAny_call ?_
  have hneW : ∀ p ∈ news, p.1 ≠ L := fun p hp => (hN p hp).2.1
  k_dflt (refine' enterCX ?k2 ?k3 ?k4 ?k5 ?kA ?kF ?k6 ?k7 ?k8 ?k9 ?kB ?kD ?_ ?c2 ?c3 ?c4; (case kA => exact rfl); (case kF => exact rfl); (case k2 => k_asm); (case k3 => k_asm); (case k4 => k_asm); (case k5 => k_asm); (case k6 => k_is); (case k7 => k_is); (case k8 => ktr_room); (case k9 => exact BindsTo.of_eq rfl); (case kB => exact rfl); (case kD => decide +kernel); (case c2 => exact rfl); (case c3 => exact rfl); (case c4 => exact rfl); k_whole)
  intro g' L' h' tk' cells' oL' st' hl' F' N' Y' X' T' l1
  have hO' := frIn_one (cn := cn) (ca := ca) (ccd := ccd) (cl := cl) (L := L) hcs hl'
  (try k_lt l1); k_cells Y'; (try simp only [List.cons_append, List.nil_append] at N'); (try dsimp only); (try k_fold)
  k_steps
  all_goals ktr_rel
  all_goals first | rfl | exact absurd hc1 (by assumption)
set_option maxRecDepth 100000 in
set_option maxHeartbeats 8000000 in
theorem divisions_v (x y b : Int) (tx ty tb : Tok) (hc1 : NeI y) (hc2 : NoOver x y b) : ∀ (w : World) (hh : Heap) (mg mb : Str → Option Value) (news : List (Addr × Obj))
   (dp un : Nat) (gd : Option (List Code)) (cn : Str) (cs : Scope) (ca : Addr) (ccd : Value) (cl : List (Str × Addr)) (h₀ : Heap) (L : Addr) (m : Str → Option Value) (s : Shared) (Q E : Value → Shared → Prop),
    Fr h₀ L s.heap m → (hd.heap_39 w.params).In h₀ → News h₀ L s.heap news → Top hd.view_39 (looseW hd.view_39 []) (ExcName.means hh) mg mb h₀ → cs.kind = .function →
    (1 ≤ b ∧ b ≤ 64 ∧ 0 ≤ x ∧ x < 2 ^ b.toNat ∧ 0 ≤ y ∧ y < 2 ^ b.toNat) → dp + 20 < recursionLimit → un + 8 * 20 < cLine → RetB true h₀ L m news s Q →
      wpAny (model PySem.Challenge.rw_nm0111_01.row.prog w) (ktrTop dp un gd cn cs L ca ccd cl []) (call (.ref 206) [.int x tx, .int y ty, .int b tb]) Q E s := by
  k_with_none
  (k_with "m ktr_enter" => first | (refine' code_defY ?k2 ?k3 ?k4 ?k5 ?kA ?kF ?kK ?k6 ?k7 ?k8 ?k9 ?kB ?_ ?c2 ?c3 ?c4 ?c5; (case kA => exact rfl); (case kF => exact rfl); (case kK => first | exact rfl | assumption); (case k2 => k_asm); (case k3 => k_asm); (case k4 => k_asm); (case k5 => k_asm); (case k6 => k_is); (case k7 => k_is); (case k8 => ktr_room); (case k9 => exact BindsTo.of_eq rfl); (case c5 => decide); (case kB => exact locs rfl); (case c2 => exact rfl); (case c3 => exact rfl); (case c4 => exact rfl); k_whole; intro g' L' h' FG' F' N' X' T'; (try dsimp only); (try k_fold)) | (refine' code_defCY ?k2 ?k3 ?k4 ?k5 ?kA ?kF ?kK ?k6 ?k7 ?k8 ?k9 ?kB ?kD ?_ ?c2 ?c3 ?c4; (case kA => exact rfl); (case kF => exact rfl); (case kK => first | exact rfl | assumption); (case k2 => k_asm); (case k3 => k_asm); (case k4 => k_asm); (case k5 => k_asm); (case k6 => k_is); (case k7 => k_is); (case k8 => ktr_room); (case k9 => exact BindsTo.of_eq rfl); (case kB => exact rfl); (case kD => decide +kernel); (case c2 => exact rfl); (case c3 => exact rfl); (case c4 => exact rfl); k_whole; intro g' L' h' tk' cells' FG' F' N' Y' X' T' l1; (try k_lt l1); k_cells Y'; (try simp only [List.cons_append, List.nil_append] at N'); (try dsimp only); (try k_fold)))
  (k_with "m k_all" => exact all_ne (by assumption) (by first | exact Nat.le_refl _ | exact Nat.le_add_right _ _ | exact Nat.le_trans (Nat.le_add_right _ _) (Nat.le_add_right _ _)))
  (k_with "m execs cons" => first | exact NeI.no (by assumption) (by assumption) | exact NoOver.no (by assumption) (by assumption) (by assumption) | exact Over.no1 (by assumption) (by assumption) | exact Over.no2 (by assumption) (by assumption))
  (k_with "m execs nil" => first | exact NeI.no (by assumption) (by assumption) | exact NoOver.no (by assumption) (by assumption) (by assumption) | exact Over.no1 (by assumption) (by assumption) | exact Over.no2 (by assumption) (by assumption))
  (k_with "m isTrue BoolOp" => first | exact Over.no1 (by assumption) (by assumption) | exact Over.no2 (by assumption) (by assumption))
  (k_with "m binaryOp Mult ref int" => (k_here; (with_reducible show wpAny _ _ (binaryOp Operator.Mult (Value.ref _) (Value.int _ _)) _ _ _); (k_dflt (refine' KMa.mul ?F ?N ?l ?lo ?hi ?z ?e ?_; (case F => k_asm); (case N => k_asm); (case l => is_list); (case lo => decide); (case hi => decide); (case z => (simp only [List.length_cons, List.length_nil]; decide)); (case e => (simp only [Int.reduceToNat, List.replicate_succ, List.replicate_zero, List.flatten_cons, List.flatten_nil, List.cons_append, List.nil_append, List.append_nil]; first | done | exact rfl)))); intro D' h' F' N' l1; (try k_lt l1); (try k_sweep)))
  (k_with "m k_all" => assumption)
  (k_with "m CompSrc" => (k_here; k_dflt (refine LCg.CompSrc.range (by rfl) (by k_asm) (by k_asm) (by assumption) (by first | decide | rfl) (by first | rfl | decide) (by first | size_fits | exact Nat.le_of_ble_eq_true rfl) ?_; intro g'; lcg_lit)))
  (k_with "m CompRest" => (with_unfolding_all first | (refine LCg.CompRest.succ ?_; intro v' I' oI' C' oC' D' m' h' tk' E' hv' hC' hx' F' N' off' ne'; (obtain ⟨t9', hv9'⟩ := hv'); subst hv'; (have off2' := off'); (try simp only [LCg.Off3, and_true] at off')) | refine LCg.CompRest.zero ?_))
  (k_with "m call ref" => (k_here; (with_reducible show wpAny _ _ (call (Value.ref 187) _) _ _ _); ((k_dflt ((first | refine' divTurn (k := 0) (by decide) (divided0_c _ _ _) ?k1 ?k2 ?k3 ?k4 ?k5 ?k6 ?k7 ?k8 ?k9 ?k10 ?k11 ?k12 ?k13 ?_ | refine' divTurn (k := 1) (by decide) (divided1_c _ _ _) ?k1 ?k2 ?k3 ?k4 ?k5 ?k6 ?k7 ?k8 ?k9 ?k10 ?k11 ?k12 ?k13 ?_ | refine' divTurn (k := 2) (by decide) (divided2_c _ _ _) ?k1 ?k2 ?k3 ?k4 ?k5 ?k6 ?k7 ?k8 ?k9 ?k10 ?k11 ?k12 ?k13 ?_ | refine' divTurn (k := 3) (by decide) (divided3_c _ _ _) ?k1 ?k2 ?k3 ?k4 ?k5 ?k6 ?k7 ?k8 ?k9 ?k10 ?k11 ?k12 ?k13 ?_); (case k1 => k_asm); (case k2 => k_asm); (case k3 => k_asm); (case k5 => assumption); (case k6 => assumption); (case k7 => assumption); (case k4 => k_updF); (case k8 => k_asm); (case k9 => first | exact rfl | assumption); (case k10 => (refine ⟨?_, ?_, ?_, ?_, ?_, ?_⟩ <;> assumption)); (case k11 => ktr_room); (case k12 => ktr_units); (case k13 => (intros; rfl)))); intro D9 tag9 t9 v9 sl9 hT9 l9; (first | (refine And.elim ?_ (told_zero (by assumption) hT9); rintro e81 ⟨t8, e82⟩) | (refine And.elim ?_ (told_over0 (by assumption) (by assumption) (by assumption) hT9); rintro e81 ⟨t8, e82⟩) | (refine And.elim ?_ (told_over1 (by assumption) (by assumption) (by assumption) hT9); rintro e81 ⟨t8, e82⟩) | (refine And.elim ?_ (told_q (by assumption) (by assumption) (by assumption) (by assumption) (by assumption) (by assumption) (by assumption) hT9); rintro e81 ⟨q8, t8, e82, ⟨q81, q82⟩, q83⟩) | (refine And.elim ?_ (told_r (by assumption) (by assumption) (by assumption) (by assumption) hT9); rintro e81 ⟨q8, t8, e82, ⟨q81, q82⟩, q83⟩) | (refine And.elim ?_ (told_d (by assumption) hT9); rintro e81 ⟨q8, t8, e82, q83⟩) | (refine And.elim ?_ (told_m (by assumption) hT9); rintro e81 ⟨q8, t8, e82, q83⟩)); subst e81; subst e82; (try dsimp only at l9); (try k_lt l9); (try dsimp only))))
  (k_with "m LeaveY" => (k_here; k_dflt (refine' LeaveY.backN ?k1 ?k2 ?k3 ?k4 ?k5 ?k6 ?_; (case k1 => assumption); (case k2 => k_asm); (case k3 => k_asm); (case k4 => assumption); (case k5 => k_mem); (case k6 => kcj_all)); intro F' N'; (try dsimp only); (try k_fold)))
  (k_with "m call ref" => (k_here; (with_reducible show wpAny _ _ (call (Value.ref 194) _) _ _ _); ((k_dflt (refine' plain_u ?k1 ?k2 ?k3 ?k4 ?k5 ?k6 ?k7 ?a1 ?a2 ?a3 ?a4 ?a5 ?a6 ?kd ?ku ?_)); (case k1 => k_asm); (case k2 => k_asm); (case k3 => k_asm); (case k4 => k_dflt k_mem); (case k5 => k_dflt k_mem); (case k6 => k_asm); (case k7 => first | exact rfl | assumption); (case a5 => assumption); (case a6 => assumption); (case a3 => assumption); (case a1 => assumption); (case a2 => assumption); (case a4 => assumption); (case kd => ktr_room); (case ku => ktr_units)); intro h9 tk9 F9 N9; (try dsimp only); (try k_fold)))
  (k_with "m call ref" => (k_here; (with_reducible show wpAny _ _ (call (Value.ref 201) _) _ _ _); (k_dflt (refine' signedo_u ?k1 ?k2 ?k3 ?k4 ?k5 ?k6 ?k7 ?a1 ?a2 ?a3 ?a4 ?a5 ?a6 ?a7 ?kd ?ku ?_)); (case k1 => k_asm); (case k2 => k_asm); (case k3 => k_asm); (case k4 => k_dflt k_mem); (case k5 => k_dflt k_mem); (case k6 => k_asm); (case k7 => first | exact rfl | assumption); (case a7 => assumption); (case a1 => assumption); (case a2 => assumption); (case a3 => assumption); (case a4 => assumption); (case a5 => assumption); (case a6 => assumption); (case kd => ktr_room); (case ku => ktr_units); intro h9 tk9 F9 N9; (try dsimp only); (try k_fold)))
  (k_with "m call ref" => (k_here; (with_reducible show wpAny _ _ (call (Value.ref 201) _) _ _ _); (k_dflt (refine' signedv_u ?k1 ?k2 ?k3 ?k4 ?k5 ?k6 ?k7 ?a1 ?a2 ?a3 ?a4 ?a5 ?a6 ?a7 ?a8 ?a9 ?a10 ?a11 ?a12 ?a13 ?a14 ?kd ?ku ?_)); (case k1 => k_asm); (case k2 => k_asm); (case k3 => k_asm); (case k4 => k_dflt k_mem); (case k5 => k_dflt k_mem); (case k6 => k_asm); (case k7 => first | exact rfl | assumption); (case a7 => assumption); (case a8 => assumption); (case a1 => assumption); (case a2 => assumption); (case a3 => assumption); (case a4 => assumption); (case a5 => assumption); (case a6 => assumption); (case a9 => assumption); (case a10 => assumption); (case a11 => assumption); (case a12 => assumption); (case a13 => assumption); (case a14 => assumption); (case kd => ktr_room); (case ku => ktr_units); intro h9 tk9 F9 N9; (try dsimp only); (try k_fold)))
  (k_with "m eval Call" => (k_here; (with_reducible show wpAny _ _ (eval (Expr.Call (Expr.Name _ _) _ _ _) (envOfC _ _ _ _ _)) _ _ _); (k_dflt (refine Call_ ?_))))
  k_fill; intro w hh mg mb news dp un gd cn cs ca ccd cl h₀ L m s Q E hF hK hN hT hcs hask hdp hun hret
  obtain ⟨hask1, hask2, hask3, hask4, hask5, hask6⟩ := hask
  have hc3 : y ≠ 0 := hc1; have hc4 : ¬ (sgn x b = -2 ^ (b - 1).toNat ∧ sgn y b = -1) := hc2
  refine wpAny_call ?_
  have hneW : ∀ p ∈ news, p.1 ≠ L := fun p hp => (hN p hp).2.1
  k_dflt (refine' enterCX ?k2 ?k3 ?k4 ?k5 ?kA ?kF ?k6 ?k7 ?k8 ?k9 ?kB ?kD ?_ ?c2 ?c3 ?c4; (case kA => exact rfl); (case kF => exact rfl); (case k2 => k_asm); (case k3 => k_asm); (case k4 => k_asm); (case k5 => k_asm); (case k6 => k_is); (case k7 => k_is); (case k8 => ktr_room); (case k9 => exact BindsTo.of_eq rfl); (case kB => exact rfl); (case kD => decide +kernel); (case c2 => exact rfl); (case c3 => exact rfl); (case c4 => exact rfl); k_whole)
  intro g' L' h' tk' cells' oL' st' hl' F' N' Y' X' T' l1
  have hO' := frIn_one (cn := cn) (ca := ca) (ccd := ccd) (cl := cl) (L := L) hcs hl'
  (try k_lt l1); k_cells Y'; (try simp only [List.cons_append, List.nil_append] at N'); (try dsimp only); (try k_fold)
  k_steps
  all_goals ktr_rel
  all_goals first | rfl | exact absurd hc1 (by assumption)
end
/-! part E3 -/
section
theorem divisions_u {x y b : Int} {tx ty tb : Tok} {w : World} {hh : Heap} {mg mb : Str → Option Value} {news : List (Addr × Obj)}
   {dp un : Nat} {gd : Option (List Code)} {cn : Str} {cs : Scope} {ca : Addr} {ccd : Value} {cl : List (Str × Addr)} {h₀ : Heap} {L : Addr} {m : Str → Option Value} {s : Shared} {Q E : Value → Shared → Prop}
   (hF : Fr h₀ L s.heap m) (hK : (hd.heap_39 w.params).In h₀) (hN : News h₀ L s.heap news) (hT : Top hd.view_39 (looseW hd.view_39 []) (ExcName.means hh) mg mb h₀) (hcs : cs.kind = .function)
   (ha : 1 ≤ b ∧ b ≤ 64 ∧ 0 ≤ x ∧ x < 2 ^ b.toNat ∧ 0 ≤ y ∧ y < 2 ^ b.toNat) (hdp : dp + 20 < recursionLimit) (hun : un + 8 * 20 < cLine) (hret : RetB true h₀ L m news s Q) :
   wpAny (model PySem.Challenge.rw_nm0111_01.row.prog w) (ktrTop dp un gd cn cs L ca ccd cl []) (call (.ref 206) [.int x tx, .int y ty, .int b tb]) Q E s := by
  by_cases hy : y = 0
  · exact divisions_z x y b tx ty tb hy w hh mg mb news dp un gd cn cs ca ccd cl h₀ L m s Q E hF hK hN hT hcs ha hdp hun hret
  · by_cases ho : sgn x b = -2 ^ (b - 1).toNat ∧ sgn y b = -1
    · exact divisions_o x y b tx ty tb hy ho w hh mg mb news dp un gd cn cs ca ccd cl h₀ L m s Q E hF hK hN hT hcs ha hdp hun hret
    · exact divisions_v x y b tx ty tb hy ho w hh mg mb news dp un gd cn cs ca ccd cl h₀ L m s Q E hF hK hN hT hcs ha hdp hun hret
end
/-! part F0 -/
section
set_option maxRecDepth 100000 in
set_option maxHeartbeats 16000000 in
theorem law_t : PySem.Challenge.rw_nm0111_01.Holds := by
  k_with_none
  (k_with "m ktr_enter" => first | (refine' code_defY ?k2 ?k3 ?k4 ?k5 ?kA ?kF ?kK ?k6 ?k7 ?k8 ?k9 ?kB ?_ ?c2 ?c3 ?c4 ?c5; (case kA => exact rfl); (case kF => exact rfl); (case kK => first | exact rfl | assumption); (case k2 => k_asm); (case k3 => k_asm); (case k4 => k_asm); (case k5 => k_asm); (case k6 => k_is); (case k7 => k_is); (case k8 => ktr_room); (case k9 => exact BindsTo.of_eq rfl); (case c5 => decide); (case kB => exact locs rfl); (case c2 => exact rfl); (case c3 => exact rfl); (case c4 => exact rfl); k_whole; intro g' L' h' FG' F' N' X' T'; (try dsimp only); (try k_fold)) | (refine' code_defCY ?k2 ?k3 ?k4 ?k5 ?kA ?kF ?kK ?k6 ?k7 ?k8 ?k9 ?kB ?kD ?_ ?c2 ?c3 ?c4; (case kA => exact rfl); (case kF => exact rfl); (case kK => first | exact rfl | assumption); (case k2 => k_asm); (case k3 => k_asm); (case k4 => k_asm); (case k5 => k_asm); (case k6 => k_is); (case k7 => k_is); (case k8 => ktr_room); (case k9 => exact BindsTo.of_eq rfl); (case kB => exact rfl); (case kD => decide +kernel); (case c2 => exact rfl); (case c3 => exact rfl); (case c4 => exact rfl); k_whole; intro g' L' h' tk' cells' FG' F' N' Y' X' T' l1; (try k_lt l1); k_cells Y'; (try simp only [List.cons_append, List.nil_append] at N'); (try dsimp only); (try k_fold)))
  (k_with "m k_all" => exact all_ne (by assumption) (by first | exact Nat.le_refl _ | exact Nat.le_add_right _ _ | exact Nat.le_trans (Nat.le_add_right _ _) (Nat.le_add_right _ _)))
  (k_with "m exec For Name Call cons nil" => (k_here; (rename Fr _ _ _ _ => lF'); (with_unfolding_all refine' For_invVF lF' ?k1 ?k2 ?_; (case k1 => exact rfl); (case k2 => exact rfl); k_whole)))
  (k_with "m pyIter ref" => (((with_reducible show wpAny _ _ (pyIter (Value.ref _)) (fun it s₂ => LoopAtV _ _ _ _ _ _ _ _ _ it s₂) _ _); k_here; (rename Fr _ _ _ _ => lF'); (rename News _ _ _ _ => lN'); (rename IsRange _ _ _ _ _ _ _ _ => rgX); (with_unfolding_all refine' kst_range (σ := Unit) (fun _ => []) (fun _ => []) (fun _ => True) [Str.ofString "bits", Str.ofString "z", Str.ofString "x", Str.ofString "y"] (fun _ _ => True) () (by rfl) rgX (by decide) (by rfl) lF' lN' ?kf ?kk ?kp ?_ ?_); (case kf => exact True.intro); (case kk => exact List.forall_mem_nil _); (case kp => exact True.intro); (all_goals (try clear lF' lN')); (focus (intro c' pre' k' t' u' h' tk' own' kEq' kLt' kOff' kFacts' kInv' kFr' kNews'; (try dsimp only [kstB] at kFr'); (try simp only [List.nil_append] at kNews'); (try k_fold))); (rotate_left; intro c' u' h' tk' kFacts' kInv' kFr' kNews'; (try dsimp only [kstB] at kFr'); (try dsimp only at kNews'); (try k_fold)); rotate_left)))
  (k_with "m eval Call" => k_dflt (refine Call_ ?_))
  (k_with "m call ref" => (k_here; (with_reducible show wpAny _ _ (call (Value.ref 158) _) _ _ _); ((k_dflt (refine' ClaimG.use (width_c _ _ _ _) ?k2 ?k3 ?k4 ?k5 ?kK ?kp ?kd ?ku ?_)); (case k2 => k_dflt k_asm); (case k3 => k_asm); (case k4 => k_dflt k_asm); (case k5 => k_asm); (case kK => first | exact rfl | assumption); (case kp => exact True.intro); (case kd => ktr_room); (case ku => ktr_units)); intro x9 t9 h9 tk9 P9 F9 N9; (try dsimp only); (try dsimp only at P9); (obtain ⟨P91, P92⟩ := P9); (try k_fold)))
  (k_with "m call ref" => (k_here; (with_reducible show wpAny _ _ (call (Value.ref 165) _) _ _ _); ((k_dflt (refine' ClaimG.use (operand_c _ _ _ _ _ _ _ _) ?k2 ?k3 ?k4 ?k5 ?kK ?kp ?kd ?ku ?_)); (case k2 => k_dflt k_asm); (case k3 => k_asm); (case k4 => k_dflt k_asm); (case k5 => k_asm); (case kK => first | exact rfl | assumption); (case kp => exact ⟨by assumption, by assumption⟩); (case kd => ktr_room); (case ku => ktr_units)); intro x9 t9 h9 tk9 P9 F9 N9; (try dsimp only); (try dsimp only at P9); (obtain ⟨P91, P92⟩ := P9); (try k_fold)))
  (k_with "m call ref" => (k_here; (with_reducible show wpAny _ _ (call (Value.ref 218) _) _ _ _); ((k_dflt (refine' ClaimG.use (ends_c _ _ _ _ _ _) ?k2 ?k3 ?k4 ?k5 ?kK ?kp ?kd ?ku ?_)); (case k2 => k_dflt k_asm); (case k3 => k_asm); (case k4 => k_dflt k_asm); (case k5 => k_asm); (case kK => first | exact rfl | assumption); (case kp => exact ⟨by assumption, by assumption, by assumption, by assumption⟩); (case kd => ktr_room); (case ku => ktr_units)); intro h9 tk9 F9 N9; (try dsimp only); (try k_fold)))
  (k_with "m call ref" => (k_here; (with_reducible show wpAny _ _ (call (Value.ref 211) _) _ _ _); ((k_dflt (refine' ClaimG.use (moves_c _ _ _ _ _ _) ?k2 ?k3 ?k4 ?k5 ?kK ?kp ?kd ?ku ?_)); (case k2 => k_dflt k_asm); (case k3 => k_asm); (case k4 => k_dflt k_asm); (case k5 => k_asm); (case kK => first | exact rfl | assumption); (case kp => exact ⟨by assumption, by assumption, by assumption, by assumption, by assumption, by assumption⟩); (case kd => ktr_room); (case ku => ktr_units)); intro h9 tk9 F9 N9; (try dsimp only); (try k_fold)))
  (k_with "m call ref" => (k_here; (with_reducible show wpAny _ _ (call (Value.ref 206) _) _ _ _); ((k_dflt (refine' divisions_u ?k2 ?k3 ?k4 ?k5 ?kK ?kp ?kd ?ku ?_)); (case k2 => k_dflt k_asm); (case k3 => k_asm); (case k4 => k_dflt k_asm); (case k5 => k_asm); (case kK => first | exact rfl | assumption); (case kp => exact ⟨by assumption, by assumption, by assumption, by assumption, by assumption, by assumption⟩); (case kd => ktr_room); (case ku => ktr_units)); intro h9 tk9 F9 N9; (try dsimp only); (try k_fold)))
  refine hd ?_
  k_go0
  all_goals try k_fold
  k_steps
end
end Mine
end
theorem PySem.Challenge.cw_nm0111_01_holds : PySem.Challenge.rw_nm0111_01.Holds := by
  exact Mine.law_t
