import PyProof.Rows.All
import Wide.All
import OpenK.AllK
import Wide.FinOn
import PySem.Challenge.RW_xm0142_01
open PySem PySem.W PyProof.Rows PySem.Spec PySem.Calls
set_option Elab.async false
set_option maxRecDepth 100000
set_option maxHeartbeats 8000000
set_option linter.unusedVariables false
set_option rowWalk.seconds 0
set_option compiler.extract_closed false
set_option genSizeOf false
set_option genInjectivity false
namespace Mine
def HdMark : Prop := True
theorem HdMark.it : HdMark := trivial
theorem hd_both {T G : Prop} (hl : T) (rest : G) : G := rest
theorem wsR : PySem.Challenge.rw_xm0142_01.row.wellSaid = true := by
  rw [PySem.W.Fast.te17960256430627541270]
  kernel_rfl
theorem ws : PySem.Challenge.rw_xm0142_01.wellSaid = true := by
  unfold PySem.W.OpenLaw.wellSaid
  repeat' (with_reducible refine look_both ?_ ?_)
  · exact wsR
  all_goals first | (rw [PySem.W.Fast.named_eq]; kernel_rfl) | kernel_rfl
local macro_rules | `(tactic| o_law) => `(tactic| refine holds_law ws fun said => ?_)
set_option hygiene false in
local macro_rules | `(tactic| k_head) => `(tactic| (
  (fail_if_success (have : HdMark := by assumption))
  apply hd_both
  (case' rest => (have mark : HdMark := HdMark.it; k_head))
  (case hl => (
    intro w
    unfold openEnds fencedOpening topFrom openSeen openGood expectedOf pinGoodD wideGood plainGoodE plainGoodD clsGoodW
    rw [PySem.W.Fast.te3399658132070893891, PySem.W.Fast.te3247288618530077131, PySem.W.Fast.te694669760492028198, PySem.W.Fast.te210736558901404530, PySem.W.Fast.te4354255287344443571, PySem.W.Fast.te1571739515156823405, PySem.W.Fast.te821141287760084731, PySem.W.Fast.te5160383126252970620, PySem.W.Fast.te5991557255702980513, PySem.W.Fast.te479339242167458305, PySem.W.Fast.te16090120013241838585, PySem.W.Fast.te2386780881361962483, PySem.W.Fast.te11698064438423848299, PySem.W.Fast.te7317090234206586261, PySem.W.Fast.te7369524293546568484, PySem.W.Fast.te10880121769531294198, PySem.W.Fast.te14722251495701143533, PySem.W.Fast.te10994771534591457954, PySem.W.Fast.te14082659384304107361, PySem.W.Fast.te10274390034422433532, PySem.W.Fast.te14289696077712309145, PySem.W.Fast.te1435165496053646825, PySem.W.Fast.te14364793385576792824, PySem.W.Fast.te8920871248978507458]
    kernel_rfl))))
set_option maxRecDepth 100000 in
set_option maxHeartbeats 8000000 in
open_top hd for PySem.Challenge.rw_xm0142_01
theorem top_off : True := by
  w_top off
  trivial
local macro_rules | `(tactic| k_qdec) => `(tactic| decide +kernel)
local macro_rules | `(tactic| omega) => `(tactic| first | lia | omega +splitDisjunctions)
/-- a call that changes nothing that stood: it ends, hands back r, and all that stood stands -/
noncomputable def PCall (w : World) (mean : ExcName → Option Value) (mg mb : Str → Option Value) (sz : Nat) (f : Addr) (vs : List Value) (Pre : Heap → Prop) (Post : Heap → Heap → Value → Prop) : Prop :=
  ∀ (dp un : Nat) (gd : Option (List Code)) (cn : Str) (cs : Scope) (a : Addr) (ccd : Value) (cl : List (Str × Addr)) (outer : List Env) (A₀ : Around) (base h₀ : Heap) (L : Addr) (m : Str → Option Value) (sh : Heap) (gg : Array GenState) (dd : Drawn) (tk : Nat) (oo : OsState) (Q E : Value → Shared → Prop),
    Below A₀ base outer h₀ → Fr h₀ L sh m → (hd.heap_1 w.params).In h₀ → Top hd.view_1 (looseW hd.view_1 []) mean mg mb h₀ → cs.kind = .function → dp + sz < recursionLimit → un + 8 * sz + 100 < cLine → Pre sh →
    (∀ r h' tk', sh.StaysIn h' → Post sh h' r → Q r ⟨h', gg, dd, tk', oo⟩) →
    wpAny (model Challenge.rw_xm0142_01.row.prog w) (ktrTop dp un gd cn cs L a ccd cl outer) (call (.ref f) vs) Q E ⟨sh, gg, dd, tk, oo⟩

section
variable {prog : Program} {w : World} {A₀ A : Around} {s : Shared} {base h₀ : Heap} {outer : List Env} {L : Addr} {m : Str → Option Value} {env : Env} {K : Frag} {p : Program} {loose : List Str} {mean : ExcName → Option Value} {mg mb : Str → Option Value}
  {R : Result → Shared → Prop} {name qual : Str} {params : Arguments} {body : List Stmt} {scope : Scope} {dV kV doc pm cdv ct oc : Value} {an od : Option Addr} {osl : Array (Option Value)} {f : Addr} {args : Args} {binds : List (Str × Value)}

theorem pc_def (B : Below A₀ base outer h₀) (F : Fr h₀ L s.heap m) (X₀ : K.In h₀) (T : Top p loose mean mg mb h₀) (hA : A.frames = some (env :: outer)) (hf : env.frame = some L) (hke : env.scope.kind = .function)
    (ho : K.lookup f = some ⟨oc, od, .func (fnOf name qual params body scope dV kV doc pm an cdv ct), osl⟩) (hcd : codeIn K cdv qual = true) (hroom : A.depth < recursionLimit)
    (hbind : BindsTo s (fnOf name qual params body scope dV kV doc pm an cdv ct) args binds) (hloc : ∀ y ∈ binds, scope.names.lookup y.1 = some .local)
    (h : ∀ L' h₁, Fr s.heap L' h₁ (fun y => binds.reverse.lookup y) → News s.heap L' h₁ [] → Below A base (env :: outer) s.heap → K.In s.heap → Top p loose mean mg mb s.heap →
      wpAny (model prog w) (A.deeper (envOf qual scope L' f cdv)) (execs body (envOf qual scope L' f cdv))
        (fun fl s' => LeaveK h₀ L m s.heap R (match fl with | .ret v => v | _ => .none) s')
        (fun _ _ => False)
        { s with heap := h₁, toks := s.toks + binds.length })
    (hco : scope.isCoroutine = false) (hgen : scope.isGenerator = false) (hk : scope.kind = .function)
    (hcell : ∀ x ∈ scope.names, x.2 ≠ .cell) : codeAny (model prog w) A (.call (.ref f) args) R s := by
  obtain ⟨_, BG, st, lv⟩ := groundX (R := R) B F (News.nil (h₀ := h₀) (h := s.heap) (L := L)) hA hf hke
  have BG : Below A base (env :: outer) s.heap := BG
  have st : h₀.StaysIn s.heap := st
  refine codeAny_call_def (fd := fnOf name qual params body scope dV kV doc pm an cdv ct) (body := body) (binds := binds) hroom ((X₀.keeps F.keep) _ _ ho) rfl (T.nolimit.keeps F.keep) (codeRec_of (X₀.keeps F.keep) hcd) rfl hbind hcell hloc (fun h₁ hns hk₁ => ?_) hco hgen hk
  exact wpAny_mono (h s.heap.objs.size h₁ ⟨hns, hk₁, Nat.le_refl _⟩ News.nil BG (X₀.keeps st) (T.keeps st)) (fun fl s' hl => lv _ _ hl) fun _ _ y => y.elim

theorem pc_defC (B : Below A₀ base outer h₀) (F : Fr h₀ L s.heap m) (X₀ : K.In h₀) (T : Top p loose mean mg mb h₀) (hA : A.frames = some (env :: outer)) (hf : env.frame = some L) (hke : env.scope.kind = .function)
    (ho : K.lookup f = some ⟨oc, od, .func (fnOf name qual params body scope dV kV doc pm an cdv ct), osl⟩) (hcd : codeIn K cdv qual = true) (hroom : A.depth < recursionLimit)
    (hbind : BindsTo s (fnOf name qual params body scope dV kV doc pm an cdv ct) args binds) (hkind : (binds.all fun y => scope.names.lookup y.1 == some .local || scope.names.lookup y.1 == some .cell) = true)
    (hnd : ((cellsFrom 0 scope.names []).map (·.1)).Nodup)
    (h : ∀ L' h₁ tk cells, Fr s.heap L' h₁ (bindL (envOfC qual scope L' f cdv).kindOf binds fun _ => none) → News s.heap L' h₁ (cells ++ []) →
      CellsAre (bindC (envOfC qual scope L' f cdv).kindOf binds fun _ => none) (cellsFrom (L' + 1) scope.names []) cells → Below A base (env :: outer) s.heap → K.In s.heap → Top p loose mean mg mb s.heap →
      wpAny (model prog w) (A.deeper (envOfC qual scope L' f cdv)) (execs body (envOfC qual scope L' f cdv))
        (fun fl s' => LeaveK h₀ L m s.heap R (match fl with | .ret v => v | _ => .none) s')
        (fun _ _ => False)
        { s with heap := h₁, toks := tk })
    (hco : scope.isCoroutine = false) (hgen : scope.isGenerator = false) (hk : scope.kind = .function) : codeAny (model prog w) A (.call (.ref f) args) R s := by
  obtain ⟨_, BG, st, lv⟩ := groundX (R := R) B F (News.nil (h₀ := h₀) (h := s.heap) (L := L)) hA hf hke
  have BG : Below A base (env :: outer) s.heap := BG
  have st : h₀.StaysIn s.heap := st
  refine codeAny_call_function hroom ((X₀.keeps F.keep) _ _ ho) rfl hco hgen rfl (codeRec_of (X₀.keeps F.keep) hcd) (hbind _ _ _ _ ?_)
  refine wpAny_newFunctionEnv_cells hk (kindsX hkind _) fun env' he s' x => ?_
  subst he
  refine ⟨(T.nolimit.keeps F.keep).keeps x.toInCall.keep, codeAny_func ?_⟩
  obtain ⟨h₁, tk, rfl, _⟩ := x.done
  obtain ⟨cells, NC, Y⟩ := Cl.news (h₀ := s.heap) (Nat.le_refl _) fun n c hm => ⟨x.cell n c (lookup_of_mem_nodup (cellsFrom_names scope.names 0 (s.heap.objs.size + 1) [] [] rfl ▸ hnd) hm), x.above n c hm⟩
  exact wpAny_mono (h s.heap.objs.size h₁ tk cells ⟨x.toInCall.ns, x.toInCall.keep, Nat.le_refl _⟩ (by rw [List.append_nil]; exact NC) Y BG (X₀.keeps st) (T.keeps st)) (fun fl s' hl => lv _ _ hl) fun _ _ y => y.elim
end

section
variable {prog : Program} {w : World} {A₀ A : Around} {sh : Heap} {gg : Array GenState} {dd : Drawn} {tk : Nat} {oo : OsState} {base h₀ : Heap} {outer : List Env} {L : Addr} {m : Str → Option Value} {env : Env} {K : Frag} {p : Program} {loose : List Str} {mean : ExcName → Option Value} {mg mb : Str → Option Value}
  {R : Result → Shared → Prop} {name qual : Str} {params : Arguments} {body : List Stmt} {scope : Scope} {dV kV doc pm cdv ct oc : Value} {an od : Option Addr} {osl : Array (Option Value)} {f : Addr} {args : Args} {binds : List (Str × Value)}
theorem pc_defF (B : Below A₀ base outer h₀) (F : Fr h₀ L sh m) (X₀ : K.In h₀) (T : Top p loose mean mg mb h₀) (hA : A.frames = some (env :: outer)) (hf : env.frame = some L) (hke : env.scope.kind = .function)
    (ho : K.lookup f = some ⟨oc, od, .func (fnOf name qual params body scope dV kV doc pm an cdv ct), osl⟩) (hcd : codeIn K cdv qual = true) (hroom : A.depth < recursionLimit)
    (hbind : BindsTo ⟨sh, gg, dd, tk, oo⟩ (fnOf name qual params body scope dV kV doc pm an cdv ct) args binds) (hloc : ∀ y ∈ binds, scope.names.lookup y.1 = some .local)
    (h : ∀ L' h₁ tk', Fr sh L' h₁ (fun y => binds.reverse.lookup y) → News sh L' h₁ [] → Below A base (env :: outer) sh → K.In sh → Top p loose mean mg mb sh →
      wpAny (model prog w) (A.deeper (envOf qual scope L' f cdv)) (execs body (envOf qual scope L' f cdv))
        (fun fl s' => LeaveK h₀ L m sh R (match fl with | .ret v => v | _ => .none) s')
        (fun _ _ => False)
        ⟨h₁, gg, dd, tk', oo⟩)
    (hco : scope.isCoroutine = false) (hgen : scope.isGenerator = false) (hk : scope.kind = .function)
    (hcell : ∀ x ∈ scope.names, x.2 ≠ .cell) : codeAny (model prog w) A (.call (.ref f) args) R ⟨sh, gg, dd, tk, oo⟩ :=
  pc_def (s := ⟨sh, gg, dd, tk, oo⟩) B F X₀ T hA hf hke ho hcd hroom hbind hloc (fun L' h₁ F' N' B' X' T' => h L' h₁ _ F' N' B' X' T') hco hgen hk hcell
theorem pc_defCF (B : Below A₀ base outer h₀) (F : Fr h₀ L sh m) (X₀ : K.In h₀) (T : Top p loose mean mg mb h₀) (hA : A.frames = some (env :: outer)) (hf : env.frame = some L) (hke : env.scope.kind = .function)
    (ho : K.lookup f = some ⟨oc, od, .func (fnOf name qual params body scope dV kV doc pm an cdv ct), osl⟩) (hcd : codeIn K cdv qual = true) (hroom : A.depth < recursionLimit)
    (hbind : BindsTo ⟨sh, gg, dd, tk, oo⟩ (fnOf name qual params body scope dV kV doc pm an cdv ct) args binds) (hkind : (binds.all fun y => scope.names.lookup y.1 == some .local || scope.names.lookup y.1 == some .cell) = true)
    (hnd : ((cellsFrom 0 scope.names []).map (·.1)).Nodup)
    (h : ∀ L' h₁ tk' cells, Fr sh L' h₁ (bindL (envOfC qual scope L' f cdv).kindOf binds fun _ => none) → News sh L' h₁ (cells ++ []) →
      CellsAre (bindC (envOfC qual scope L' f cdv).kindOf binds fun _ => none) (cellsFrom (L' + 1) scope.names []) cells → Below A base (env :: outer) sh → K.In sh → Top p loose mean mg mb sh →
      wpAny (model prog w) (A.deeper (envOfC qual scope L' f cdv)) (execs body (envOfC qual scope L' f cdv))
        (fun fl s' => LeaveK h₀ L m sh R (match fl with | .ret v => v | _ => .none) s')
        (fun _ _ => False)
        ⟨h₁, gg, dd, tk', oo⟩)
    (hco : scope.isCoroutine = false) (hgen : scope.isGenerator = false) (hk : scope.kind = .function) : codeAny (model prog w) A (.call (.ref f) args) R ⟨sh, gg, dd, tk, oo⟩ :=
  pc_defC (s := ⟨sh, gg, dd, tk, oo⟩) B F X₀ T hA hf hke ho hcd hroom hbind hkind hnd h hco hgen hk
end
theorem code_defE {prog : Program} {w : World} {A A₀ : Around} {s : Shared} {K : Frag} {L : Addr} {h₀ base : Heap} {m mg mb : Str → Option Value} {news : List (Addr × Obj)} {p : Program} {loose : List Str} {mean : ExcName → Option Value}
    {env : Env} {outer : List Env} {R : Result → Shared → Prop} {name qual : Str} {params : Arguments} {body : List Stmt} {scope : Scope} {dV kV doc pm cdv ct oc : Value} {an od : Option Addr} {osl : Array (Option Value)} {f : Addr} {args : Args} {binds : List (Str × Value)}
    (B : Below A₀ base outer h₀) (F : Fr h₀ L s.heap m) (X₀ : K.In h₀) (N : News h₀ L s.heap news) (T : Top p loose mean mg mb h₀) (hA : A.frames = some (env :: outer)) (hf : env.frame = some L) (hke : env.scope.kind = .function)
    (ho : K.lookup f = some ⟨oc, od, .func (fnOf name qual params body scope dV kV doc pm an cdv ct), osl⟩) (hcd : codeIn K cdv qual = true) (hroom : A.depth < recursionLimit)
    (hbind : BindsTo s (fnOf name qual params body scope dV kV doc pm an cdv ct) args binds) (hloc : ∀ y ∈ binds, scope.names.lookup y.1 = some .local)
    (h : ∀ g L' h₁, Fr h₀ L g m → Fr g L' h₁ (fun y => binds.reverse.lookup y) → News g L' h₁ news → Below A base (env :: outer) g → K.In g → Top p loose mean mg mb g →
      wpAny (model prog w) (A.deeper (envOf qual scope L' f cdv)) (execs body (envOf qual scope L' f cdv))
        (fun fl s' => LeaveK h₀ L m g R (match fl with | .ret v => v | _ => .none) s') (fun _ _ => False) { s with heap := h₁, toks := s.toks + binds.length })
    (hco : scope.isCoroutine = false) (hgen : scope.isGenerator = false) (hk : scope.kind = .function)
    (hcell : ∀ x ∈ scope.names, x.2 ≠ .cell) : codeAny (model prog w) A (.call (.ref f) args) R s :=
  code_def B F X₀ N T hA hf hke ho hcd hroom hbind hloc (fun g L' h₁ FG F' N' B' X' T' => wpAny_mono (h g L' h₁ FG F' N' B' X' T') (fun _ _ x => x) fun _ _ x => x.elim) hco hgen hk hcell
theorem code_defEF {prog : Program} {w : World} {A A₀ : Around} {sh : Heap} {gg : Array GenState} {dd : Drawn} {tk : Nat} {oo : OsState} {K : Frag} {L : Addr} {h₀ base : Heap} {m mg mb : Str → Option Value} {news : List (Addr × Obj)} {p : Program} {loose : List Str} {mean : ExcName → Option Value}
    {env : Env} {outer : List Env} {R : Result → Shared → Prop} {name qual : Str} {params : Arguments} {body : List Stmt} {scope : Scope} {dV kV doc pm cdv ct oc : Value} {an od : Option Addr} {osl : Array (Option Value)} {f : Addr} {args : Args} {binds : List (Str × Value)}
    (B : Below A₀ base outer h₀) (F : Fr h₀ L sh m) (X₀ : K.In h₀) (N : News h₀ L sh news) (T : Top p loose mean mg mb h₀) (hA : A.frames = some (env :: outer)) (hf : env.frame = some L) (hke : env.scope.kind = .function)
    (ho : K.lookup f = some ⟨oc, od, .func (fnOf name qual params body scope dV kV doc pm an cdv ct), osl⟩) (hcd : codeIn K cdv qual = true) (hroom : A.depth < recursionLimit)
    (hbind : BindsTo ⟨sh, gg, dd, tk, oo⟩ (fnOf name qual params body scope dV kV doc pm an cdv ct) args binds) (hloc : ∀ y ∈ binds, scope.names.lookup y.1 = some .local)
    (h : ∀ g L' h₁ tk', Fr h₀ L g m → Fr g L' h₁ (fun y => binds.reverse.lookup y) → News g L' h₁ news → Below A base (env :: outer) g → K.In g → Top p loose mean mg mb g →
      wpAny (model prog w) (A.deeper (envOf qual scope L' f cdv)) (execs body (envOf qual scope L' f cdv))
        (fun fl s' => LeaveK h₀ L m g R (match fl with | .ret v => v | _ => .none) s') (fun _ _ => False) ⟨h₁, gg, dd, tk', oo⟩)
    (hco : scope.isCoroutine = false) (hgen : scope.isGenerator = false) (hk : scope.kind = .function)
    (hcell : ∀ x ∈ scope.names, x.2 ≠ .cell) : codeAny (model prog w) A (.call (.ref f) args) R ⟨sh, gg, dd, tk, oo⟩ :=
  code_defE (s := ⟨sh, gg, dd, tk, oo⟩) B F X₀ N T hA hf hke ho hcd hroom hbind hloc (fun g L' h₁ FG F' N' B' X' T' => h g L' h₁ _ FG F' N' B' X' T') hco hgen hk hcell
/-- a def's room: the callee wants less than the caller has -/
theorem room0 {d S : Nat} (h : d + S < recursionLimit) : d < recursionLimit := Nat.lt_of_le_of_lt (Nat.le_add_right d S) h
theorem room1 {d S t : Nat} (h : d + S < recursionLimit) (e : Nat.ble (1 + t) S = true) : d + 1 + t < recursionLimit := Nat.lt_of_le_of_lt (Nat.add_assoc d 1 t ▸ Nat.add_le_add_left (Nat.le_of_ble_eq_true e) d) h
theorem units1 {u S t : Nat} (h : u + 8 * S + 100 < cLine) (e : Nat.ble (1 + t) S = true) : u + 3 + 8 * t + 100 < cLine := by
  have := Nat.le_of_ble_eq_true e
  omega
theorem units0 {u S t : Nat} (h : u + 8 * S + 100 < cLine) (e : Nat.ble t (8 * S + 97) = true) : u + 3 + t < cLine := by
  have := Nat.le_of_ble_eq_true e
  omega

/-- at l there is a list of ints, ns (not long) -/
noncomputable def AL (h : Heap) (l : Addr) (ns : List Int) : Prop := ∃ vs : List Value, h.IsList l vs.toArray ∧ IntsAre vs ns ∧ ns.length < 2 ^ 20
/-- r is a list made in the call, of the ints ns -/
noncomputable def NL (h h' : Heap) (r : Value) (ns : List Int) : Prop := ∃ (l : Addr) (vs : List Value) (n : Nat), r = .ref l ∧ h.get? l = none ∧ h'.get? l = some (listOf vs.toArray n) ∧ IntsAre vs ns ∧ ns.length < 2 ^ 20

/-- the int has at most k bits -/
noncomputable def Bd (k : Nat) (x : Int) : Prop := x.natAbs < 2 ^ k
noncomputable def BdL (k : Nat) (l : List Int) : Prop := ∀ x ∈ l, Bd k x
theorem Bd.log {k : Nat} {x : Int} (h : Bd k x) (hk : 0 < k) : x.natAbs.log2 < k := by
  rcases Nat.eq_zero_or_pos x.natAbs with h0 | h0
  · rw [h0]; exact hk
  · exact (Nat.log2_lt (by omega)).mpr h
theorem Bd.bits {k : Nat} {x : Int} (h : Bd k x) : Builtin.Int.intBits x ≤ k := by
  unfold Builtin.Int.intBits
  split
  · exact Nat.zero_le _
  · rename_i h0
    have hk : 0 < k := by
      rcases Nat.eq_zero_or_pos k with hk | hk
      · subst hk; unfold Bd at h; simp at h; simp [h] at h0
      · exact hk
    have := h.log hk; omega
theorem Bd.noPy {x y : Int} (h : Bd 8999 y) : Builtin.divisionGoesByPylong x y = false :=
  PyProof.noPylong_of_log2 (Nat.lt_trans (h.log (by decide)) (by decide))
theorem Bd.mulOk {j k : Nat} {x y : Int} (hx : Bd j x) (hy : Bd k y) (hj : j ≤ 1048576) (hk : k ≤ 1048576) : IntMulOk x y :=
  IntMulOk.of_bits (Nat.le_trans hx.bits (by rw [show (2:Nat)^20 = 1048576 from rfl]; exact hj)) (Nat.le_trans hy.bits (by rw [show (2:Nat)^20 = 1048576 from rfl]; exact hk))
theorem Bd.mono {j k : Nat} {x : Int} (h : Bd j x) (hk : j ≤ k) : Bd k x := Nat.lt_of_lt_of_le h (Nat.pow_le_pow_right (by decide) hk)
theorem Bd.of_le {k : Nat} {x y : Int} (h : Bd k y) (e : x.natAbs ≤ y.natAbs) : Bd k x := Nat.lt_of_le_of_lt e h
theorem Bd.mul {j k : Nat} {x y : Int} (hx : Bd j x) (hy : Bd k y) : Bd (j + k) (x * y) := by
  unfold Bd at *
  rw [Int.natAbs_mul, Nat.pow_add]
  exact Nat.mul_lt_mul'' hx hy
theorem Bd.add {k : Nat} {x y : Int} (hx : Bd k x) (hy : Bd k y) : Bd (k + 1) (x + y) := by
  unfold Bd at *
  have := Int.natAbs_add_le x y
  rw [Nat.pow_succ]; omega
theorem Bd.neg {k : Nat} {x : Int} (hx : Bd k x) : Bd k (-x) := by
  unfold Bd at *; rw [Int.natAbs_neg]; exact hx

theorem AL.stay {g h : Heap} {L l : Addr} {m : Str → Option Value} {ns : List Int} (x : AL g l ns) (F : Fr g L h m) : AL h l ns :=
  let ⟨vs, a, b, c⟩ := x; ⟨vs, stays_list F.keep a, b, c⟩
theorem AL.news {g h : Heap} {L l : Addr} {vs : List Value} {n : Nat} {news : List (Addr × Obj)} {ns : List Int} (N : News g L h news) (hm : (l, listOf vs.toArray n) ∈ news) (hi : IntsAre vs ns) (hlen : ns.length < 2 ^ 20) : AL h l ns :=
  ⟨vs, ⟨_, (N _ hm).1, rfl, n, rfl⟩, hi, hlen⟩
theorem NL.of {g h : Heap} {L l : Addr} {vs : List Value} {n : Nat} {news : List (Addr × Obj)} {ns : List Int} (N : News g L h news) (hm : (l, listOf vs.toArray n) ∈ news) (hi : IntsAre vs ns) (hlen : ns.length < 2 ^ 20) : NL g h (.ref l) ns :=
  ⟨l, vs, n, rfl, (N _ hm).2.2, (N _ hm).1, hi, hlen⟩
section
variable {w : World} {mean : ExcName → Option Value} {mg mb : Str → Option Value} {sz : Nat} {f : Addr} {vs : List Value} {Pre : Heap → Prop}
  {dp un : Nat} {gd : Option (List Code)} {cn : Str} {cs : Scope} {a : Addr} {ccd : Value} {cl : List (Str × Addr)} {outer : List Env} {A₀ : Around} {base h₀ : Heap} {L : Addr} {m : Str → Option Value} {sh : Heap} {gg : Array GenState} {dd : Drawn} {tk : Nat} {oo : OsState} {Q E : Value → Shared → Prop} {news : List (Addr × Obj)}
theorem fr_stay {h h' : Heap} (F : Fr h₀ L h m) (st : h.StaysIn h') : Fr h₀ L h' m := by
  obtain ⟨⟨oL, es, ep, hL, r⟩, k, ab⟩ := F
  exact ⟨⟨oL, es, ep, st _ _ hL, r⟩, fun b o e => st _ _ (k b o e), ab⟩
theorem news_stay {h h' : Heap} (N : News h₀ L h news) (st : h.StaysIn h') : News h₀ L h' news := fun p hp => ⟨st _ _ (N p hp).1, (N p hp).2⟩
theorem pc_use {Post : Heap → Heap → Value → Prop} (C : PCall w mean mg mb sz f vs Pre Post) (B : Below A₀ base outer h₀) (F : Fr h₀ L sh m) (X : (hd.heap_1 w.params).In h₀) (N : News h₀ L sh news) (T : Top hd.view_1 (looseW hd.view_1 []) mean mg mb h₀) (hk : cs.kind = .function)
    (hd : dp + sz < recursionLimit) (hu : un + 8 * sz + 100 < cLine) (hp : Pre sh) (ret : ∀ r h' tk', sh.StaysIn h' → Fr h₀ L h' m → News h₀ L h' news → Post sh h' r → Q r ⟨h', gg, dd, tk', oo⟩) :
    wpAny (model Challenge.rw_xm0142_01.row.prog w) (ktrTop dp un gd cn cs L a ccd cl outer) (call (.ref f) vs) Q E ⟨sh, gg, dd, tk, oo⟩ :=
  C _ _ _ _ _ _ _ _ _ _ _ _ _ _ _ _ _ _ _ _ _ B F X T hk hd hu hp fun r h' tk' st po => ret r h' tk' st (fr_stay F st) (news_stay N st) po
theorem pc_useI {x : Int} (C : PCall w mean mg mb sz f vs Pre (fun _ _ r => ∃ t, r = .int x t)) (B : Below A₀ base outer h₀) (F : Fr h₀ L sh m) (X : (hd.heap_1 w.params).In h₀) (N : News h₀ L sh news) (T : Top hd.view_1 (looseW hd.view_1 []) mean mg mb h₀) (hk : cs.kind = .function)
    (hd : dp + sz < recursionLimit) (hu : un + 8 * sz + 100 < cLine) (hp : Pre sh) (ret : ∀ t h' tk', Fr h₀ L h' m → News h₀ L h' news → Q (.int x t) ⟨h', gg, dd, tk', oo⟩) :
    wpAny (model Challenge.rw_xm0142_01.row.prog w) (ktrTop dp un gd cn cs L a ccd cl outer) (call (.ref f) vs) Q E ⟨sh, gg, dd, tk, oo⟩ :=
  pc_use C B F X N T hk hd hu hp fun r h' tk' _ F' N' po => by obtain ⟨t, rfl⟩ := po; exact ret t h' tk' F' N'
theorem pc_use0 (C : PCall w mean mg mb sz f vs Pre (fun _ _ r => r = .none)) (B : Below A₀ base outer h₀) (F : Fr h₀ L sh m) (X : (hd.heap_1 w.params).In h₀) (N : News h₀ L sh news) (T : Top hd.view_1 (looseW hd.view_1 []) mean mg mb h₀) (hk : cs.kind = .function)
    (hd : dp + sz < recursionLimit) (hu : un + 8 * sz + 100 < cLine) (hp : Pre sh) (ret : ∀ h' tk', Fr h₀ L h' m → News h₀ L h' news → Q .none ⟨h', gg, dd, tk', oo⟩) :
    wpAny (model Challenge.rw_xm0142_01.row.prog w) (ktrTop dp un gd cn cs L a ccd cl outer) (call (.ref f) vs) Q E ⟨sh, gg, dd, tk, oo⟩ :=
  pc_use C B F X N T hk hd hu hp fun r h' tk' _ F' N' po => by cases po; exact ret h' tk' F' N'
/-- no address of the ledger is l -/
theorem offA {N own : List (Addr × Obj)} : ∀ l : Addr, (∀ p ∈ N ++ own, @Ne Nat p.1 l) → ∀ p ∈ N ++ own, @Ne Nat p.1 l := fun _ h => h
theorem off0 : ∀ l : Addr, (∀ p ∈ ([] : List (Addr × Obj)), @Ne Nat p.1 l) → True := fun _ _ => trivial
theorem off1 {a : Addr} {o : Obj} : ∀ l : Addr, (∀ p ∈ [(a, o)], @Ne Nat p.1 l) → @Ne Nat a l := fun _ h => h _ (.head _)
theorem offS {a : Addr} {o : Obj} {r : List (Addr × Obj)} {C : Addr → Prop} (c : ∀ l : Addr, (∀ p ∈ r, @Ne Nat p.1 l) → C l) : ∀ l : Addr, (∀ p ∈ (a, o) :: r, @Ne Nat p.1 l) → @Ne Nat a l ∧ C l := fun l h => ⟨h _ (.head _), c l fun p hp => h p (.tail _ hp)⟩
theorem off2 {a b : Addr} {o q : Obj} : ∀ l : Addr, (∀ p ∈ [(a, o), (b, q)], @Ne Nat p.1 l) → @Ne Nat a l ∧ @Ne Nat b l := offS off1
theorem off3 {a b c : Addr} {o q u : Obj} : ∀ l : Addr, (∀ p ∈ [(a, o), (b, q), (c, u)], @Ne Nat p.1 l) → @Ne Nat a l ∧ @Ne Nat b l ∧ @Ne Nat c l := offS off2
theorem off4 {a b c d : Addr} {o q u v : Obj} : ∀ l : Addr, (∀ p ∈ [(a, o), (b, q), (c, u), (d, v)], @Ne Nat p.1 l) → @Ne Nat a l ∧ @Ne Nat b l ∧ @Ne Nat c l ∧ @Ne Nat d l := offS off3
theorem pc_useL {ns : List Int} {D : Addr → Prop} (C : PCall w mean mg mb sz f vs Pre (fun h h' r => NL h h' r ns)) (B : Below A₀ base outer h₀) (F : Fr h₀ L sh m) (X : (hd.heap_1 w.params).In h₀) (N : News h₀ L sh news) (T : Top hd.view_1 (looseW hd.view_1 []) mean mg mb h₀) (hk : cs.kind = .function)
    (hd : dp + sz < recursionLimit) (hu : un + 8 * sz + 100 < cLine) (hp : Pre sh) (hD : ∀ l : Addr, (∀ p ∈ news, @Ne Nat p.1 l) → D l)
    (ret : ∀ l (us : List Value) n h' tk', Fr h₀ L h' m → News h₀ L h' ((l, listOf us.toArray n) :: news) → D l → IntsAre us ns → ns.length < 2 ^ 20 → Q (.ref l) ⟨h', gg, dd, tk', oo⟩) :
    wpAny (model Challenge.rw_xm0142_01.row.prog w) (ktrTop dp un gd cn cs L a ccd cl outer) (call (.ref f) vs) Q E ⟨sh, gg, dd, tk, oo⟩ :=
  pc_use C B F X N T hk hd hu hp fun r h' tk' st F' N' po => by
    obtain ⟨l, us, n, rfl, hl, hg, hi, hn⟩ := po
    obtain ⟨oL, _, _, hL, _⟩ := F.ns
    refine ret l us n h' tk' F' ?_ (hD l fun p hp e => ?_) hi hn
    · intro p hp
      rcases List.mem_cons.mp hp with rfl | hp
      · refine ⟨hg, fun e => ?_, ?_⟩
        · have e : l = L := e
          rw [e, hL] at hl; cases hl
        · cases q : h₀.get? l with
          | none => rfl
          | some o => rw [F.keep _ _ q] at hl; cases hl
      · exact N' p hp
    · have := (N p hp).1
      rw [e, hl] at this; cases this
end

theorem BdL.of {k : Nat} {l : List Int} {x : Int} (h : BdL k l) (hx : x ∈ l) : Bd k x := h x hx
noncomputable def trimL (ns : List Int) : List Int := (ns.reverse.dropWhile (· == 0)).reverse
noncomputable def addL (a b : List Int) : List Int := trimL ((List.range (max a.length b.length)).map fun i => a.getD i 0 + b.getD i 0)
/-- the part of the k-th coefficient of the product that the first i items of a bring -/
noncomputable def conv (a b : List Int) : Nat → Nat → Int
  | 0, _ => 0
  | i + 1, k => conv a b i k + (if i ≤ k ∧ k - i < b.length then a.getD i 0 * b.getD (k - i) 0 else 0)
noncomputable def mulL (a b : List Int) : List Int :=
  if a.length = 0 ∨ b.length = 0 then [] else (List.range (a.length + b.length - 1)).map fun k => conv a b a.length k
theorem map_fix {m₀ m₁ : Str → Option Value} (stored : List Str) (h : ∀ z, stored.contains z = false → m₁ z = m₀ z) : m₁ = fun z => if stored.contains z = true then m₁ z else m₀ z := by
  funext z
  cases q : stored.contains z with
  | true => simp
  | false => simp only [Bool.false_eq_true, if_false]; exact h z q
theorem fr_fix {h₀ h : Heap} {L : Addr} {m₀ m₁ : Str → Option Value} (stored : List Str) (F : Fr h₀ L h m₁) (e : ∀ z, stored.contains z = false → m₁ z = m₀ z) : Fr h₀ L h (fun z => if stored.contains z = true then m₁ z else m₀ z) := by
  rw [← map_fix stored e]; exact F
/-- a loop's state: one list of ints of the ledger turns, some names of the frame are forgotten -/
noncomputable def LsJ (m₀ : Str → Option Value) (stored : List Str) (lf : Addr) (nf : Nat) (g : List (Addr × Obj)) (S : Nat → List Int) (i : Nat) (m₁ : Str → Option Value) (nx : List (Addr × Obj)) : Prop :=
  (∀ z, stored.contains z = false → m₁ z = m₀ z) ∧ ∃ us zs, nx = (lf, listOf us.toArray nf) :: g ∧ IntsAre us zs ∧ zs = S i
theorem news_swap {h₀ h : Heap} {L : Addr} {own nx : List (Addr × Obj)} (N : News h₀ L h (own ++ nx)) : News h₀ L h (nx ++ own) :=
  fun p hp => N p ((List.mem_append.mp hp).elim (fun h => List.mem_append.mpr (.inr h)) fun h => List.mem_append.mpr (.inl h))
theorem ownOff_of {own nx : List (Addr × Obj)} (h : ∀ p ∈ own, ∀ q ∈ nx, p.1 ≠ q.1) : OwnOff own (nx.map (·.1)) := by
  intro p hp b hb
  obtain ⟨q, hq, rfl⟩ := List.mem_map.mp hb
  exact h p hp q hq
theorem ls_end {h₀ h' : Heap} {L lf : Addr} {nf : Nat} {own g : List (Addr × Obj)} {us us' : List Value} {zs' : List Int} {S : Nat → List Int} {i : Nat} {stored : List Str} {m₀ m' : Str → Option Value} {s₁ : Shared} {tk : Nat} {Qr : Value → Shared → Prop} {Qb : Shared → Prop}
    (F : Fr h₀ L h' m') (N : News h₀ L h' (((lf, listOf us'.toArray nf) :: g) ++ own)) (hm : ∀ z, stored.contains z = false → m' z = m₀ z) (hi : IntsAre us' zs') (hz : zs' = S i) :
    LoopStep3 h₀ L own ((lf, listOf us.toArray nf) :: g) (LsJ m₀ stored lf nf g S i) s₁ Qr Qb .next { s₁ with heap := h', toks := tk } :=
  ⟨rfl, h', tk, m', (lf, listOf us'.toArray nf) :: g, rfl, F, news_swap N, rfl, hm, us', zs', rfl, hi, hz⟩
noncomputable def Okl (x : List Int) : Prop := BdL 1048576 x ∧ x.length < 2 ^ 19
theorem m_while {prog : Program} {w : World} {A : Around} {E : Value → Shared → Prop} {Q : Flow → Shared → Prop} {s : Shared} {env : Env} {h₀ : Heap} {L : Addr} {σ : Type} {test : Expr} {body : List Stmt} {pos : Pos} {m₀ : Str → Option Value} {news : List (Addr × Obj)}
    (Led : σ → List (Addr × Obj)) (ps : σ → List (Str × Value)) (stored : List Str) (P : σ → Prop) (μ : σ → Nat)
    (F : Fr h₀ L s.heap m₀) (N : News h₀ L s.heap news) (start : ∃ c₀, (∀ p ∈ ps c₀, m₀ p.1 = some p.2) ∧ (∀ p ∈ Led c₀, p ∈ news) ∧ P c₀)
    (turn : ∀ (c : σ) (u : Str → Option Value) h tk, P c → Fr h₀ L h (kstB (fun z => if stored.contains z then u z else m₀ z) (ps c)) → News h₀ L h (Led c) →
      wpAny (model prog w) A (isTrue test env (eval test env)) (fun b s₂ =>
        if b = true then wpAny (model prog w) A (execs body env) (KswPost h₀ L s Led ps (fun _ => True) stored m₀ P μ Q c) E s₂ else Q .next s₂) E { s with heap := h, toks := tk })
    (hE : PassesOwn (model prog w) A env E) :
    wpAny (model prog w) A (exec (.While test body [] pos) env) Q E s := by
  obtain ⟨c₀, h1, h2, h3⟩ := start
  exact ksw_while Led ps (fun _ => True) stored P μ c₀ F (kst_newsOf N h2) trivial h1 h3 (fun c u h tk _ => turn c u h tk) hE
theorem m_end {σ : Type} {h₀ : Heap} {L : Addr} {s : Shared} {Led : σ → List (Addr × Obj)} {ps : σ → List (Str × Value)} {stored : List Str} {m₀ m' : Str → Option Value} {P : σ → Prop} {μ : σ → Nat} {c : σ} {h' : Heap} {tk : Nat} {news' : List (Addr × Obj)} (c' : σ)
    (F : Fr h₀ L h' m') (N : News h₀ L h' news') (hk : ∀ p ∈ ps c', m' p.1 = some p.2) (hn : ∀ p ∈ Led c', p ∈ news') (hr : ∀ z, (∀ p ∈ ps c', z ≠ p.1) → stored.contains z = false → m' z = m₀ z) (hp : P c') (hm : μ c' < μ c) :
    KswEnd h₀ L s Led ps (fun _ => True) stored m₀ P μ c { s with heap := h', toks := tk } := ksw_end c' F N hn trivial hk hr hp hm
theorem half_facts {n : Int} (h : 0 ≤ n) : 0 ≤ n.fdiv 2 ∧ n.fdiv 2 ≤ n ∧ (n.fdiv 2).toNat = n.toNat / 2 ∧ n.fmod 2 = ((n.toNat % 2 : Nat) : Int) := by
  rw [Int.fdiv_eq_ediv_of_nonneg n (by decide), Int.fmod_eq_emod_of_nonneg n (by decide)]
  omega
theorem one_pow_int (n : Nat) : (1 : Int) ^ n = 1 := by induction n with
  | zero => rfl
  | succ n ih => rw [Int.pow_succ, ih]; rfl
theorem zero_pow_int (n : Nat) (h : n ≠ 0) : (0 : Int) ^ n = 0 := by
  cases n with
  | zero => exact absurd rfl h
  | succ n => rw [Int.pow_succ, Int.mul_zero]
theorem neg_one_pow_int (n : Nat) : (-1 : Int) ^ n = if n % 2 = 0 then 1 else -1 := by
  induction n with
  | zero => rfl
  | succ n ih =>
    rw [Int.pow_succ, ih]
    by_cases h : n % 2 = 0
    · rw [if_pos h, if_neg (by omega)]; rfl
    · rw [if_neg h, if_pos (by omega)]; rfl
theorem pow_any {prog : Program} {w : World} {A : Around} {E : Value → Shared → Prop} {s : Shared} {Q : Value → Shared → Prop} {a b : Int} {t u : Tok} {k : Nat} (hb : 0 ≤ b) (ha : Bd k a) (hk : (k : Int) * b ≤ 100000000)
    (h : Q (.int (a ^ b.toNat) s.toks) { s with toks := s.toks + 1 }) : wpAny (model prog w) A (binaryOp .Pow (.int a t) (.int b u)) Q E s := by
  by_cases h0 : b = 0
  · refine AutoIntOps.pow_0 hb (by simp [h0]) ?_
    have e : a ^ b.toNat = 1 := by rw [h0]; exact Int.pow_zero a
    rw [e] at h
    exact h
  · have hb0 : b.toNat ≠ 0 := by omega
    by_cases h1 : a = 0 ∨ a = 1
    · refine AutoIntOps.pow_1 hb (by simpa using h0) (by simpa using h1) ?_
      have e : a ^ b.toNat = a := by
        rcases h1 with rfl | rfl
        · exact zero_pow_int _ hb0
        · exact one_pow_int _
      rw [e] at h
      exact h
    · by_cases h2 : a = -1
      · refine AutoIntOps.pow_2 hb (by simpa using h0) (by simpa using h1) (by simpa using h2) ?_
        have e : a ^ b.toNat = if (b % 2 == 0) = true then 1 else -1 := by
          rw [h2, neg_one_pow_int]
          by_cases hp : b % 2 = 0
          · rw [if_pos (by omega), if_pos (by simpa using hp)]
          · rw [if_neg (by omega), if_neg (by simpa using hp)]
        rw [e] at h
        exact h
      · refine AutoIntOps.pow_4 hb (by simpa using h0) (by simpa using h1) (by simpa using h2) ?_ h
        unfold Builtin.Int.intTooBig bitsLine
        simp only [decide_eq_true_eq, Int.not_lt, gt_iff_lt]
        have hbits := ha.bits
        have : ((Builtin.Int.intBits a : Nat) : Int) * b ≤ (k : Int) * b := Int.mul_le_mul_of_nonneg_right (by omega) hb
        have e27 : ((2 ^ 27 : Nat) : Int) = 134217728 := rfl
        omega

noncomputable def subL (a b : List Int) : List Int := addL a (b.map fun x => -x)
noncomputable def scaleL (p : List Int) (k : Int) : List Int := if k ≠ 0 then p.map fun x => x * k else []
noncomputable def raiseL (p : List Int) (k : Nat) : List Int := if 0 < p.length then List.replicate k 0 ++ p else []
noncomputable def leadL (ns : List Int) : Int := if 0 < ns.length then ns.getD (ns.length - 1) 0 else 0
noncomputable def psStep (b : List Int) (first : Int) (rest : List Int) : List Int := subL (scaleL rest first) (raiseL (scaleL b (leadL rest)) (rest.length - b.length))
noncomputable def psFound (b : List Int) (first : Int) (rest found : List Int) : List Int := subL (scaleL found first) (raiseL [-(leadL rest)] (rest.length - b.length))
noncomputable def psLoop (b : List Int) (first : Int) : Nat → List Int → List Int → Int → List Int × List Int × Int
  | 0, rest, found, left => (rest, found, left)
  | f + 1, rest, found, left => if b.length ≤ rest.length then psLoop b first f (psStep b first rest) (psFound b first rest found) (left - 1) else (rest, found, left)
noncomputable def psMany (a b : List Int) : Int := if (a.length : Int) - (b.length : Int) + 1 > 0 then (a.length : Int) - (b.length : Int) + 1 else 0
noncomputable def pseudoL (a b : List Int) : List Int × List Int × Int :=
  let r := psLoop b (leadL b) (a.length + 1) a [] (psMany a b)
  (scaleL r.2.1 (leadL b ^ r.2.2.toNat), scaleL r.1 (leadL b ^ r.2.2.toNat), psMany a b)
noncomputable def restsL (row : List Int) (m : Nat) : List Int := (List.range m).map fun i => ((List.range row.length).filter fun k => k % m = i).foldl (fun s k => s + row.getD k 0) 0
noncomputable def Nz (x : Int) : Prop := x ≠ 0
/-- a matrix of two rows of two ints -/
noncomputable def AM (h : Heap) (l : Addr) (p q u v : Int) : Prop := ∃ (l1 l2 : Addr) (n n1 n2 : Nat) (t1 t2 t3 t4 : Tok), h.get? l = some (listOf #[.ref l1, .ref l2] n) ∧ h.get? l1 = some (listOf #[.int p t1, .int q t2] n1) ∧ h.get? l2 = some (listOf #[.int u t3, .int v t4] n2)
noncomputable def MX (h h' : Heap) (r : Value) (p q u v : Int) : Prop := ∃ (l l1 l2 : Addr) (n n1 n2 : Nat) (t1 t2 t3 t4 : Tok), r = .ref l ∧ h.get? l = none ∧ h.get? l1 = none ∧ h.get? l2 = none ∧
  h'.get? l = some (listOf #[.ref l1, .ref l2] n) ∧ h'.get? l1 = some (listOf #[.int p t1, .int q t2] n1) ∧ h'.get? l2 = some (listOf #[.int u t3, .int v t4] n2)

/-- what a plain argument is worth: a local name, or an int -/
noncomputable def argV (m : Str → Option Value) (kd : Str → Option NameKind) (e : Expr) (t : Tok) : Option (Value × Tok) := match e with
  | .Name x _ => if kd x = some .local ∧ (x == ("__debug__" : Str)) = false then (m x).map fun v => (v, t) else none
  | .Constant c _ _ => match c with
    | .int i => some (.int i t, t + 1)
    | _ => none
  | _ => none
noncomputable def argsV (m : Str → Option Value) (kd : Str → Option NameKind) : List Expr → Tok → Option (List Value × Tok)
  | [], t => some ([], t)
  | e :: r, t => match argV m kd e t with
    | some (v, t1) => match argsV m kd r t1 with
      | some (vs, t2) => some (v :: vs, t2)
      | none => none
    | none => none
section
variable {M : Model} {A : Around} {E : Value → Shared → Prop} {K : Frag} {h₀ : Heap} {L a : Addr} {m mg mb : Str → Option Value} {cn : Str} {cs : Scope} {ccd : Value} {cl : List (Str × Addr)} {p : Program} {loose : List Str}
theorem argV_ok {e : Expr} {s : Shared} {v : Value} {t : Tok} (hk : cs.kind = .function) (F : Fr h₀ L s.heap m) (h : argV m (envX cn cs L a ccd cl).kindOf e s.toks = some (v, t)) {Q : Value → Shared → Prop} (q : Q v { s with toks := t }) : wpAny M A (eval e (envX cn cs L a ccd cl)) Q E s := by
  cases e with
  | Name x _ =>
    have h : (if (envX cn cs L a ccd cl).kindOf x = some .local ∧ (x == ("__debug__" : Str)) = false then (m x).map fun v => (v, s.toks) else none) = some (v, t) := h
    by_cases c : (envX cn cs L a ccd cl).kindOf x = some .local ∧ (x == ("__debug__" : Str)) = false
    · rw [if_pos c] at h
      obtain ⟨v', h3, h4⟩ := Option.map_eq_some_iff.mp h
      cases h4
      exact nameX_L F h3 q hk c.1 c.2
    · rw [if_neg c] at h; cases h
  | Constant c _ _ =>
    cases c with
    | int i => cases h; exact wpAny_Constant_int q
    | _ => cases h
  | _ => cases h
theorem argV_star {e : Expr} {r : List Expr} {kd : Str → Option NameKind} {t : Tok} {x : Value × Tok} (env : Env) (h : argV m kd e t = some x) : starEach (e :: r) env = (false, eval e env) :: starEach r env := by
  cases e <;> first | rfl | cases h
theorem argsV_ok {pos : Pos} (hk : cs.kind = .function) : ∀ {es : List Expr} {s : Shared} {vs : List Value} {t : Tok} {Q : List Value → Shared → Prop}, Fr h₀ L s.heap m → argsV m (envX cn cs L a ccd cl).kindOf es s.toks = some (vs, t) → Q vs { s with toks := t } → wpAny M A (spliced (backTo pos (starEach es (envX cn cs L a ccd cl)))) Q E s
  | [], s, vs, t, Q, _, h, q => by
    cases h
    exact args_nil q
  | e :: r, s, vs, t, Q, F, h, q => by
    unfold argsV at h
    split at h
    · rename_i v t1 h1
      split at h
      · rename_i vs' t2 h2
        cases h
        exact args_cons (argV_ok hk F h1 (argsV_ok (s := { s with toks := t1 }) hk F h2 q)) (argV_star _ h1)
      · cases h
    · cases h
theorem argsV_plain {pos : Pos} {env : Env} {kd : Str → Option NameKind} : ∀ {es : List Expr} {t : Tok} {x : List Value × Tok}, argsV m kd es t = some x → (backTo pos (starEach es env)).any (·.1) = false
  | [], _, _, _ => rfl
  | e :: r, t, x, h => by
    unfold argsV at h
    split at h
    · rename_i v t1 h1
      split at h
      · rename_i vs' t2 h2
        rw [argV_star env h1]
        exact argsV_plain (es := r) h2
      · cases h
    · cases h
/-- a call of a def of the text, its arguments plain: one step -/
theorem callS {s : Shared} {f : Str} {g : Addr} {e : Expr} {es : List Expr} {p1 pos : Pos} {vs : List Value} {t : Tok} {Q : Value → Shared → Prop} (F : Fr h₀ L s.heap m) (X : K.In h₀) (T : TopRead p loose mg mb h₀)
    (hf : nsIn K mainGlobals f = some (some (.ref g))) (hg : keepIn K (.ref g) = true) (hv : argsV m (envX cn cs L a ccd cl).kindOf (e :: es) s.toks = some (vs, t)) (h : wpAny M A (call (.ref g) vs) Q E { s with toks := t })
    (hk : cs.kind = .function) (hx : (envX cn cs L a ccd cl).kindOf f = some .globalImplicit) (hd : (f == ("__debug__" : Str)) = false) :
    wpAny M A (eval (.Call (.Name f p1) (e :: es) [] pos) (envX cn cs L a ccd cl)) Q E s := by
  have hs : starEach (e :: es) (envX cn cs L a ccd cl) = (false, eval e (envX cn cs L a ccd cl)) :: starEach es (envX cn cs L a ccd cl) := by
    unfold argsV at hv
    split at hv
    · rename_i h1
      exact argV_star _ h1
    · cases hv
  have hp : (backTo pos (starEach es (envX cn cs L a ccd cl))).any (·.1) = false := by
    have := argsV_plain (pos := pos) (env := envX cn cs L a ccd cl) hv
    rw [hs] at this
    exact this
  exact Call_ (nameX_K F X T hf (callWith_K X hg (argsV_ok (pos := pos) hk F hv ⟨X.keeps F.keep, h⟩) hs hp) hk hx hd)
/-- len of a plain argument -/
theorem lenS {prog : Program} {w : World} {s : Shared} {e : Expr} {p1 pos : Pos} {l : Addr} {us : List Value} {ns : List Int} {t : Tok} {Q : Value → Shared → Prop} (F : Fr h₀ L s.heap m) (X : K.In h₀) (T : TopRead p loose mg mb h₀)
    (hf : nsIn K mainGlobals ("len" : Str) = some none) (hv : argsV m (envX cn cs L a ccd cl).kindOf [e] s.toks = some ([.ref l], t)) (hl : s.heap.IsList l us.toArray) (hi : IntsAre us ns) (hfit : ns.length < 2 ^ 62)
    (h : Q (.int (ns.length : Nat) (t + 1)) { s with toks := t + 1 + 1 })
    (hk : cs.kind = .function) (hx : (envX cn cs L a ccd cl).kindOf ("len" : Str) = some .globalImplicit) :
    wpAny (model prog w) A (eval (.Call (.Name ("len" : Str) p1) [e] [] pos) (envX cn cs L a ccd cl)) Q E s := by
  have hs : starEach [e] (envX cn cs L a ccd cl) = (false, eval e (envX cn cs L a ccd cl)) :: starEach [] (envX cn cs L a ccd cl) := by
    unfold argsV at hv
    split at hv
    · rename_i h1
      exact argV_star _ h1
    · cases hv
  exact Call_ (nameX_B F X T hf boot_len (by decide) (callWith_builtin1 (argsV_ok (pos := pos) hk F hv (len_ints_fit (s := { s with toks := t }) hl hi hfit h)) hs rfl) hk hx (by decide))
end
section
variable {prog : Program} {w : World} {M : Model} {A : Around} {E : Value → Shared → Prop} {K : Frag} {h₀ sh : Heap} {gg : Array GenState} {dd : Drawn} {tk : Nat} {oo : OsState} {L a : Addr} {m mg mb : Str → Option Value} {cn : Str} {cs : Scope} {ccd : Value} {cl : List (Str × Addr)} {p : Program} {loose : List Str} {news : List (Addr × Obj)}
theorem callF {f : Str} {g : Addr} {e : Expr} {es : List Expr} {p1 pos : Pos} {vs : List Value} {t : Tok} {Q : Value → Shared → Prop} (F : Fr h₀ L sh m) (X : K.In h₀) (T : TopRead p loose mg mb h₀)
    (hf : nsIn K mainGlobals f = some (some (.ref g))) (hg : keepIn K (.ref g) = true) (hv : argsV m (envX cn cs L a ccd cl).kindOf (e :: es) tk = some (vs, t)) (h : wpAny M A (call (.ref g) vs) Q E ⟨sh, gg, dd, t, oo⟩)
    (hk : cs.kind = .function) (hx : (envX cn cs L a ccd cl).kindOf f = some .globalImplicit) (hd : (f == ("__debug__" : Str)) = false) :
    wpAny M A (eval (.Call (.Name f p1) (e :: es) [] pos) (envX cn cs L a ccd cl)) Q E ⟨sh, gg, dd, tk, oo⟩ := callS (s := ⟨sh, gg, dd, tk, oo⟩) F X T hf hg hv h hk hx hd
theorem lenF {e : Expr} {p1 pos : Pos} {l : Addr} {us : List Value} {ns : List Int} {t : Tok} {Q : Value → Shared → Prop} (F : Fr h₀ L sh m) (X : K.In h₀) (T : TopRead p loose mg mb h₀)
    (hf : nsIn K mainGlobals ("len" : Str) = some none) (hv : argsV m (envX cn cs L a ccd cl).kindOf [e] tk = some ([.ref l], t)) (hl : sh.IsList l us.toArray) (hi : IntsAre us ns) (hfit : ns.length < 2 ^ 62)
    (h : Q (.int (ns.length : Nat) (t + 1)) ⟨sh, gg, dd, t + 1 + 1, oo⟩)
    (hk : cs.kind = .function) (hx : (envX cn cs L a ccd cl).kindOf ("len" : Str) = some .globalImplicit) :
    wpAny (model prog w) A (eval (.Call (.Name ("len" : Str) p1) [e] [] pos) (envX cn cs L a ccd cl)) Q E ⟨sh, gg, dd, tk, oo⟩ := lenS (s := ⟨sh, gg, dd, tk, oo⟩) F X T hf hv hl hi hfit h hk hx
theorem storeF {x : Str} {v : Value} {Q : Unit → Shared → Prop} (F : Fr h₀ L sh m) (N : News h₀ L sh news)
    (h : ∀ h' tk', Fr h₀ L h' (fun y => if y = x then some v else m y) → News h₀ L h' news → Q () ⟨h', gg, dd, tk', oo⟩)
    (hk : cs.kind = .function) (hx : (envX cn cs L a ccd cl).kindOf x = some .local) : wpAny M A (storeName (envX cn cs L a ccd cl) x v) Q E ⟨sh, gg, dd, tk, oo⟩ :=
  storeX_L (s := ⟨sh, gg, dd, tk, oo⟩) F N (fun h' => h h' _) hk hx
end
/-- the names of a frame, one by one -/
theorem kall0 {m : Str → Option Value} : ∀ p ∈ ([] : List (Str × Value)), m p.1 = some p.2 := fun _ h => nomatch h
theorem kall1 {m : Str → Option Value} {x : Str} {v : Value} {r : List (Str × Value)} (h : m x = some v) (t : ∀ p ∈ r, m p.1 = some p.2) : ∀ p ∈ (x, v) :: r, m p.1 = some p.2 := fun p hp => by
  rcases List.mem_cons.mp hp with rfl | hp
  · exact h
  · exact t p hp
theorem sz_lit {n : Nat} (h : Nat.ble n 1000 = true) : n ≤ sizeLine := Nat.le_trans (Nat.le_of_ble_eq_true h) (by decide)

local macro_rules | `(tactic| walk_at $s:str) => `(tactic| k_extra $s)
local macro_rules | `(tactic| mul_fits) => `(tactic| exact Bd.mulOk (by walk_at "M.bd") (by walk_at "M.bd") (by decide) (by decide))
local macro_rules | `(tactic| k_all) => `(tactic| (refine' (List.forall_mem_append).mpr ⟨?a, ?b⟩; (case a => k_all); (case b => k_all)))
local macro_rules | `(tactic| k_mem) => `(tactic| assumption)
local macro_rules | `(tactic| ktr_room) => `(tactic| first | decide | exact room1 (by with_reducible assumption) rfl | exact room0 (by with_reducible assumption))
local macro_rules | `(tactic| ktr_units) => `(tactic| first | decide | exact units1 (by with_reducible assumption) rfl | exact units0 (by with_reducible assumption) rfl)
local macro_rules | `(tactic| kst_all) => `(tactic| walk_at "M.names")
theorem rows_0 : True := by
  k_with "M.enter" => (first
    | (refine' pc_defF ?qqk1 ?qqk2 ?qqk3 ?qqk5 ?qqkA ?qqkF ?qqkK ?qqk6 ?qqk7 ?qqk8 ?qqk9 ?qqkB ?_ ?qqc2 ?qqc3 ?qqc4 ?qqc5; (case qqkA => exact rfl); (case qqkF => exact rfl); (case qqkK => assumption); (case qqk1 => k_asm); (case qqk2 => k_asm); (case qqk3 => k_asm); (case qqk5 => k_asm); (case qqk6 => k_is); (case qqk7 => k_is); (case qqk8 => ktr_room); (case qqk9 => exact BindsTo.of_eq rfl); (case qqc5 => decide); (case qqkB => exact locs rfl); (case qqc2 => exact rfl); (case qqc3 => exact rfl); (case qqc4 => exact rfl); k_whole; intro _ _ _ _ _ _ _ _; (try dsimp only); (try k_fold); walk_say "M.enter")
    | (refine' pc_defCF ?qqk1 ?qqk2 ?qqk3 ?qqk5 ?qqkA ?qqkF ?qqkK ?qqk6 ?qqk7 ?qqk8 ?qqk9 ?qqkB ?qqkD ?_ ?qqc2 ?qqc3 ?qqc4; (case qqkA => exact rfl); (case qqkF => exact rfl); (case qqkK => assumption); (case qqk1 => k_asm); (case qqk2 => k_asm); (case qqk3 => k_asm); (case qqk5 => k_asm); (case qqk6 => k_is); (case qqk7 => k_is); (case qqk8 => ktr_room); (case qqk9 => exact BindsTo.of_eq rfl); (case qqkB => exact rfl); (case qqkD => decide +kernel); (case qqc2 => exact rfl); (case qqc3 => exact rfl); (case qqc4 => exact rfl); k_whole; intro _ _ _ _ _ N' Y' B' _ _; k_cells Y'; (try simp only [List.cons_append, List.nil_append, List.append_nil] at N'); (try dsimp only); (try k_lift B'); (try k_fold); walk_say "M.enter"))
  k_with "M.guard" => (
    (fail_if_success (with_reducible show wpAny _ _ (exec (Stmt.While _ _ _ _) _) _ _ _));
    (fail_if_success (with_reducible show wpAny _ _ (pyIter _) (fun it s₂ => LoopAtV _ _ _ _ _ _ _ _ _ it s₂) _ _));
    (fail_if_success (with_reducible show wpAny _ _ (pyIter _) (fun it s₂ => PairAt3 _ _ _ _ _ _ _ _ _ _ it s₂) _ _));
    (fail_if_success (with_reducible show LoopStep3 _ _ _ _ _ _ _ _ _ _));
    (fail_if_success (with_reducible show InvEndN _ _ _ _ _ _ _));
    (fail_if_success (with_reducible show KswEnd _ _ _ _ _ _ _ _ _ _ _ _)))
  k_with "M.steps" => repeat' (first | (k_unfold; (try dsimp only)) | ((walk_at "M.guard"); walk1) | (dsimp only; (walk_at "M.guard"); walk1) | (leave1; walk_say "STEP leave1"; (try dsimp only)) | fail "no step")
  k_with "M.use" => ((case qqk1 => k_asm); (case qqk2 => k_asm); (case qqk3 => k_asm); (case qqk4 => k_asm); (case qqk5 => k_asm); (case qqkK => first | exact rfl | assumption); (case qqkd => ktr_room); (case qqku => ktr_units))
  k_with "M.same" => (intro z hx h2 h3; simp only [List.forall_mem_cons, List.not_mem_nil, false_implies, implies_true, and_true, ne_eq] at hx h2; first | rfl | (simp [hx, h2]; done))
  k_with "M.bd" => first | with_reducible assumption | assumption | exact BdL.of (by assumption) (by assumption)
  k_with "M.same2" => (intro z h2 h3; simp only [List.forall_mem_cons, List.not_mem_nil, false_implies, implies_true, and_true, ne_eq] at h2; first | rfl | (simp [h2]; done))
  k_with "M.len" => (first | with_reducible assumption | assumption | (simp only [List.length_map, List.length_range, List.length_append, List.length_replicate, List.length_cons, List.length_nil]; omega) | omega)
  k_with "M.ints" => first | with_reducible assumption | assumption | exact .cons _ _ .nil | exact .nil | exact .cons _ _ (.cons _ _ .nil)
  k_with "M.AL" => first
    | (with_reducible assumption)
    | exact AL.news (by assumption) (by k_mem) (by walk_at "M.ints") (by walk_at "M.len")
    | exact ⟨_, stays_list (Fr.keep (by assumption)) (by assumption), by walk_at "M.ints", by walk_at "M.len"⟩
  k_with "M.hyp" => first | with_reducible assumption | assumption | exact And.left (by assumption) | exact And.right (by assumption)
  k_with "M.pre" => first | (with_reducible assumption) | (with_reducible exact trivial) | ((with_reducible refine And.intro ?_ ?_) <;> walk_at "M.pre") | (walk_at "M.AL") | (walk_at "M.hyp") | (walk_at "M.len")
  k_with "binaryOp FloorDiv int int" => ((with_reducible refine floordiv_int ?qqkbe ?_ (Or.inl ?qqkbp)); (case qqkbe => first | assumption | decide); (case qqkbp => first | exact Bd.noPy (by assumption) | exact PyProof.noPylong_of_log2 (by decide +kernel)))
  k_with "M.same3" => (intro z h3; simp only [List.contains_cons, List.contains_nil, Bool.or_false, Bool.or_eq_false_iff, beq_eq_false_iff_ne, ne_eq] at h3; first | rfl | (simp [h3]; done))
  k_with "binaryOp Pow int int" => ((with_reducible refine' pow_any ?qqpa ?qqpb ?qqpc ?_); (case qqpc => assumption); (case qqpb => assumption); (case qqpa => assumption))
  k_with "M.same4" => (intro z h2 h3; simp only [List.forall_mem_cons, List.not_mem_nil, false_implies, implies_true, and_true, ne_eq] at h2; simp only [List.contains_cons, List.contains_nil, Bool.or_false, Bool.or_eq_false_iff, beq_eq_false_iff_ne, ne_eq] at h3; first | rfl | (simp [h2, h3]; done))
  k_with "M.isL" => first | exact stays_list (Fr.keep (by assumption)) (by assumption) | exact PySem.IsL.isList (News.get (by assumption) (by k_mem)) | exact ⟨_, News.get (by assumption) (by k_mem), rfl, _, rfl⟩
  k_with "compareOp Eq ref ref" => (k_here; (with_reducible show wpAny _ _ (compareOp CmpOp.Eq (Value.ref _) (Value.ref _)) _ _ _); k_dflt (refine' eq_intsK ?qqk1 ?qqk2 ?qqk3 ?qqk4 ?qqk5 ?_; (case qqk1 => walk_at "M.isL"); (case qqk3 => walk_at "M.isL"); (case qqk2 => walk_at "M.ints"); (case qqk4 => walk_at "M.ints"); (case qqk5 => ktr_units); k_whole))
  k_with "compareOp NotEq ref ref" => (k_here; (with_reducible show wpAny _ _ (compareOp CmpOp.NotEq (Value.ref _) (Value.ref _)) _ _ _); k_dflt (refine' ne_intsK ?qqk1 ?qqk2 ?qqk3 ?qqk4 ?qqk5 ?_; (case qqk1 => walk_at "M.isL"); (case qqk3 => walk_at "M.isL"); (case qqk2 => walk_at "M.ints"); (case qqk4 => walk_at "M.ints"); (case qqk5 => ktr_units); k_whole))
  k_with "call builtin:len" => (k_here; (with_reducible show wpAny _ _ (call (Value.builtin "len") [Value.ref _]) _ _ _); k_dflt (refine' len_ints_fit ?qqk1 ?qqk2 ?qqk3 ?_; (case qqk1 => walk_at "M.isL"); (case qqk2 => walk_at "M.ints"); (case qqk3 => omega); k_whole))
  k_with "subscriptTail" => (k_here; (with_reducible show wpAny _ _ (subscriptTail _ _ (Value.ref _) (Value.int _ _)) _ _ _); k_dflt (refine' item_anyK ?qqk1 ?qqk2 ?qqk3 ?qqk4 ?qqk5 ?_ ?qqk6; (case qqk1 => walk_at "M.isL"); (case qqk2 => walk_at "M.ints"); (case qqk3 => omega); (case qqk4 => omega); (case qqk5 => omega); (case qqk6 => with_unfolding_all rfl); k_whole); intro _)
  k_with "M.off" => first | with_reducible exact offA | exact off1 | exact off2 | exact off3 | exact off0 | exact off4 | exact offS (by walk_at "M.off") | exact fun _ h => h
  k_with "call ref" => (k_here; (with_reducible show wpAny _ _ (call (Value.ref _) _) _ _ _); walk_at "M.call")
  k_with "eval Call" => (k_here; (fail_if_success (with_reducible show wpAny _ _ (eval _ (compEnvC _ _ _ _)) _ _ _)); (with_reducible show wpAny _ _ (eval (Expr.Call (Expr.Name _ _) (_ :: _) [] _) _) _ _ _); k_dflt (refine' callF ?qqF ?qqX ?qqT ?qqe ?qqg ?qqv ?_ ?qqa ?qqb ?qqc; (case qqF => k_asm); (case qqv => exact rfl); (case qqX => k_asm); (case qqT => k_asm); (case qqe => k_is); (case qqg => k_is); (case qqa => rfl); (case qqb => rfl); (case qqc => decide); k_whole))
  k_with "eval Call" => (k_here; (fail_if_success (with_reducible show wpAny _ _ (eval _ (compEnvC _ _ _ _)) _ _ _)); (with_reducible show wpAny _ _ (eval (Expr.Call (Expr.Name (Str.ofString "len") _) [_] [] _) _) _ _ _); k_dflt (refine' lenF ?qqF ?qqX ?qqT ?qqe ?qqv ?qqk1 ?qqk2 ?qqk3 ?_ ?qqa ?qqb; (case qqF => k_asm); (case qqX => k_asm); (case qqT => k_asm); (case qqe => k_is); (case qqa => rfl); (case qqb => rfl); (case qqv => exact rfl); (case qqk1 => walk_at "M.isL"); (case qqk2 => walk_at "M.ints"); (case qqk3 => first | exact Nat.lt_trans (by assumption) (by decide) | omega); k_whole))
  k_with "storeName" => (k_here; k_dflt (refine' storeF ?qqF ?qqN ?_ ?qqa ?qqb; (case qqF => k_asm); (case qqN => k_asm); (case qqa => rfl); (case qqb => rfl); k_whole; intro _ _ _ _; (try dsimp only); (try k_sweep)))
  k_with "M.enterE" => (refine' code_defEF ?qqk1 ?qqk2 ?qqk3 ?qqk4 ?qqk5 ?qqkA ?qqkF ?qqkK ?qqk6 ?qqk7 ?qqk8 ?qqk9 ?qqkB ?_ ?qqc2 ?qqc3 ?qqc4 ?qqc5; (case qqkA => exact rfl); (case qqkF => exact rfl); (case qqkK => assumption); (case qqk1 => k_asm); (case qqk2 => k_asm); (case qqk3 => k_asm); (case qqk4 => k_asm); (case qqk5 => k_asm); (case qqk6 => k_is); (case qqk7 => k_is); (case qqk8 => ktr_room); (case qqk9 => exact BindsTo.of_eq rfl); (case qqc5 => decide); (case qqkB => exact locs rfl); (case qqc2 => exact rfl); (case qqc3 => exact rfl); (case qqc4 => exact rfl); k_whole; intro _ _ _ _ _ _ _ _ _ _; (try dsimp only); (try k_fold))
  k_with "M.names" => first | exact kall0 | (refine kall1 (by with_unfolding_all rfl) ?_; walk_at "M.names")
  k_with "newList" => (k_here; k_dflt (refine' newList_K ?qqk1 ?qqk2 ?_ ?qqsz; (case qqk1 => k_asm); (case qqk2 => k_asm); (case qqsz => exact sz_lit rfl); k_whole); intro _ _ _ _ _; rename_i qql; (try k_lt qql); (try k_sweep); (try (revert qql; intro _)))
  trivial
section
theorem set_head {prog : Program} {w : World} {A : Around} {E : Value → Shared → Prop} {s : Shared} {h₀ : Heap} {L la : Addr} {m : Str → Option Value} {news : List (Addr × Obj)} {its its' : Array Value} {n : Nat} {k : Int} {t : Tok} {v : Value} {Q : Unit → Shared → Prop}
    (F : Fr h₀ L s.heap m) (N : News h₀ L s.heap ((la, listOf its n) :: news)) (hne : ∀ p ∈ news, p.1 ≠ la) (e : its.setIfInBounds k.toNat v = its') (h0 : 0 ≤ k) (hfit : k < 2 ^ 63) (hn : k < its.size)
    (h : ∀ h', Fr h₀ L h' m → News h₀ L h' ((la, listOf its' n) :: news) → Q () { s with heap := h' }) : wpAny (model prog w) A (setItem (.ref la) (.int k t) v) Q E s := by
  have z := N (la, listOf its n) (.head _)
  refine ki_setAt z.1 h0 hfit hn (h _ (F.change (Heap.SameBut.update ..) z.2.1 z.2.2) (ki_turn (pre := []) (fun x => x.setIfInBounds k.toNat v) N (fun _ h => nomatch h) hne e ?_))
  rw [← e]; simp
theorem fmod_range {x k : Int} (hk : 1 ≤ k) : 0 ≤ x.fmod k ∧ x.fmod k < k := by
  rw [Int.fmod_eq_emod_of_nonneg _ (by omega)]
  exact ⟨Int.emod_nonneg _ (by omega), Int.emod_lt_of_pos _ (by omega)⟩
theorem rows2_draw : True := by
  k_with "subscriptTail" => (k_here; (with_reducible show wpAny _ _ (subscriptTail (PySem.Expr.Tuple _ _ _) _ (Value.ref _) (Value.int _ _)) _ _ _); k_dflt (refine' item_anyT (ns := [0, 3, 3, 5, 2, 3, 0, 2, 3, 1]) ?qqk1 ?qqk2 ?qqk3 ?qqk4 ?qqk5 ?_; (case qqk1 => exact News.isTup (by k_asm) (by k_mem)); (case qqk2 => exact .cons _ _ (.cons _ _ (.cons _ _ (.cons _ _ (.cons _ _ (.cons _ _ (.cons _ _ (.cons _ _ (.cons _ _ (.cons _ _ .nil)))))))))); (case qqk3 => exact (fmod_range (by decide)).1); (case qqk4 => exact (fmod_range (by decide)).2); (case qqk5 => exact Int.lt_trans (fmod_range (by decide)).2 (by decide)); k_whole); intro _)
  trivial
theorem draw_t (w : World) (mean : ExcName → Option Value) (mg mb : Str → Option Value) (la lb : Addr) (spot : Int) (ts : Tok) (k : Int) (tk₀ : Tok) (ns : List Int) (us : List Value) (n1 n2 : Nat) (news : List (Addr × Obj))
    (dp un : Nat) (gd : Option (List Code)) (cn : Str) (cs : Scope) (a : Addr) (ccd : Value) (cl : List (Str × Addr)) (outer : List Env) (A₀ : Around) (base h₀ : Heap) (L : Addr) (m : Str → Option Value) (sh : Heap) (gg : Array GenState) (dd : Drawn) (tk : Nat) (oo : OsState) (Q E : Value → Shared → Prop)
    (B : Below A₀ base outer h₀) (F : Fr h₀ L sh m) (X : (hd.heap_1 w.params).In h₀) (N : News h₀ L sh ((la, listOf #[.ref lb, .int spot ts] n1) :: news)) (T : Top hd.view_1 (looseW hd.view_1 []) mean mg mb h₀) (hk : cs.kind = .function) (hdp : dp + 1 < recursionLimit) (hun : un + 8 * 1 + 100 < cLine)
    (hne : ∀ p ∈ news, p.1 ≠ la) (hm2 : (lb, listOf us.toArray n2) ∈ news) (hi : IntsAre us ns) (hl1 : ns.length < 2 ^ 20) (h0 : 0 ≤ spot) (h1 : spot < 100) (hk0 : 1 ≤ k) (hk1 : k ≤ 9)
    (hret : ∀ x t t2 h' tk', 0 ≤ x → x < k → Fr h₀ L h' m → News h₀ L h' ((la, listOf #[.ref lb, .int (spot + 1) t2] n1) :: news) → Q (.int x t) ⟨h', gg, dd, tk', oo⟩) :
    wpAny (model Challenge.rw_xm0142_01.row.prog w) (ktrTop dp un gd cn cs L a ccd cl outer) (call (.ref 239) [.ref la, .int k tk₀]) Q E ⟨sh, gg, dd, tk, oo⟩ := by
  revert X; k_fill; intro X
  refine wpAny_noRaise ?_
  refine wpAny_call ?_
  k_dflt walk_at "M.enterE"
  walk_at "M.steps"
  refine set_head (its' := #[.ref lb, .int (spot + 1) _]) (by assumption) (by assumption) hne rfl (by decide) (by decide) (by show (1 : Int) < 2; decide) fun h₉ F₉ N₉ => ?_
  dsimp only
  walk_at "M.steps"
  · exact hret _ _ _ _ _ (fmod_range hk0).1 (fmod_range hk0).2 (by assumption) (kst_newsOf (by assumption) fun p hp => hp)
  · exact hret _ _ _ _ _ (fmod_range hk0).1 (fmod_range hk0).2 (by assumption) (kst_newsOf (by assumption) fun p hp => .tail _ hp)
theorem draw_c (w : World) (mean : ExcName → Option Value) (mg mb : Str → Option Value) (la lb : Addr) (spot : Int) (ts : Tok) (k : Int) (tk₀ : Tok) (ns : List Int) (us : List Value) (n1 n2 : Nat) (news : List (Addr × Obj)) (g : Obj → List (Addr × Obj))
    (dp un : Nat) (gd : Option (List Code)) (cn : Str) (cs : Scope) (a : Addr) (ccd : Value) (cl : List (Str × Addr)) (outer : List Env) (A₀ : Around) (base h₀ : Heap) (L : Addr) (m : Str → Option Value) (sh : Heap) (gg : Array GenState) (dd : Drawn) (tk : Nat) (oo : OsState) (Q E : Value → Shared → Prop)
    (B : Below A₀ base outer h₀) (F : Fr h₀ L sh m) (X : (hd.heap_1 w.params).In h₀) (N : News h₀ L sh news) (T : Top hd.view_1 (looseW hd.view_1 []) mean mg mb h₀) (hk : cs.kind = .function) (hdp : dp + 1 < recursionLimit) (hun : un + 8 * 1 + 100 < cLine)
    (U : UpdF la (listOf #[.ref lb, .int spot ts] n1) news g) (hm2 : (lb, listOf us.toArray n2) ∈ news) (hi : IntsAre us ns) (hl1 : ns.length < 2 ^ 20) (h0 : 0 ≤ spot) (h1 : spot < 100) (hk0 : 1 ≤ k) (hk1 : k ≤ 9) (hll : @Ne Nat lb la)
    (hret : ∀ x t t2 h' tk', 0 ≤ x → x < k → Fr h₀ L h' m → News h₀ L h' (g (listOf #[.ref lb, .int (spot + 1) t2] n1)) → Q (.int x t) ⟨h', gg, dd, tk', oo⟩) :
    wpAny (model Challenge.rw_xm0142_01.row.prog w) (ktrTop dp un gd cn cs L a ccd cl outer) (call (.ref 239) [.ref la, .int k tk₀]) Q E ⟨sh, gg, dd, tk, oo⟩ := by
  obtain ⟨own, rest, rfl, hg, h2, h3⟩ := U.split
  have hmem : ∀ {o : Obj}, ∀ p ∈ own ++ (la, o) :: rest, p = (la, o) ∨ p ∈ own ++ rest := by
    intro o p hp
    rcases List.mem_append.mp hp with hp | hp
    · exact .inr (List.mem_append.mpr (.inl hp))
    · rcases List.mem_cons.mp hp with rfl | hp
      · exact .inl rfl
      · exact .inr (List.mem_append.mpr (.inr hp))
  refine draw_t w mean mg mb la lb spot ts k tk₀ ns us n1 n2 (own ++ rest) dp un gd cn cs a ccd cl outer A₀ base h₀ L m sh gg dd tk oo Q E B F X (kst_newsOf N ?_) T hk hdp hun ?_ ?_ hi hl1 h0 h1 hk0 hk1 ?_
  · intro p hp
    rcases List.mem_cons.mp hp with rfl | hp
    · exact List.mem_append.mpr (.inr (.head _))
    · rcases List.mem_append.mp hp with hp | hp
      · exact List.mem_append.mpr (.inl hp)
      · exact List.mem_append.mpr (.inr (.tail _ hp))
  · intro p hp
    rcases List.mem_append.mp hp with hp | hp
    · exact h2 p hp
    · exact h3 p hp
  · rcases hmem _ hm2 with e | e
    · exact absurd (congrArg Prod.fst e) hll
    · exact e
  · intro x t t2 h' tk' hx0 hx1 F' N'
    refine hret x t t2 h' tk' hx0 hx1 F' ?_
    rw [hg]
    refine kst_newsOf N' fun p hp => ?_
    rcases hmem _ hp with rfl | e
    · exact .head _
    · exact .tail _ e

end
theorem rows_draw : True := by
  k_with "M.call" => ((with_reducible show wpAny _ _ (call (Value.ref 239) _) _ _ _); k_dflt (refine' draw_c _ _ _ _ _ _ _ _ _ _ _ _ _ _ _ _ _ _ _ _ _ _ _ _ _ _ _ _ _ _ _ _ _ _ _ _ _ ?qqk1 ?qqk2 ?qqk3 ?qqk4 ?qqk5 ?qqkK ?qqkd ?qqku ?qqp1 ?qqp2 ?qqp3 ?qqp4 ?qqp5 ?qqp6 ?qqp7 ?qqp8 ?qqp9 ?_; (walk_at "M.use"); (case qqp1 => k_updF); (case qqp2 => k_mem); (case qqp3 => walk_at "M.ints"); (case qqp4 => walk_at "M.len"); (case qqp5 => first | assumption | decide | omega +splitDisjunctions); (case qqp6 => first | assumption | decide | omega +splitDisjunctions); (case qqp7 => first | assumption | decide | omega +splitDisjunctions); (case qqp8 => first | assumption | decide | omega +splitDisjunctions); (case qqp9 => first | assumption | (refine neN ?_; omega)); k_whole; intro _ _ _ _ _ _ _ _ _; (try k_sweep)))
  trivial
section
/-- a for over a range, its ends letters, all names forgotten but ps -/
theorem m_rangeF {prog : Program} {w : World} {A : Around} {E : Value → Shared → Prop} {Q : Flow → Shared → Prop} {sh : Heap} {gg : Array GenState} {dd : Drawn} {tk₀ : Nat} {oo : OsState} {env : Env} {h₀ : Heap} {σ : Type} {x : Str} {body : List Stmt} {r : Addr} {a₀ b₀ : Int} {t₀ u₀ v₀ : Tok} {n : Nat} {m₀ : Str → Option Value} {N₀ : List (Addr × Obj)}
    (Led : σ → List (Addr × Obj)) (ps : σ → List (Str × Value)) (P : Nat → σ → Prop) (c₀ : σ)
    (hh : A.handled = none) (hr : IsRange sh r a₀ b₀ 1 t₀ u₀ v₀) (hsmall : Builtin.Range.small a₀ b₀ 1 = true) (hn : Builtin.Range.rangeSize a₀ b₀ 1 = (n : Int)) (F : Fr h₀ env.locals sh m₀) (NB : News h₀ env.locals sh N₀) (hN : ∀ p ∈ Led c₀, p ∈ N₀)
    (hL : ∀ c, ∀ p ∈ Led c, p ∈ N₀ ∨ ∃ v k, p.2 = listOf v k) (hk : ∀ p ∈ ps c₀, m₀ p.1 = some p.2) (hp : P 0 c₀)
    (turn : ∀ (i : Nat) (c : σ) (t : Tok) (u : Str → Option Value) (h : Heap) (tk : Nat) (own : List (Addr × Obj)) (Qb : Flow → Shared → Prop),
      (∀ (c' : σ) {h' : Heap} {tk' : Nat} {m' : Str → Option Value} {news' : List (Addr × Obj)}, Fr h₀ env.locals h' m' → News h₀ env.locals h' news' → (∀ p ∈ ps c', m' p.1 = some p.2) → (∀ p ∈ Led c', p ∈ news') → (∀ p ∈ own, p ∈ news') → P (i + 1) c' → Qb .next ⟨h', gg, dd, tk', oo⟩) →
      (∀ v s', Q (.ret v) s' → Qb (.ret v) s') → i < n → P i c → (∀ p ∈ own, ∀ q ∈ N₀, @Ne Nat p.1 q.1) →
      Fr h₀ env.locals h (fun y => if y = x then some (.int (a₀ + (i : Int)) t) else kstB u (ps c) y) → News h₀ env.locals h (Led c ++ own) →
      wpAny (model prog w) A (execs body env) Qb E ⟨h, gg, dd, tk, oo⟩)
    (done : ∀ (c : σ) (u : Str → Option Value) (h : Heap) (tk : Nat), P n c → Fr h₀ env.locals h (kstB u (ps c)) → News h₀ env.locals h (Led c) → Q .next ⟨h, gg, dd, tk, oo⟩) :
    wpAny (model prog w) A (pyIter (.ref r)) (fun it s₂ => LoopAtV prog w A h₀ env x body Q E it s₂) E ⟨sh, gg, dd, tk₀, oo⟩ := by
  refine wpAny_pyIter_range (s := ⟨sh, gg, dd, tk₀, oo⟩) hr hsmall ?_
  have N := kst_newsOf NB hN
  have W : Walks prog w A sh.objs.size [sh.objs.size] [sh.objs.size] n (fun i v => ∃ t, v = .int (a₀ + i * 1) t)
      (fun i h => IsRangeIter h sh.objs.size (a₀ + (i : Nat) * 1) ((n : Int) - (i : Nat)) 1) := Walks.range hh _ a₀ 1 n
  refine ⟨sh.objs.size, _, _, n, _, _, m₀, Led c₀, fun i m nx => ∃ c, nx = Led c ∧ (∀ p ∈ ps c, m p.1 = some p.2) ∧ P i c, rfl, W, ?_, ?_, ?_, ?_, F.push _, fun p hp => ⟨Heap.get?_push_of_some _ (N p hp).1, (N p hp).2⟩, ⟨c₀, rfl, hk, hp⟩, ?_, ?_⟩
  · intro hm
    exact absurd F.ns.lt ((List.mem_singleton.mp hm) ▸ Nat.lt_irrefl _)
  · intro b hb
    rw [List.mem_singleton.mp hb]
    exact next_is_new F
  · intro p hp hI
    exact absurd (Heap.lt_size (N p hp).1) ((List.mem_singleton.mp hI) ▸ Nat.lt_irrefl _)
  · show IsRangeIter _ _ _ _ _
    rw [hn]; simpa using Heap.get?_push_size _ rfl
  · rintro i v m₁ news₁ s₁ own ⟨hh', tk', rfl⟩ hin ⟨t, rfl⟩ ⟨c, rfl, h1, hp'⟩ hoff hown _ hall hSt F₁ N₁
    rw [Int.mul_one] at F₁
    have hI := hall sh.objs.size (List.mem_singleton.mpr rfl) (next_is_new F) _ hSt
    have N₂ : News h₀ env.locals hh' (Led c ++ own) := fun p hp => N₁ p ((List.mem_append.mp hp).elim (fun h => List.mem_append.mpr (.inr h)) fun h => List.mem_append.mpr (.inl h))
    have e : m₁ = kstB m₁ (ps c) := (funext fun z => kstB_eq h1 fun _ => rfl).symm
    rw [e] at F₁
    refine turn i c t m₁ hh' tk' own _ (fun c' {h'} {tk₂} {m'} {news'} F' N' hk' hn' ho' hP' => .next ⟨rfl, h', tk₂, m', Led c', rfl, F', fun p hp => N' p ?_, fun p hp hq => ?_, c', rfl, hk', hP'⟩) (fun v s' q => .ret q) hin hp' (fun p hp q hq e => absurd (Heap.lt_size (NB q hq).1) (by rw [← e, List.mem_singleton.mp (hown p hp)]; exact Nat.lt_irrefl _)) F₁ N₂
    · exact (List.mem_append.mp hp).elim (ho' p) (hn' p)
    · rcases hL c' p hp with hin | ⟨v, k, e⟩
      · exact absurd (Heap.lt_size (NB p hin).1) ((List.mem_singleton.mp hq) ▸ Nat.lt_irrefl _)
      have g1 := (N' p (hn' p hp)).1
      have g2 := (N' _ (ho' _ hI)).1
      rw [List.mem_singleton.mp hq] at g1
      rw [g1, e] at g2
      have g3 := congrArg (fun o : Option Obj => o.map fun o => o.data) g2
      exact absurd (Option.some.inj g3) nofun
  · rintro h' tk m' news' F' N' _ ⟨c, rfl, h1, hp'⟩
    have e : m' = kstB m' (ps c) := (funext fun z => kstB_eq h1 fun _ => rfl).symm
    rw [e] at F'
    exact done c m' h' tk hp' F' N'

end
section
/-- a while whose ends are letters: what stands ahead and behind is not seen within a turn -/
theorem m_whileO {prog : Program} {w : World} {A : Around} {E : Value → Shared → Prop} {Q : Flow → Shared → Prop} {s : Shared} {env : Env} {h₀ : Heap} {L : Addr} {σ : Type} {test : Expr} {body : List Stmt} {pos : Pos} {m₀ : Str → Option Value} {news : List (Addr × Obj)}
    (Led : σ → List (Addr × Obj)) (ps : σ → List (Str × Value)) (P : σ → Prop) (μ : σ → Nat)
    (F : Fr h₀ L s.heap m₀) (N : News h₀ L s.heap news) (start : ∃ c₀, (∀ p ∈ ps c₀, m₀ p.1 = some p.2) ∧ (∀ p ∈ Led c₀, p ∈ news) ∧ P c₀)
    (turn : ∀ (c : σ) (u : Str → Option Value) h tk gg dd oo (Qb : Flow → Shared → Prop) (Qn : Shared → Prop),
      (∀ (c' : σ) {h' : Heap} {tk' : Nat} {m' : Str → Option Value} {news' : List (Addr × Obj)}, Fr h₀ L h' m' → News h₀ L h' news' → (∀ p ∈ ps c', m' p.1 = some p.2) → (∀ p ∈ Led c', p ∈ news') → P c' → μ c' < μ c → Qb .next ⟨h', gg, dd, tk', oo⟩) →
      (∀ v s', Q (.ret v) s' → Qb (.ret v) s') → (∀ h' tk', Q .next { s with heap := h', toks := tk' } → Qn ⟨h', gg, dd, tk', oo⟩) →
      P c → Fr h₀ L h (kstB u (ps c)) → News h₀ L h (Led c) →
      wpAny (model prog w) A (isTrue test env (eval test env)) (fun b s₂ => if b = true then wpAny (model prog w) A (execs body env) Qb E s₂ else Qn s₂) E ⟨h, gg, dd, tk, oo⟩)
    (hE : PassesOwn (model prog w) A env E) :
    wpAny (model prog w) A (exec (.While test body [] pos) env) Q E s := by
  obtain ⟨c₀, i1, i2, i3⟩ := start
  refine While_inv2 (fun n m nx => ∃ c : σ, nx = Led c ∧ μ c = n ∧ (∀ p ∈ ps c, m p.1 = some p.2) ∧ P c) F (kst_newsOf N i2) ⟨c₀, rfl, rfl, i1, i3⟩ ?_ hE
  rintro n m₁ nx h tk F₁ N₁ ⟨c, rfl, rfl, h1, hp'⟩
  have F₂ : Fr h₀ L h (kstB m₁ (ps c)) := by rw [show kstB m₁ (ps c) = m₁ from funext fun z => kstB_eq h1 fun _ => rfl]; exact F₁
  refine turn c m₁ h tk s.gens s.drawn s.os (WhileStep2 h₀ L s (fun n m nx => ∃ c : σ, nx = Led c ∧ μ c = n ∧ (∀ p ∈ ps c, m p.1 = some p.2) ∧ P c) Q (μ c)) (fun s' => Q .next s') ?_ (fun v s' q => q) (fun h' tk' q => q) hp' F₂ N₁
  intro c' h' tk' m' news' F' N' hk hn hp hm
  exact ⟨h', tk', m', Led c', μ c', rfl, F', fun p hp => N' p (hn p hp), hm, c', rfl, rfl, hk, hp⟩
/-- where the ways of a statement meet -/
noncomputable def MrgE {σ : Type} (h₀ : Heap) (L : Addr) (gg : Array GenState) (dd : Drawn) (oo : OsState) (ps : σ → List (Str × Value)) (led : List (Addr × Obj)) (fl : Flow) (s' : Shared) : Prop :=
  fl = .next ∧ ∃ h' tk' c u', s' = ⟨h', gg, dd, tk', oo⟩ ∧ Fr h₀ L h' (kstB u' (ps c)) ∧ News h₀ L h' led
/-- a statement whose ways meet -/
theorem if_merge {M : Model} {A : Around} {E : Value → Shared → Prop} {Q : Flow → Shared → Prop} {s : Shared} {env : Env} {st : Stmt} {h₀ h : Heap} {L : Addr} {m : Str → Option Value} {σ : Type} {gg dd oo} (F : Fr h₀ L h m) (ps : σ → List (Str × Value)) (led : List (Addr × Obj))
    (h1 : wpAny M A (exec st env) (MrgE h₀ L gg dd oo ps led) E s)
    (h2 : ∀ h' tk' c u', Fr h₀ L h' (kstB u' (ps c)) → News h₀ L h' led → Q .next ⟨h', gg, dd, tk', oo⟩) : wpAny M A (exec st env) Q E s :=
  wpAny_mono h1 (fun fl s' h => by obtain ⟨rfl, h', tk', c, u', rfl, F', N'⟩ := h; exact h2 h' tk' c u' F' N') fun _ _ x => x
theorem merge_end {h₀ h' : Heap} {L : Addr} {m' : Str → Option Value} {σ : Type} {gg dd oo} {tk' : Nat} {ps : σ → List (Str × Value)} {led news' : List (Addr × Obj)} (c : σ) (F : Fr h₀ L h' m') (N : News h₀ L h' news') (hk : ∀ p ∈ ps c, m' p.1 = some p.2) (hn : ∀ p ∈ led, p ∈ news') :
    MrgE h₀ L gg dd oo ps led .next ⟨h', gg, dd, tk', oo⟩ :=
  ⟨rfl, h', tk', c, m', rfl, by rw [show kstB m' (ps c) = m' from funext fun z => kstB_eq hk fun _ => rfl]; exact F, kst_newsOf N hn⟩

end
section
noncomputable def mulPart (a b : List Int) (i : Nat) : List Int := (List.range (a.length + b.length - 1)).map fun k => conv a b i k
noncomputable def mulPart2 (a b : List Int) (i j : Nat) : List Int := (List.range (a.length + b.length - 1)).map fun k => conv a b i k + (if i ≤ k ∧ k - i < j then a.getD i 0 * b.getD (k - i) 0 else 0)
theorem mulPart2_zero (a b : List Int) (i : Nat) : mulPart2 a b i 0 = mulPart a b i := by
  refine List.map_congr_left fun k _ => ?_
  rw [if_neg (by omega), Int.add_zero]
theorem mulPart2_end (a b : List Int) (i : Nat) : mulPart2 a b i b.length = mulPart a b (i + 1) := rfl
theorem mulPart_skip (a b : List Int) (i : Nat) (h : a.getD i 0 = 0) : mulPart a b (i + 1) = mulPart a b i := by
  refine List.map_congr_left fun k _ => ?_
  show conv a b i k + _ = _
  rw [h, Int.zero_mul]; split <;> omega
theorem mulPart2_step (a b : List Int) (i j : Nat) (hi : i < a.length) (hj : j < b.length) :
    (mulPart2 a b i j).set (i + j) ((mulPart2 a b i j).getD (i + j) 0 + a.getD i 0 * b.getD j 0) = mulPart2 a b i (j + 1) := by
  have hk : i + j < a.length + b.length - 1 := by omega
  refine List.ext_getElem? fun k => ?_
  have e1 : (mulPart2 a b i j).getD (i + j) 0 = conv a b i (i + j) := by
    unfold mulPart2
    rw [List.getD_eq_getElem?_getD, List.getElem?_map, List.getElem?_range hk]
    show conv a b i (i + j) + _ = _
    rw [if_neg (by omega), Int.add_zero]
  rw [e1, List.getElem?_set]
  by_cases hik : i + j = k
  · subst hik
    rw [if_pos rfl]
    unfold mulPart2
    rw [List.length_map, List.length_range, if_pos hk, List.getElem?_map, List.getElem?_range hk]
    show some _ = some (conv a b i (i + j) + _)
    rw [if_pos ⟨by omega, by omega⟩, Nat.add_sub_cancel_left]
  · rw [if_neg hik]
    unfold mulPart2
    rw [List.getElem?_map, List.getElem?_map]
    by_cases hkl : k < a.length + b.length - 1
    · rw [List.getElem?_range hkl]
      show some (_ + _) = some (_ + _)
      by_cases hc : i ≤ k ∧ k - i < j
      · rw [if_pos hc, if_pos ⟨hc.1, by omega⟩]
      · rw [if_neg hc, if_neg (by omega)]
    · rw [List.getElem?_eq_none (by simpa using hkl)]; rfl
theorem mulPart_start (a b : List Int) (v : Value) {t : Tok} (hv : v = .int 0 t) : IntsAre (List.replicate ((a.length : Int) + (b.length : Int) - 1).toNat [v]).flatten (mulPart a b 0) := by
  have e : ((a.length : Int) + (b.length : Int) - 1).toNat = a.length + b.length - 1 := by omega
  rw [e]
  unfold mulPart
  generalize a.length + b.length - 1 = n
  have e2 : (List.range n).map (fun k => conv a b 0 k) = List.replicate n 0 := by
    rw [List.eq_replicate_iff]; simp [conv]
  rw [e2, hv]
  clear e e2
  induction n with
  | zero => exact .nil
  | succ n ih => rw [List.replicate_succ, List.replicate_succ, List.flatten_cons]; exact .cons 0 t ih
/-- a for over enumerate of a list of ints that fills one list of ints: the ends of a turn are letters -/
theorem pairO {prog : Program} {w : World} {A : Around} {E : Value → Shared → Prop} {h₀ sh : Heap} {gg : Array GenState} {dd : Drawn} {tk : Nat} {oo : OsState} {L : Addr} {as : List Int} {xv : Value} {m₀ : Str → Option Value} {lf : Addr} {us : List Value} {nf : Nat} {zs : List Int} {g : List (Addr × Obj)} {env : Env} {xi xc : Str} {body : List Stmt} {Q : Flow → Shared → Prop}
    (SRC : PairSrcL prog w A E h₀ L ItemKind.int as xv ⟨sh, gg, dd, tk, oo⟩ m₀ ((lf, listOf us.toArray nf) :: g)) (he : env.locals = L) (stored : List Str) (S : Nat → List Int) (hi : IntsAre us zs) (hz : zs = S 0)
    (turn : ∀ (i : Nat) (x : Int) (t tx : Tok) (u : Str → Option Value) (us' : List Value) (own : List (Addr × Obj)) (h : Heap) (tk' : Nat) (Qb : Flow → Shared → Prop),
      (∀ {h' : Heap} {tk₂ : Nat} {m' : Str → Option Value} {u' : List Value} {z' : List Int}, Fr h₀ L h' m' → News h₀ L h' (((lf, listOf u'.toArray nf) :: g) ++ own) → (∀ z, stored.contains z = false → m' z = m₀ z) → IntsAre u' z' → z' = S (i + 1) → Qb .next ⟨h', gg, dd, tk₂, oo⟩) →
      as[i]? = some x → IntsAre us' (S i) → OwnOff own (((lf, listOf us'.toArray nf) :: g).map (·.1)) →
      Fr h₀ L h (fun y => if y = xc then some (.int x tx) else if y = xi then some (.int (i : Int) t) else if stored.contains y = true then u y else m₀ y) → News h₀ L h (((lf, listOf us'.toArray nf) :: g) ++ own) →
      wpAny (model prog w) A (execs body env) Qb E ⟨h, gg, dd, tk', oo⟩)
    (done : ∀ (h : Heap) (tk' : Nat) (u : Str → Option Value) (us' : List Value), Fr h₀ L h (fun y => if stored.contains y = true then u y else m₀ y) → News h₀ L h ((lf, listOf us'.toArray nf) :: g) → IntsAre us' (S as.length) → Q .next ⟨h, gg, dd, tk', oo⟩) :
    wpAny (model prog w) A (pyIter xv) (fun it s₂ => PairAt3 prog w A h₀ env xi xc body Q E it s₂) E ⟨sh, gg, dd, tk, oo⟩ := by
  subst he
  refine PairSrcL.at SRC env rfl xi xc body Q (LsJ m₀ stored lf nf g S) ⟨fun _ _ => rfl, _, _, rfl, hi, hz⟩ ?_ ?_
  · rintro i x t v m₁ nx s₁ own ⟨h, tk', rfl⟩ ha hka ⟨hm, us', zs', rfl, hus, hzs⟩ hadr hoff F2 N2
    obtain ⟨t2, rfl⟩ := ItemKind.int_is hka
    rw [map_fix _ hm] at F2
    subst hzs
    exact turn i x t t2 m₁ us' own h tk' _ (fun F' N' hm' hi' hz' => ls_end F' N' hm' hi' hz') ha hus (show OwnOff own (((lf, listOf us.toArray nf) :: g).map (·.1)) from ownOff_of hoff) F2 (news_swap N2)
  · rintro h tk' m₂ nx2 F3 N4 - ⟨hm2, us2, zs2, rfl, hus2, hzs2⟩
    rw [map_fix _ hm2] at F3
    subst hzs2
    exact done h tk' m₂ us2 F3 N4 hus2
theorem zmul_c (w : World) (mean mg mb) (l1 l2 : Addr) (ns ms : List Int) :
    PCall w mean mg mb 2 105 [.ref l1, .ref l2] (fun h => AL h l1 ns ∧ AL h l2 ms ∧ BdL 1048576 ns ∧ BdL 1048576 ms ∧ ns.length < 2 ^ 19 ∧ ms.length < 2 ^ 19) (fun h h' r => NL h h' r (mulL ns ms)) := by
  unfold PCall; k_fill
  intro dp un gd cn cs a ccd cl outer A₀ base h₀ L m sh gg dd tk oo Q E B F X T hk hdp hun hpre hret
  obtain ⟨⟨vs, hl, hi, hlen⟩, ⟨us, hl2, hi2, hlen2⟩, hb1, hb2, hl19, hm19⟩ := hpre
  refine wpAny_call ?_
  k_dflt walk_at "M.enter"
  walk_at "M.steps"
  · have e : mulL ns ms = [] := if_pos (.inl (by omega))
    rw [e] at hret
    exact hret _ _ _ (Fr.keep (by assumption)) (NL.of (by assumption) (by k_mem) .nil (by decide))
  · have e : mulL ns ms = [] := if_pos (.inr (by omega))
    rw [e] at hret
    exact hret _ _ _ (Fr.keep (by assumption)) (NL.of (by assumption) (by k_mem) .nil (by decide))
  refine pairO (by assumption) rfl [Str.ofString "one", Str.ofString "left", Str.ofString "other", Str.ofString "right"] (mulPart ns ms) (mulPart_start ns ms _ rfl) rfl ?_ ?_
  · intro i x t t2 u us' own h tk' Qb hEnd ha hus hoff' F2 N3
    walk_at "M.steps"
    · (rename PairSrcL _ _ _ _ _ _ _ _ _ _ _ _ => SS)
      refine pairO SS rfl [Str.ofString "other", Str.ofString "right"] (mulPart2 ns ms i) hus (by rw [mulPart2_zero]) ?_ ?_
      · intro j y t3 t4 u2 us2 own2 h4 tk4 Qb2 hEnd2 hb hus2 hoff2' F3 N5
        have hxb := hb1.of (List.mem_of_getElem? ha)
        have hyb := hb2.of (List.mem_of_getElem? hb)
        have hin : i < ns.length := (List.getElem?_eq_some_iff.mp ha).1
        have hjn : j < ms.length := (List.getElem?_eq_some_iff.mp hb).1
        have hzl : (mulPart2 ns ms i j).length = ns.length + ms.length - 1 := by unfold mulPart2; rw [List.length_map, List.length_range]
        walk_at "M.steps"
        refine hEnd2 (by assumption) (by with_unfolding_all assumption) (by walk_at "M.same3") (by assumption) ?_
        have e : ((i : Int) + (j : Int)).toNat = i + j := by omega
        have ex : ns.getD i 0 = x := by rw [List.getD_eq_getElem?_getD, ha]; rfl
        have ey : ms.getD j 0 = y := by rw [List.getD_eq_getElem?_getD, hb]; rfl
        rw [e, ← mulPart2_step ns ms i j hin hjn, ex, ey]
      · intro h4 tk4 u2 us2 F3 N4 hus2
        walk_at "M.steps"
        exact hEnd (by assumption) (by with_unfolding_all assumption) (by walk_at "M.same3") hus2 (by rw [mulPart2_end])
    · have hx0 : x = 0 := by omega
      have ex : ns.getD i 0 = 0 := by rw [List.getD_eq_getElem?_getD, ha, ← hx0]; rfl
      exact hEnd (by assumption) (by with_unfolding_all assumption) (by walk_at "M.same3") hus (by rw [mulPart_skip _ _ _ ex])
  · intro h4 tk4 u us2 F3 N4 hus2
    walk_at "M.steps"
    have hc : ¬ (ns.length = 0 ∨ ms.length = 0) := by omega
    have e : mulL ns ms = mulPart ns ms ns.length := by unfold mulL; rw [if_neg hc]; rfl
    have hl' : (mulL ns ms).length < 2 ^ 20 := by unfold mulL; rw [if_neg hc, List.length_map, List.length_range]; omega
    rw [e] at hret hl'
    exact hret _ _ _ (Fr.keep (by assumption)) (NL.of (by assumption) (by k_mem) (by assumption) hl')

end
theorem rows_zmul : True := by
  k_with "M.call" => ((with_reducible show wpAny _ _ (call (Value.ref 105) _) _ _ _); k_dflt (refine' pc_useL (zmul_c _ _ _ _ _ _ _ _) ?qqk1 ?qqk2 ?qqk3 ?qqk4 ?qqk5 ?qqkK ?qqkd ?qqku ?qqkp ?qqkD ?_; (walk_at "M.use"); (case qqkp => walk_at "M.pre"); (case qqkD => walk_at "M.off"); k_whole; intro _ _ _ _ _ _ _ _ _ _; (try k_sweep)))
  trivial
section
noncomputable def powLoop : Nat → List Int → List Int → Nat → List Int
  | 0, x, _, _ => x
  | f + 1, x, y, n => if n = 0 then x else powLoop f (if n % 2 = 1 then mulL x y else x) (if 1 < n then mulL y y else y) (n / 2)
noncomputable def PowOk : Nat → List Int → List Int → Nat → Prop
  | 0, _, _, _ => True
  | f + 1, x, y, n => n ≠ 0 → (Okl x ∧ Okl y) ∧ PowOk f (if n % 2 = 1 then mulL x y else x) (if 1 < n then mulL y y else y) (n / 2)
noncomputable def powL (p : List Int) (n : Nat) : List Int := powLoop n [1] p n
structure PwS where
  lf : Addr
  uf : List Value
  nf : Nat
  zf : List Int
  lg : Addr
  ug : List Value
  ng : Nat
  zg : List Int
  n : Int
  t : Tok
theorem zpower_c (w : World) (mean mg mb) (l : Addr) (k : Nat) (tk₀ : Tok) (ns : List Int) :
    PCall w mean mg mb 3 112 [.ref l, .int (k : Int) tk₀] (fun h => AL h l ns ∧ k < 100 ∧ PowOk k [1] ns k) (fun h h' r => NL h h' r (powL ns k)) := by
  unfold PCall; k_fill
  intro dp un gd cn cs a ccd cl outer A₀ base h₀ L m sh gg dd tk oo Q E B F X T hk hdp hun hpre hret
  obtain ⟨⟨vs, hl, hi, hlen⟩, hk100, hok⟩ := hpre
  refine wpAny_call ?_
  k_dflt walk_at "M.enter"
  walk_at "M.steps"
  refine m_whileO (σ := PwS) (fun c => [(c.lf, listOf c.uf.toArray c.nf), (c.lg, listOf c.ug.toArray c.ng)]) (fun c => [(Str.ofString "found", .ref c.lf), (Str.ofString "factor", .ref c.lg), (Str.ofString "many", .int c.n c.t)])
    (fun c => IntsAre c.uf c.zf ∧ IntsAre c.ug c.zg ∧ c.zf.length < 2 ^ 20 ∧ c.zg.length < 2 ^ 20 ∧ 0 ≤ c.n ∧ c.n < 100 ∧ ∃ f, c.n.toNat ≤ f ∧ powLoop f c.zf c.zg c.n.toNat = powL ns k ∧ PowOk f c.zf c.zg c.n.toNat) (fun c => c.n.toNat) (by assumption) (by assumption)
      ⟨⟨_, _, _, [1], _, _, _, ns, k, _⟩, by with_unfolding_all kst_all, by dsimp only; kst_allIn, .cons _ _ .nil, by assumption, by show 1 < 2 ^ 20; decide, hlen, by dsimp only; omega, by dsimp only; omega, k, Nat.le_refl _, rfl, hok⟩ ?_ PassesOwn.never
  rintro ⟨lf, uf, nf, zf, lg, ug, ng, zg, n, t⟩ u h tk gg dd oo Qb Qn hEnd hRt hNx ⟨hif, hig, hlf, hlg, hn0, hn, f, hnf, he, ho⟩ F1 N1
  dsimp only at hif hig hlf hlg hn0 hn hnf he ho F1 N1 ⊢
  simp only [kstB] at F1
  have key : 0 < n → (BdL 1048576 zf ∧ zf.length < 2 ^ 19 ∧ BdL 1048576 zg ∧ zg.length < 2 ^ 19) ∧ ∃ f', f = f' + 1 := by
    intro hpos
    cases f with
    | zero => omega
    | succ f =>
      obtain ⟨⟨a, b⟩, _⟩ := ho (by omega)
      exact ⟨⟨a.1, a.2, b.1, b.2⟩, f, rfl⟩
  by_cases hpos : 0 < n
  · obtain ⟨⟨ok1, ok2, ok3, ok4⟩, f', rfl⟩ := key hpos
    clear key
    obtain ⟨hd0, hd1, hd, hm2⟩ := half_facts hn0
    obtain ⟨_, ho2⟩ := ho (by omega)
    rw [powLoop, if_neg (by omega)] at he
    walk_at "M.steps"
    · have c1 : n.toNat % 2 = 1 := by omega
      have c2 : 1 < n.toNat := by omega
      rw [if_pos c1, if_pos c2] at he ho2
      refine hEnd ⟨_, _, _, mulL zf zg, _, _, _, mulL zg zg, n.fdiv 2, _⟩ (by assumption) (by assumption) (by with_unfolding_all kst_all) (by dsimp only; kst_allIn) ⟨by assumption, by assumption, by assumption, by assumption, hd0, by dsimp only; omega, f', by dsimp only; omega, by dsimp only; rw [hd]; exact he, by dsimp only; rw [hd]; exact ho2⟩ ?_
      dsimp only; omega
    · have c1 : n.toNat % 2 = 1 := by omega
      have c2 : ¬ 1 < n.toNat := by omega
      rw [if_pos c1, if_neg c2] at he ho2
      refine hEnd ⟨_, _, _, mulL zf zg, _, _, _, zg, n.fdiv 2, _⟩ (by assumption) (by assumption) (by with_unfolding_all kst_all) (by dsimp only; kst_allIn) ⟨by assumption, by assumption, by assumption, by assumption, hd0, by dsimp only; omega, f', by dsimp only; omega, by dsimp only; rw [hd]; exact he, by dsimp only; rw [hd]; exact ho2⟩ ?_
      dsimp only; omega
    · have c1 : ¬ n.toNat % 2 = 1 := by omega
      have c2 : 1 < n.toNat := by omega
      rw [if_neg c1, if_pos c2] at he ho2
      refine hEnd ⟨_, _, _, zf, _, _, _, mulL zg zg, n.fdiv 2, _⟩ (by assumption) (by assumption) (by with_unfolding_all kst_all) (by dsimp only; kst_allIn) ⟨by assumption, by assumption, by assumption, by assumption, hd0, by dsimp only; omega, f', by dsimp only; omega, by dsimp only; rw [hd]; exact he, by dsimp only; rw [hd]; exact ho2⟩ ?_
      dsimp only; omega
  · clear key
    walk_at "M.steps"
    refine hNx _ _ ?_
    clear hEnd hRt hNx
    walk_at "M.steps"
    have e0 : n.toNat = 0 := by omega
    have e : powL ns k = zf := by
      rw [← he, e0]; cases f <;> rfl
    rw [e] at hret
    exact hret _ _ _ (Fr.keep (by assumption)) (NL.of (by assumption) (by k_mem) (by assumption) (by assumption))

end
theorem rows_zpower : True := by
  k_with "M.call" => ((with_reducible show wpAny _ _ (call (Value.ref 112) _) _ _ _); k_dflt (refine' pc_useL (zpower_c _ _ _ _ _ _ _ _) ?qqk1 ?qqk2 ?qqk3 ?qqk4 ?qqk5 ?qqkK ?qqkd ?qqku ?qqkp ?qqkD ?_; (walk_at "M.use"); (case qqkp => walk_at "M.pre"); (case qqkD => walk_at "M.off"); k_whole; intro _ _ _ _ _ _ _ _ _ _; (try k_sweep)))
  trivial
section
/-- the coefficient at i -/
abbrev co (l : List Int) (i : Nat) : Int := l.getD i 0
theorem co_def (l : List Int) (i : Nat) : co l i = (l[i]?).getD 0 := List.getD_eq_getElem?_getD ..
theorem co_out {l : List Int} {i : Nat} (h : l.length ≤ i) : co l i = 0 := by rw [co_def, List.getElem?_eq_none h]; rfl
theorem trim_snoc_zero (l : List Int) : trimL (l ++ [0]) = trimL l := by simp [trimL]
theorem trim_snoc (l : List Int) {x : Int} (h : x ≠ 0) : trimL (l ++ [x]) = l ++ [x] := by simp [trimL, h]
theorem trim_nil : trimL [] = [] := rfl
theorem list_snoc_ind {P : List Int → Prop} (h0 : P []) (h1 : ∀ l x, P l → P (l ++ [x])) (l : List Int) : P l := by
  have : ∀ n (l : List Int), l.length = n → P l := by
    intro n
    induction n with
    | zero => intro l hl; rw [List.eq_nil_of_length_eq_zero hl]; exact h0
    | succ n ih =>
      intro l hl
      have hne : l ≠ [] := by intro e; rw [e] at hl; cases hl
      rw [← List.dropLast_concat_getLast hne]
      exact h1 _ _ (ih _ (by rw [List.length_dropLast]; omega))
  exact this _ l rfl
theorem co_snoc (l : List Int) (x : Int) (i : Nat) : co (l ++ [x]) i = if i = l.length then x else co l i := by
  rw [co_def, co_def]
  by_cases h : i < l.length
  · rw [List.getElem?_append_left h, if_neg (by omega)]
  · rw [List.getElem?_append_right (by omega)]
    by_cases h2 : i = l.length
    · rw [if_pos h2, h2, Nat.sub_self]; rfl
    · rw [if_neg h2, List.getElem?_eq_none (by simp; omega), List.getElem?_eq_none (by omega)]
theorem co_trim (l : List Int) (i : Nat) : co (trimL l) i = co l i := by
  induction l using list_snoc_ind with
  | h0 => rfl
  | h1 l x ih =>
    by_cases h : x = 0
    · rw [h, trim_snoc_zero, ih, co_snoc]
      by_cases h2 : i = l.length
      · rw [if_pos h2, h2, co_out (Nat.le_refl _)]
      · rw [if_neg h2]
    · rw [trim_snoc l h]
theorem trim_len {l : List Int} {k : Nat} (h : ∀ i, k ≤ i → co l i = 0) : (trimL l).length ≤ k := by
  induction l using list_snoc_ind with
  | h0 => exact Nat.zero_le _
  | h1 l x ih =>
    by_cases hx : x = 0
    · rw [hx, trim_snoc_zero]
      refine ih fun i hi => ?_
      by_cases h2 : i = l.length
      · exact co_out (by omega)
      · have := h i hi; rw [co_snoc, if_neg h2] at this; exact this
    · rw [trim_snoc l hx]
      by_cases hk : k ≤ l.length
      · have := h l.length hk
        rw [co_snoc, if_pos rfl] at this
        exact absurd this hx
      · rw [List.length_append, List.length_singleton]; omega
theorem trim_le (l : List Int) : (trimL l).length ≤ l.length := trim_len fun _ h => co_out h
/-- nothing to trim -/
noncomputable def Trim (l : List Int) : Prop := trimL l = l
theorem trim_trim (l : List Int) : Trim (trimL l) := by
  unfold Trim
  induction l using list_snoc_ind with
  | h0 => rfl
  | h1 l x ih =>
    by_cases hx : x = 0
    · rw [hx, trim_snoc_zero]; exact ih
    · rw [trim_snoc l hx, trim_snoc l hx]
theorem Trim.lead {l : List Int} (h : Trim l) (hl : l ≠ []) : co l (l.length - 1) ≠ 0 := by
  intro e
  have h1 : (trimL l).length ≤ l.length - 1 := trim_len fun i hi => by
    by_cases h2 : i = l.length - 1
    · rw [h2]; exact e
    · exact co_out (by omega)
  rw [h] at h1
  have : 0 < l.length := List.length_pos_iff.mpr hl
  omega
theorem Trim.of_lead {l : List Int} (h : l = [] ∨ co l (l.length - 1) ≠ 0) : Trim l := by
  rcases h with rfl | h
  · rfl
  · have hne : l ≠ [] := by rintro rfl; exact h rfl
    rw [← List.dropLast_concat_getLast hne] at h ⊢
    rw [co_snoc] at h
    rw [if_pos (by simp)] at h
    exact trim_snoc _ h
/-- two trimmed lists of the same coefficients are one -/
theorem trim_ext {a b : List Int} (ha : Trim a) (hb : Trim b) (h : ∀ i, co a i = co b i) : a = b := by
  have len : ∀ {a b : List Int}, Trim a → (∀ i, co a i = co b i) → a.length ≤ b.length := by
    intro a b ha h
    rw [← ha]
    exact trim_len fun i hi => by rw [h]; exact co_out hi
  have e : a.length = b.length := Nat.le_antisymm (len ha h) (len hb fun i => (h i).symm)
  refine List.ext_getElem? fun i => ?_
  by_cases hi : i < a.length
  · have := h i
    rw [co_def, co_def, List.getElem?_eq_getElem hi, List.getElem?_eq_getElem (by omega)] at this
    rw [List.getElem?_eq_getElem hi, List.getElem?_eq_getElem (by omega)]
    exact congrArg some this
  · rw [List.getElem?_eq_none (by omega), List.getElem?_eq_none (by omega)]
theorem trim_eq {a b : List Int} (h : ∀ i, co a i = co b i) : trimL a = trimL b :=
  trim_ext (trim_trim a) (trim_trim b) fun i => by rw [co_trim, co_trim, h]
theorem co_range_map (f : Nat → Int) (n i : Nat) : co ((List.range n).map f) i = if i < n then f i else 0 := by
  rw [co_def, List.getElem?_map]
  by_cases h : i < n
  · rw [List.getElem?_range h, if_pos h]; rfl
  · rw [List.getElem?_eq_none (by simpa using h), if_neg h]; rfl
theorem co_map (f : Int → Int) (h0 : f 0 = 0) (l : List Int) (i : Nat) : co (l.map f) i = f (co l i) := by
  rw [co_def, co_def, List.getElem?_map]
  cases l[i]? with
  | none => exact h0.symm
  | some x => rfl
theorem co_add (a b : List Int) (i : Nat) : co (addL a b) i = co a i + co b i := by
  unfold addL
  rw [co_trim, co_range_map]
  by_cases h : i < max a.length b.length
  · rw [if_pos h]
  · rw [if_neg h, co_out (by omega), co_out (by omega)]; rfl
theorem co_sub (a b : List Int) (i : Nat) : co (subL a b) i = co a i - co b i := by
  unfold subL
  rw [co_add, co_map _ (by rfl)]; omega
theorem co_scale (p : List Int) (k : Int) (i : Nat) : co (scaleL p k) i = co p i * k := by
  unfold scaleL
  by_cases h : k = 0
  · rw [if_neg (by simpa using h), h, Int.mul_zero]; rfl
  · rw [if_pos h, co_map (fun x => x * k) (Int.zero_mul _)]
theorem co_raise (p : List Int) (n i : Nat) : co (raiseL p n) i = if i < n then 0 else co p (i - n) := by
  unfold raiseL
  by_cases h : 0 < p.length
  · rw [if_pos h, co_def]
    by_cases hi : i < n
    · rw [List.getElem?_append_left (by simpa using hi), List.getElem?_replicate, if_pos hi, if_pos hi]; rfl
    · rw [List.getElem?_append_right (by simpa using hi), if_neg hi, List.length_replicate, co_def]
  · rw [if_neg h]
    have e : p = [] := List.eq_nil_of_length_eq_zero (by omega)
    rw [e]; split <;> rfl
theorem sub_trim (a b : List Int) : Trim (subL a b) := trim_trim _
theorem lead_def (l : List Int) : leadL l = co l (l.length - 1) := by
  unfold leadL
  by_cases h : 0 < l.length
  · rw [if_pos h]
  · rw [if_neg h, co_out (by omega)]
theorem co_step (b : List Int) (first : Int) (rest : List Int) (i : Nat) :
    co (psStep b first rest) i = co rest i * first - (if i < rest.length - b.length then 0 else co b (i - (rest.length - b.length)) * leadL rest) := by
  unfold psStep
  rw [co_sub, co_scale, co_raise, co_scale]
theorem step_len {b rest : List Int} (hb : 0 < b.length) (hl : b.length ≤ rest.length) : (psStep b (leadL b) rest).length < rest.length := by
  have : (psStep b (leadL b) rest).length ≤ rest.length - 1 := by
    have ht : Trim (psStep b (leadL b) rest) := sub_trim _ _
    rw [← ht]
    refine trim_len fun i hi => ?_
    rw [co_step, if_neg (by omega)]
    by_cases h : i = rest.length - 1
    · have e : i - (rest.length - b.length) = b.length - 1 := by omega
      rw [e, h, lead_def b, lead_def rest, Int.mul_comm]; omega
    · rw [co_out (show rest.length ≤ i by omega), co_out (show b.length ≤ i - (rest.length - b.length) by omega)]; omega
  omega
-- bounds
theorem BdL.cof {k : Nat} {l : List Int} (h : BdL k l) (i : Nat) : Bd k (co l i) := by
  by_cases hi : i < l.length
  · rw [co_def, List.getElem?_eq_getElem hi]; exact h _ (List.getElem_mem hi)
  · rw [co_out (by omega)]; exact Nat.two_pow_pos _
theorem BdL.of_co {k : Nat} {l : List Int} (h : ∀ i, Bd k (co l i)) : BdL k l := by
  intro x hx
  obtain ⟨i, hi⟩ := List.getElem?_of_mem hx
  have := h i
  rw [co_def, hi] at this
  exact this
theorem BdL.mono {j k : Nat} {l : List Int} (h : BdL j l) (hk : j ≤ k) : BdL k l := fun x hx => (h x hx).mono hk
theorem Bd.zero (k : Nat) : Bd k 0 := Nat.two_pow_pos _
theorem Bd.sub {k : Nat} {x y : Int} (hx : Bd k x) (hy : Bd k y) : Bd (k + 1) (x - y) := by
  rw [Int.sub_eq_add_neg]; exact hx.add hy.neg
theorem step_bd {R B : Nat} {b rest : List Int} (hR : BdL R rest) (hB : BdL B b) : BdL (R + B + 1) (psStep b (leadL b) rest) := by
  refine BdL.of_co fun i => ?_
  rw [co_step]
  refine Bd.sub ((hR.cof i).mul (by rw [lead_def]; exact hB.cof _)) ?_
  split
  · exact Bd.zero _
  · rw [Nat.add_comm]; exact (hB.cof _).mul (by rw [lead_def]; exact hR.cof _)
theorem found_bd {R B : Nat} {b rest found : List Int} (hF : BdL R found) (hR : BdL R rest) (hB : BdL B b) : BdL (R + B + 1) (psFound b (leadL b) rest found) := by
  refine BdL.of_co fun i => ?_
  unfold psFound
  rw [co_sub, co_scale, co_raise]
  refine Bd.sub ((hF.cof i).mul (by rw [lead_def]; exact hB.cof _)) ?_
  split
  · exact Bd.zero _
  · have h1 : BdL R [-(leadL rest)] := by
      intro x hx
      rw [List.mem_singleton.mp hx, lead_def]
      exact (hR.cof _).neg
    exact (h1.cof _).mono (by omega)
theorem bd_pow {k : Nat} {x : Int} (h : Bd k x) (n : Nat) : Bd (k * n + 1) (x ^ n) := by
  unfold Bd at *
  rw [Int.natAbs_pow, Nat.pow_succ, Nat.pow_mul]
  have := Nat.pow_le_pow_left (Nat.le_of_lt h) n
  have h2 : 0 < (2 ^ k) ^ n := Nat.pow_pos (Nat.two_pow_pos k)
  omega
noncomputable def zxStep (b rest : List Int) : List Int := subL rest (raiseL (scaleL b ((leadL rest).fdiv (leadL b))) (rest.length - b.length))
noncomputable def zxLoop (b : List Int) : Nat → List Int → List Int → Option (List Int)
  | 0, _, _ => none
  | f + 1, rest, found => if b.length ≤ rest.length then (if (leadL rest).fmod (leadL b) ≠ 0 then none else zxLoop b f (zxStep b rest) (found.set (rest.length - b.length) ((leadL rest).fdiv (leadL b)))) else (if rest.length = 0 then some (trimL found) else none)
theorem co_zx (b rest : List Int) (i : Nat) :
    co (zxStep b rest) i = co rest i - (if i < rest.length - b.length then 0 else co b (i - (rest.length - b.length)) * (leadL rest).fdiv (leadL b)) := by
  unfold zxStep
  rw [co_sub, co_raise, co_scale]
theorem zx_len {b rest : List Int} (hb : 0 < b.length) (hl : b.length ≤ rest.length) (hd : (leadL rest).fmod (leadL b) = 0) : (zxStep b rest).length < rest.length := by
  have : (zxStep b rest).length ≤ rest.length - 1 := by
    have ht : Trim (zxStep b rest) := sub_trim _ _
    rw [← ht]
    refine trim_len fun i hi => ?_
    rw [co_zx, if_neg (by omega)]
    by_cases h : i = rest.length - 1
    · have e : i - (rest.length - b.length) = b.length - 1 := by omega
      have e2 := Int.fmod_add_mul_fdiv (leadL rest) (leadL b)
      rw [hd, Int.zero_add] at e2
      rw [e, h, ← lead_def b, ← lead_def rest, e2]; omega
    · rw [co_out (show rest.length ≤ i by omega), co_out (show b.length ≤ i - (rest.length - b.length) by omega)]; omega
  omega
theorem bd_fdiv {k : Nat} {x y : Int} (h : Bd k x) : Bd k (x.fdiv y) := by
  refine h.of_le ?_
  by_cases hy : y = 0
  · rw [hy, Int.fdiv_zero]; omega
  · exact Int.natAbs_fdiv_le_natAbs _ _
theorem zx_bd {R B : Nat} {b rest : List Int} (hR : BdL R rest) (hB : BdL B b) : BdL (R + B + 1) (zxStep b rest) := by
  refine BdL.of_co fun i => ?_
  rw [co_zx]
  refine Bd.sub ((hR.cof i).mono (by omega)) ?_
  split
  · exact Bd.zero _
  · rw [Nat.add_comm]; exact (hB.cof _).mul (bd_fdiv (by rw [lead_def]; exact hR.cof _))
theorem scale_bd {j k : Nat} {l : List Int} {x : Int} (hl : BdL j l) (hx : Bd k x) : BdL (j + k) (scaleL l x) := by
  refine BdL.of_co fun i => ?_
  rw [co_scale]; exact (hl.cof i).mul hx
theorem ps_bd {B : Nat} {b : List Int} (hb : 0 < b.length) (hB : BdL B b) : ∀ (f : Nat) (rest found : List Int) (left : Int) (X : Nat), BdL X rest → 0 ≤ left → (rest.length : Int) - b.length + 1 ≤ left →
    BdL (X + left.toNat * (B + 1) + 1) (scaleL (psLoop b (leadL b) f rest found left).1 (leadL b ^ (psLoop b (leadL b) f rest found left).2.2.toNat)) := by
  have stop : ∀ (rest : List Int) (left : Int) (X : Nat), BdL X rest → BdL (X + left.toNat * (B + 1) + 1) (scaleL rest (leadL b ^ left.toNat)) := by
    intro rest left X hX
    refine (scale_bd hX (bd_pow (by rw [lead_def]; exact hB.cof _) left.toNat)).mono ?_
    rw [Nat.mul_add, Nat.mul_one, Nat.mul_comm B]; omega
  intro f
  induction f with
  | zero => intro rest found left X hX _ _; exact stop rest left X hX
  | succ f ih =>
    intro rest found left X hX h0 h1
    unfold psLoop
    by_cases hc : b.length ≤ rest.length
    · rw [if_pos hc]
      have hsl := step_len hb hc
      refine (ih _ _ _ _ (step_bd hX hB) (by omega) (by omega)).mono ?_
      have e : left.toNat = (left - 1).toNat + 1 := by omega
      rw [e, Nat.add_mul, Nat.one_mul]; omega
    · rw [if_neg hc]; exact stop rest left X hX
theorem many_facts (ns ms : List Int) : (ns.length : Int) - ms.length + 1 ≤ psMany ns ms ∧ 0 ≤ psMany ns ms ∧ psMany ns ms ≤ ns.length + 1 ∧ (ms.length ≤ ns.length → psMany ns ms = (ns.length : Int) - ms.length + 1) := by unfold psMany; split <;> omega
theorem pseudo_bd {R B : Nat} {ns ms : List Int} (hm : 0 < ms.length) (hR : BdL R ns) (hB : BdL B ms) : BdL (R + (psMany ns ms).toNat * (B + 1) + 1) (pseudoL ns ms).2.1 := by
  unfold pseudoL
  exact ps_bd hm hB _ _ _ _ _ hR (many_facts ns ms).2.1 (many_facts ns ms).1
theorem ps_len {b : List Int} (hb : 0 < b.length) : ∀ (f : Nat) (rest found : List Int) (left : Int), rest.length < f → (psLoop b (leadL b) f rest found left).1.length < b.length := by
  intro f
  induction f with
  | zero => intro rest found left h; exact absurd h (Nat.not_lt_zero _)
  | succ f ih =>
    intro rest found left h
    unfold psLoop
    by_cases hc : b.length ≤ rest.length
    · rw [if_pos hc]
      have := step_len hb hc
      exact ih _ _ _ (by omega)
    · rw [if_neg hc]; show rest.length < _; omega
theorem scale_len (l : List Int) (k : Int) : (scaleL l k).length ≤ l.length := by
  unfold scaleL; split
  · rw [List.length_map]; exact Nat.le_refl _
  · exact Nat.zero_le _
theorem pseudo_len {b : List Int} (hb : 0 < b.length) (a : List Int) : (pseudoL a b).2.1.length < b.length := by
  unfold pseudoL
  exact Nat.lt_of_le_of_lt (scale_len _ _) (ps_len hb _ _ _ _ (Nat.lt_succ_self _))

end
section
theorem checkb_c (w : World) (mean mg mb) (l1 : Addr) (ns : List Int) :
    PCall w mean mg mb 1 126 [.ref l1] (fun h => AL h l1 ns ∧ 0 < ns.length) (fun h h' r => r = .none) := by
  unfold PCall; k_fill
  intro dp un gd cn cs a ccd cl outer A₀ base h₀ L m sh gg dd tk oo Q E B F X T hk hdp hun hpre hret
  obtain ⟨⟨vs, hl, hi, hlen⟩, hk1⟩ := hpre
  refine wpAny_call ?_
  k_dflt walk_at "M.enter"
  walk_at "M.steps"
  · exact hret _ _ _ (Fr.keep (by assumption)) rfl

end
theorem rows_checkb : True := by
  k_with "M.call" => ((with_reducible show wpAny _ _ (call (Value.ref 126) _) _ _ _); k_dflt (refine' pc_use0 (checkb_c _ _ _ _ _ _) ?qqk1 ?qqk2 ?qqk3 ?qqk4 ?qqk5 ?qqkK ?qqkd ?qqku ?qqkp ?_; (walk_at "M.use"); (case qqkp => walk_at "M.pre"); k_whole; intro _ _ _ _; (try k_sweep)))
  trivial
section
theorem zlead_c (w : World) (mean mg mb) (l : Addr) (ns : List Int) :
    PCall w mean mg mb 1 69 [.ref l] (fun h => AL h l ns) (fun _ _ r => ∃ t, r = .int (leadL ns) t) := by
  unfold PCall; k_fill
  intro dp un gd cn cs a ccd cl outer A₀ base h₀ L m sh gg dd tk oo Q E B F X T hk hdp hun hpre hret
  obtain ⟨vs, hl, hi, hlen⟩ := hpre
  refine wpAny_call ?_
  k_dflt walk_at "M.enter"
  walk_at "M.steps"
  · have hc : 0 < ns.length := by omega
    have e : leadL ns = ns.getD (-1 + (ns.length : Int)).toNat 0 := by unfold leadL; rw [if_pos hc]; congr 1; omega
    exact hret _ _ _ (Fr.keep (by assumption)) ⟨_, by rw [e]⟩
  · have hc : ¬ 0 < ns.length := by omega
    have e : leadL ns = 0 := if_neg hc
    exact hret _ _ _ (Fr.keep (by assumption)) ⟨_, by rw [e]⟩

end
theorem rows_zlead : True := by
  k_with "M.call" => ((with_reducible show wpAny _ _ (call (Value.ref 69) _) _ _ _); k_dflt (refine' pc_useI (zlead_c _ _ _ _ _ _) ?qqk1 ?qqk2 ?qqk3 ?qqk4 ?qqk5 ?qqkK ?qqkd ?qqku ?qqkp ?_; (walk_at "M.use"); (case qqkp => walk_at "M.pre"); k_whole; intro _ _ _ _ _; (try k_sweep)))
  trivial
section
theorem zscale_c (w : World) (mean mg mb) (l : Addr) (k : Int) (tk₀ : Tok) (ns : List Int) :
    PCall w mean mg mb 2 91 [.ref l, .int k tk₀] (fun h => AL h l ns ∧ BdL 1048576 ns ∧ Bd 1048576 k) (fun h h' r => NL h h' r (scaleL ns k)) := by
  unfold PCall; k_fill
  intro dp un gd cn cs a ccd cl outer A₀ base h₀ L m sh gg dd tk oo Q E B F X T hk hdp hun hpre hret
  obtain ⟨⟨vs, hl, hi, hlen⟩, hb, hkb⟩ := hpre
  unfold scaleL at hret
  refine wpAny_call ?_
  k_dflt walk_at "M.enter"
  walk_at "M.steps"
  · have hk0 : k ≠ 0 := by assumption
    rw [if_pos hk0] at hret
    refine hret _ _ _ (Fr.keep (by assumption)) (NL.of (by assumption) (by k_mem) (by assumption) ?_)
    simpa using hlen
  · have hk0 : ¬ (k ≠ 0) := by omega
    rw [if_neg hk0] at hret
    refine hret _ _ _ (Fr.keep (by assumption)) (NL.of (by assumption) (by k_mem) .nil ?_)
    decide

end
theorem rows_zscale : True := by
  k_with "M.call" => ((with_reducible show wpAny _ _ (call (Value.ref 91) _) _ _ _); k_dflt (refine' pc_useL (zscale_c _ _ _ _ _ _ _ _) ?qqk1 ?qqk2 ?qqk3 ?qqk4 ?qqk5 ?qqkK ?qqkd ?qqku ?qqkp ?qqkD ?_; (walk_at "M.use"); (case qqkp => walk_at "M.pre"); (case qqkD => walk_at "M.off"); k_whole; intro _ _ _ _ _ _ _ _ _ _; (try k_sweep)))
  trivial
section
theorem repl_flat {α : Type} (x : α) : ∀ k, (List.replicate k [x]).flatten = List.replicate k x
  | 0 => rfl
  | k + 1 => by rw [List.replicate_succ, List.replicate_succ, List.flatten_cons, repl_flat x k]; rfl
theorem zraise_c (w : World) (mean mg mb) (l1 : Addr) (x : Int) (t : Tok) (ns : List Int) :
    PCall w mean mg mb 1 98 [.ref l1, .int x t] (fun h => AL h l1 ns ∧ 0 ≤ x ∧ x < 2 ^ 19 ∧ ns.length < 2 ^ 19) (fun h h' r => NL h h' r (raiseL ns x.toNat)) := by
  unfold PCall; k_fill
  intro dp un gd cn cs a ccd cl outer A₀ base h₀ L m sh gg dd tk oo Q E B F X T hk hdp hun hpre hret
  obtain ⟨⟨vs, hl, hi, hlen⟩, hk0, hk1, hk2⟩ := hpre
  obtain ⟨k, rfl⟩ := Int.eq_ofNat_of_zero_le hk0
  rw [Int.toNat_natCast] at hret
  refine wpAny_call ?_
  k_dflt walk_at "M.enter"
  walk_at "M.steps"
  · have hc : 0 < ns.length := by omega
    have e : raiseL ns k = (List.replicate (k : Int).toNat [0]).flatten ++ ns := by
      unfold raiseL; rw [if_pos hc, Int.toNat_natCast, repl_flat]
    have hlen2 : (raiseL ns k).length < 2 ^ 20 := by unfold raiseL; rw [if_pos hc, List.length_append, List.length_replicate]; omega
    rw [e] at hret hlen2
    exact hret _ _ _ (Fr.keep (by assumption)) (NL.of (by assumption) (by k_mem) (by assumption) hlen2)
  · have hc : ¬ 0 < ns.length := by omega
    have e : raiseL ns k = [] := if_neg hc
    rw [e] at hret
    exact hret _ _ _ (Fr.keep (by assumption)) (NL.of (by assumption) (by k_mem) .nil (by decide))

end
theorem rows_zraise : True := by
  k_with "M.call" => ((with_reducible show wpAny _ _ (call (Value.ref 98) _) _ _ _); k_dflt (refine' pc_useL (zraise_c _ _ _ _ _ _ _ _) ?qqk1 ?qqk2 ?qqk3 ?qqk4 ?qqk5 ?qqkK ?qqkd ?qqku ?qqkp ?qqkD ?_; (walk_at "M.use"); (case qqkp => walk_at "M.pre"); (case qqkD => walk_at "M.off"); k_whole; intro _ _ _ _ _ _ _ _ _ _; (try k_sweep)))
  trivial
section
theorem trimL_take_step {ns : List Int} {k : Int} (hk : 0 < k) (hk2 : k ≤ ns.length) (h0 : ns.getD (k - 1).toNat 0 = 0) (e : trimL (ns.take k.toNat) = trimL ns) : trimL (ns.take (k - 1).toNat) = trimL ns := by
  obtain ⟨j, rfl⟩ : ∃ j : Nat, k = j + 1 := ⟨(k - 1).toNat, by omega⟩
  have e1 : ((j : Int) + 1).toNat = j + 1 := by omega
  have e2 : ((j : Int) + 1 - 1).toNat = j := by omega
  rw [e1] at e; rw [e2] at h0 ⊢
  have hj : j < ns.length := by omega
  have h1 : ns[j]? = some 0 := by
    rw [List.getD_eq_getElem?_getD, List.getElem?_eq_getElem hj] at h0
    rw [List.getElem?_eq_getElem hj]; exact congrArg some h0
  rw [← e, List.take_add_one, h1]
  simp [trimL]
theorem trimL_take_end {ns : List Int} {k : Int} (hk : 0 < k) (hk2 : k ≤ ns.length) (h0 : ns.getD (k - 1).toNat 0 ≠ 0) (e : trimL (ns.take k.toNat) = trimL ns) : ns.take k.toNat = trimL ns := by
  obtain ⟨j, rfl⟩ : ∃ j : Nat, k = j + 1 := ⟨(k - 1).toNat, by omega⟩
  have e1 : ((j : Int) + 1).toNat = j + 1 := by omega
  have e2 : ((j : Int) + 1 - 1).toNat = j := by omega
  rw [e1] at e ⊢; rw [e2] at h0
  have hj : j < ns.length := by omega
  have h1 : ns[j]? = some (ns.getD j 0) := by
    rw [List.getD_eq_getElem?_getD, List.getElem?_eq_getElem hj]; rfl
  rw [← e, List.take_add_one, h1]
  generalize ns.getD j 0 = v at h0
  simp [trimL, h0]
theorem trimL_take_zero {ns : List Int} {k : Int} (hk : ¬ 0 < k) (e : trimL (ns.take k.toNat) = trimL ns) : ns.take k.toNat = trimL ns := by
  have e1 : k.toNat = 0 := by omega
  rw [e1] at e ⊢
  exact e
theorem trimL_length (ns : List Int) : (trimL ns).length ≤ ns.length := by
  unfold trimL
  have := (List.dropWhile_sublist (fun x : Int => x == 0) (l := ns.reverse)).length_le
  simpa using this
theorem ztrim_c (w : World) (mean mg mb) (l : Addr) (ns : List Int) :
    PCall w mean mg mb 1 55 [.ref l] (fun h => AL h l ns) (fun h h' r => NL h h' r (trimL ns)) := by
  unfold PCall; k_fill
  intro dp un gd cn cs a ccd cl outer A₀ base h₀ L m sh gg dd tk oo Q E B F X T hk hdp hun hpre hret
  obtain ⟨vs, hl, hi, hlen⟩ := hpre
  have hlen' := Nat.lt_of_le_of_lt (trimL_length ns) hlen
  refine wpAny_call ?_
  k_dflt walk_at "M.enter"
  walk_at "M.steps"
  refine ksw_while (σ := Int × Tok) (fun _ => []) (fun c => [(Str.ofString "size", .int c.1 c.2)]) (fun _ => True) []
    (fun c => 0 ≤ c.1 ∧ c.1 ≤ (ns.length : Int) ∧ trimL (ns.take c.1.toNat) = trimL ns) (fun c => c.1.toNat) (_, _) (by assumption) News.nil trivial (by with_unfolding_all kst_all) 
      ⟨Int.natCast_nonneg _, Int.le_refl _, by simp⟩ ?_ PassesOwn.never
  rintro ⟨k, tk⟩ u h tk _ ⟨h1, h2, h3⟩ F1 N1
  dsimp only at h1 h2 h3 F1 N1 ⊢
  simp only [kstB, List.contains_nil, Bool.false_eq_true, if_false] at F1
  walk_at "M.steps"
  · have hc : 0 < k := by assumption
    refine ksw_end (_, _) (by assumption) (by assumption) (fun _ h => nomatch h) trivial (by with_unfolding_all kst_all) (by walk_at "M.same2") ⟨?_, ?_, trimL_take_step hc h2 (by assumption) h3⟩ ?_
    · show 0 ≤ k - 1
      omega
    · show k - 1 ≤ _
      omega
    · show (k - 1).toNat < k.toNat
      omega
  · have hc : 0 < k := by assumption
    have e := trimL_take_end hc h2 (by assumption) h3
    rw [← e] at hret hlen'
    refine hret _ _ _ (Fr.keep (by assumption)) (NL.of (by assumption) (by k_mem) (by assumption) hlen')
  · have e := trimL_take_zero (by assumption) h3
    rw [← e] at hret hlen'
    refine hret _ _ _ (Fr.keep (by assumption)) (NL.of (by assumption) (by k_mem) (by assumption) hlen')

end
theorem rows_ztrim : True := by
  k_with "M.call" => ((with_reducible show wpAny _ _ (call (Value.ref 55) _) _ _ _); k_dflt (refine' pc_useL (ztrim_c _ _ _ _ _ _) ?qqk1 ?qqk2 ?qqk3 ?qqk4 ?qqk5 ?qqkK ?qqkd ?qqku ?qqkp ?qqkD ?_; (walk_at "M.use"); (case qqkp => walk_at "M.pre"); (case qqkD => walk_at "M.off"); k_whole; intro _ _ _ _ _ _ _ _ _ _; (try k_sweep)))
  trivial
section
theorem getD_out {ns : List Int} {i : Nat} (h : ¬ i < ns.length) : ns.getD i 0 = 0 := by
  rw [List.getD_eq_getElem?_getD, List.getElem?_eq_none (by omega)]; rfl
theorem zadd_list (ns ms : List Int) : List.map
    (fun k' : Int =>
      if k' < (ns.length : Int) ∧ k' < (ms.length : Int) then ns.getD k'.toNat 0 + ms.getD k'.toNat 0
      else if k' < (ns.length : Int) ∧ ¬k' < (ms.length : Int) then ns.getD k'.toNat 0 + 0 else 0 + ms.getD k'.toNat 0)
    (rangeKs 0 ((if (ms.length : Int) > (ns.length : Int) then (ms.length : Int) else (ns.length : Int)) - 0).toNat) =
  List.map (fun i => ns.getD i 0 + ms.getD i 0) (List.range (max ns.length ms.length)) := by
  have e : ((if (ms.length : Int) > (ns.length : Int) then (ms.length : Int) else (ns.length : Int)) - 0).toNat = max ns.length ms.length := by
    split <;> omega
  rw [e]
  unfold rangeKs
  rw [List.map_map]
  refine List.map_congr_left fun i _ => ?_
  have ei : (0 + (i : Int)).toNat = i := by omega
  simp only [Function.comp_apply, ei]
  by_cases c1 : i < ns.length
  · by_cases c2 : i < ms.length
    · rw [if_pos ⟨by omega, by omega⟩]
    · rw [if_neg (by omega), if_pos ⟨by omega, by omega⟩, getD_out c2]
  · rw [if_neg (by omega), if_neg (by omega), getD_out c1]
theorem zadd_c (w : World) (mean mg mb) (l1 l2 : Addr) (ns ms : List Int) :
    PCall w mean mg mb 2 74 [.ref l1, .ref l2] (fun h => AL h l1 ns ∧ AL h l2 ms) (fun h h' r => NL h h' r (addL ns ms)) := by
  unfold PCall; k_fill
  intro dp un gd cn cs a ccd cl outer A₀ base h₀ L m sh gg dd tk oo Q E B F X T hk hdp hun hpre hret
  obtain ⟨⟨vs, hl, hi, hlen⟩, ⟨us, hl2, hi2, hlen2⟩⟩ := hpre
  refine wpAny_call ?_
  k_dflt walk_at "M.enter"
  repeat' (first | (k_unfold; (try dsimp only)) | ((walk_at "M.guard"); (fail_if_success (with_reducible show wpAny _ _ (call (Value.ref 55) _) _ _ _)); walk1) | (dsimp only; (walk_at "M.guard"); (fail_if_success (with_reducible show wpAny _ _ (call (Value.ref 55) _) _ _ _)); walk1))
  rename IntsAre ys _ => hI
  rw [zadd_list] at hI
  have hlm : ((List.range (max ns.length ms.length)).map fun i => ns.getD i 0 + ms.getD i 0).length < 2 ^ 20 := by rw [List.length_map, List.length_range]; omega
  walk_at "M.steps"
  exact hret _ _ _ (Fr.keep (by assumption)) (NL.of (by assumption) (by k_mem) (by assumption) (by assumption))

end
theorem rows_zadd : True := by
  k_with "M.call" => ((with_reducible show wpAny _ _ (call (Value.ref 74) _) _ _ _); k_dflt (refine' pc_useL (zadd_c _ _ _ _ _ _ _ _) ?qqk1 ?qqk2 ?qqk3 ?qqk4 ?qqk5 ?qqkK ?qqkd ?qqku ?qqkp ?qqkD ?_; (walk_at "M.use"); (case qqkp => walk_at "M.pre"); (case qqkD => walk_at "M.off"); k_whole; intro _ _ _ _ _ _ _ _ _ _; (try k_sweep)))
  trivial
section
theorem zneg_c (w : World) (mean mg mb) (l : Addr) (ns : List Int) :
    PCall w mean mg mb 2 79 [.ref l] (fun h => AL h l ns) (fun h h' r => NL h h' r (ns.map fun x => -x)) := by
  unfold PCall; k_fill
  intro dp un gd cn cs a ccd cl outer A₀ base h₀ L m sh gg dd tk oo Q E B F X T hk hdp hun hpre hret
  obtain ⟨vs, hl, hi, hlen⟩ := hpre
  refine wpAny_call ?_
  k_dflt walk_at "M.enter"
  walk_at "M.steps"
  refine hret _ _ _ (Fr.keep (by assumption)) (NL.of (by assumption) (by k_mem) (by assumption) ?_)
  simpa using hlen

end
theorem rows_zneg : True := by
  k_with "M.call" => ((with_reducible show wpAny _ _ (call (Value.ref 79) _) _ _ _); k_dflt (refine' pc_useL (zneg_c _ _ _ _ _ _) ?qqk1 ?qqk2 ?qqk3 ?qqk4 ?qqk5 ?qqkK ?qqkd ?qqku ?qqkp ?qqkD ?_; (walk_at "M.use"); (case qqkp => walk_at "M.pre"); (case qqkD => walk_at "M.off"); k_whole; intro _ _ _ _ _ _ _ _ _ _; (try k_sweep)))
  trivial
section
theorem zsub_c (w : World) (mean mg mb) (l1 l2 : Addr) (ns ms : List Int) :
    PCall w mean mg mb 3 86 [.ref l1, .ref l2] (fun h => AL h l1 ns ∧ AL h l2 ms) (fun h h' r => NL h h' r (subL ns ms)) := by
  unfold PCall; k_fill
  intro dp un gd cn cs a ccd cl outer A₀ base h₀ L m sh gg dd tk oo Q E B F X T hk hdp hun hpre hret
  obtain ⟨⟨vs, hl, hi, hlen⟩, ⟨us, hl2, hi2, hlen2⟩⟩ := hpre
  refine wpAny_call ?_
  k_dflt walk_at "M.enter"
  walk_at "M.steps"
  exact hret _ _ _ (Fr.keep (by assumption)) (NL.of (by assumption) (by k_mem) (by assumption) (by assumption))

end
theorem rows_zsub : True := by
  k_with "M.call" => ((with_reducible show wpAny _ _ (call (Value.ref 86) _) _ _ _); k_dflt (refine' pc_useL (zsub_c _ _ _ _ _ _ _ _) ?qqk1 ?qqk2 ?qqk3 ?qqk4 ?qqk5 ?qqkK ?qqkd ?qqku ?qqkp ?qqkD ?_; (walk_at "M.use"); (case qqkp => walk_at "M.pre"); (case qqkD => walk_at "M.off"); k_whole; intro _ _ _ _ _ _ _ _ _ _; (try k_sweep)))
  trivial
section
structure PsS where
  lr : Addr
  ur : List Value
  nr : Nat
  zr : List Int
  lf : Addr
  uf : List Value
  nf : Nat
  zf : List Int
  left : Int
  t : Tok
  tf : Tok
  tm : Tok
/-- a tuple of two lists of ints and an int, made in the call -/
noncomputable def NT (h h' : Heap) (r : Value) (x y : List Int) (z : Int) : Prop :=
  ∃ (T l1 l2 : Addr) (u1 u2 : List Value) (n1 n2 : Nat) (t : Tok), r = .ref T ∧ h.get? T = none ∧ h.get? l1 = none ∧ h.get? l2 = none ∧ h'.get? T = some { cls := .type "tuple", data := .seq #[.ref l1, .ref l2, .int z t] } ∧
    h'.get? l1 = some (listOf u1.toArray n1) ∧ h'.get? l2 = some (listOf u2.toArray n2) ∧ IntsAre u1 x ∧ IntsAre u2 y ∧ x.length < 2 ^ 20 ∧ y.length < 2 ^ 20
theorem NT.of {g h : Heap} {L T l1 l2 : Addr} {u1 u2 : List Value} {n1 n2 : Nat} {news : List (Addr × Obj)} {x y : List Int} {z : Int} {t : Tok} (N : News g L h news) (hT : (T, ({ cls := .type "tuple", data := .seq #[.ref l1, .ref l2, .int z t] } : Obj)) ∈ news)
    (h1 : (l1, listOf u1.toArray n1) ∈ news) (h2 : (l2, listOf u2.toArray n2) ∈ news) (i1 : IntsAre u1 x) (i2 : IntsAre u2 y) (e1 : x.length < 2 ^ 20) (e2 : y.length < 2 ^ 20) : NT g h (.ref T) x y z :=
  ⟨T, l1, l2, u1, u2, n1, n2, t, rfl, (N _ hT).2.2, (N _ h1).2.2, (N _ h2).2.2, (N _ hT).1, (N _ h1).1, (N _ h2).1, i1, i2, e1, e2⟩
theorem pseudo_c (w : World) (mean mg mb) (l1 l2 : Addr) (R B : Nat) (ns ms : List Int) :
    PCall w mean mg mb 4 140 [.ref l1, .ref l2] (fun h => AL h l1 ns ∧ AL h l2 ms ∧ 0 < ms.length ∧ BdL R ns ∧ BdL B ms ∧ ns.length < 1000 ∧ ms.length < 1000 ∧ R + (ns.length + 2) * (B + 1) ≤ 1000000)
      (fun h h' r => NT h h' r (pseudoL ns ms).1 (pseudoL ns ms).2.1 (pseudoL ns ms).2.2) := by
  unfold PCall; k_fill
  intro dp un gd cn cs a ccd cl outer A₀ base h₀ L m sh gg dd tk oo Q E B' F X T hk hdp hun hpre hret
  obtain ⟨hA1, hA2, hms, hR, hB, hl1000, hm1000, hbits⟩ := hpre
  obtain ⟨vs, hl, hi, hlen⟩ := id hA1
  obtain ⟨us, hl2, hi2, hlen2⟩ := id hA2
  refine wpAny_call ?_
  k_dflt walk_at "M.enter"
  walk_at "M.steps"
  have hmany : (ns.length : Int) - ms.length + 1 ≤ psMany ns ms ∧ 0 ≤ psMany ns ms ∧ psMany ns ms ≤ ns.length + 1 := by unfold psMany; split <;> omega
  refine m_whileO (σ := PsS) (fun c => [(c.lr, listOf c.ur.toArray c.nr), (c.lf, listOf c.uf.toArray c.nf)]) (fun c => [(Str.ofString "rest", .ref c.lr), (Str.ofString "found", .ref c.lf), (Str.ofString "left", .int c.left c.t), (Str.ofString "b", .ref l2), (Str.ofString "first", .int (leadL ms) c.tf), (Str.ofString "many", .int (psMany ns ms) c.tm)])
    (fun c => IntsAre c.ur c.zr ∧ IntsAre c.uf c.zf ∧ c.zr.length ≤ ns.length ∧ c.zf.length < 2 ^ 20 ∧ BdL (R + (ns.length - c.zr.length) * (B + 1)) c.zr ∧ BdL (R + (ns.length - c.zr.length) * (B + 1)) c.zf ∧
      0 ≤ c.left ∧ (c.zr.length : Int) - ms.length + 1 ≤ c.left ∧ c.left ≤ ns.length + 1 ∧ ∃ f, c.zr.length < f ∧ psLoop ms (leadL ms) f c.zr c.zf c.left = psLoop ms (leadL ms) (ns.length + 1) ns [] (psMany ns ms)) (fun c => c.zr.length) (by assumption) (by assumption)
      ⟨⟨_, _, _, ns, _, _, _, [], _, _, _, _⟩, by with_unfolding_all kst_all, by dsimp only; kst_allIn, by assumption, .nil, Nat.le_refl _, by dsimp only; decide, by dsimp only; rw [Nat.sub_self, Nat.zero_mul]; exact hR, (fun x hx => nomatch hx), hmany.2.1, hmany.1, hmany.2.2, _, Nat.lt_succ_self _, rfl⟩ ?_ PassesOwn.never
  rintro ⟨lr, ur, nr, zr, lf, uf, nf, zf, left, t, tf, tm⟩ u h tk gg dd oo Qb Qn hEnd hRt hNx ⟨hir, hif, hlr, hlf, hbr, hbf, hl0, hl1, hl2', f, hf, he⟩ F1 N1
  dsimp only at hir hif hlr hlf hbr hbf hl0 hl1 hl2' hf he F1 N1 ⊢
  simp only [kstB] at F1
  have hlr2 : zr.length < 2 ^ 20 := by omega
  by_cases hc : ms.length ≤ zr.length
  · have hle : R + (ns.length - zr.length) * (B + 1) ≤ 1000000 := Nat.le_trans (Nat.add_le_add_left (Nat.mul_le_mul_right _ (by omega)) _) hbits
    have hr6 : BdL 1048576 zr := hbr.mono (by omega)
    have hf6 : BdL 1048576 zf := hbf.mono (by omega)
    have hB6 : BdL 1048576 ms := hB.mono (Nat.le_trans (Nat.le_trans (Nat.le_succ _) (Nat.le_mul_of_pos_left (B + 1) (show 0 < ns.length + 2 by omega))) (by omega))
    have hfirst : Bd 1048576 (leadL ms) := by rw [lead_def]; exact hB6.cof _
    have e1 : zr.getD (-1 + (zr.length : Int)).toNat 0 = leadL zr := by
      rw [lead_def]; congr 1; omega
    have hnum : Bd 1048576 (zr.getD (-1 + (zr.length : Int)).toNat 0) := by rw [e1, lead_def]; exact hr6.cof _
    have hp0 : 0 ≤ (zr.length : Int) - ms.length := by omega
    have hp1 : (zr.length : Int) - ms.length < 2 ^ 19 := by omega
    have h19 : (scaleL ms (zr.getD (-1 + (zr.length : Int)).toNat 0)).length < 2 ^ 19 := by
      unfold scaleL; split
      · rw [List.length_map]; omega
      · exact Nat.two_pow_pos _
    walk_at "M.steps"
    have hst : psStep ms (leadL ms) zr = subL (scaleL zr (leadL ms)) (raiseL (scaleL ms (zr.getD (-1 + (zr.length : Int)).toNat 0)) ((zr.length : Int) - ms.length).toNat) := by
      unfold psStep; rw [e1]; congr 2; omega
    have hfo : psFound ms (leadL ms) zr zf = subL (scaleL zf (leadL ms)) (raiseL [-(zr.getD (-1 + (zr.length : Int)).toNat 0)] ((zr.length : Int) - ms.length).toNat) := by
      unfold psFound; rw [e1]; congr 2; omega
    have hsl := step_len hms hc
    have hb1 := step_bd hbr hB
    have hb2 := found_bd hbf hbr hB
    have hmul : R + (ns.length - zr.length) * (B + 1) + B + 1 ≤ R + (ns.length - (psStep ms (leadL ms) zr).length) * (B + 1) := by
      have : (ns.length - zr.length + 1) * (B + 1) ≤ (ns.length - (psStep ms (leadL ms) zr).length) * (B + 1) := Nat.mul_le_mul_right _ (by omega)
      rw [Nat.add_mul, Nat.one_mul] at this
      omega
    obtain ⟨f, rfl⟩ : ∃ f', f = f' + 1 := ⟨f - 1, by omega⟩
    rw [psLoop, if_pos hc, hst, hfo] at he
    rw [hst] at hsl hb1 hmul
    rw [hfo] at hb2
    refine hEnd ⟨_, _, _, subL (scaleL zr (leadL ms)) (raiseL (scaleL ms (zr.getD (-1 + (zr.length : Int)).toNat 0)) ((zr.length : Int) - ms.length).toNat), _, _, _, subL (scaleL zf (leadL ms)) (raiseL [-(zr.getD (-1 + (zr.length : Int)).toNat 0)] ((zr.length : Int) - ms.length).toNat), left - 1, _, _, _⟩
      (by assumption) (by assumption) (by with_unfolding_all kst_all) (by dsimp only; kst_allIn) ⟨by assumption, by assumption, by dsimp only; omega, by assumption, hb1.mono (by omega), hb2.mono (by omega), by dsimp only; omega, by dsimp only; omega, by dsimp only; omega, f, by dsimp only; omega, he⟩ ?_
    exact hsl
  · have hle : R + (ns.length - zr.length) * (B + 1) ≤ 1000000 := Nat.le_trans (Nat.add_le_add_left (Nat.mul_le_mul_right _ (by omega)) _) hbits
    have hr6 : BdL 1048576 zr := hbr.mono (by omega)
    have hf6 : BdL 1048576 zf := hbf.mono (by omega)
    have hpw : Bd B (leadL ms) := by rw [lead_def]; exact hB.cof _
    have hbl : (B : Int) * left ≤ 1000000 := by
      refine Int.le_trans (Int.mul_le_mul_of_nonneg_left hl2' (by omega)) ?_
      have e : (ns.length + 2) * (B + 1) = B * (ns.length + 1) + (B + ns.length + 2) := by rw [Nat.mul_add, Nat.mul_one, Nat.add_mul, Nat.mul_comm B, Nat.add_mul, Nat.one_mul, Nat.two_mul]; omega
      have : B * (ns.length + 1) ≤ 1000000 := by omega
      rw [show ((ns.length : Int) + 1) = ((ns.length + 1 : Nat) : Int) from rfl, ← Int.natCast_mul]
      omega
    have hpc : (B : Int) * left ≤ 100000000 := by omega
    have hmore : Bd 1048576 (leadL ms ^ left.toNat) := (bd_pow hpw _).mono (by
      have : ((B * left.toNat : Nat) : Int) ≤ 1000000 := by rw [Int.natCast_mul, Int.toNat_of_nonneg hl0]; exact hbl
      omega)
    walk_at "M.steps"
    refine hNx _ _ ?_
    clear hEnd hRt hNx
    walk_at "M.steps"
    have e : psLoop ms (leadL ms) f zr zf left = (zr, zf, left) := by
      cases f with
      | zero => rfl
      | succ f => unfold psLoop; exact if_neg hc
    have e2 : pseudoL ns ms = (scaleL zf (leadL ms ^ left.toNat), scaleL zr (leadL ms ^ left.toNat), psMany ns ms) := by
      unfold pseudoL; rw [← he, e]
    rw [e2] at hret
    exact hret _ _ _ (Fr.keep (by assumption)) (NT.of (by assumption) (by k_mem) (by k_mem) (by k_mem) (by assumption) (by assumption) (by assumption) (by assumption))
theorem pc_useT {w : World} {mean : ExcName → Option Value} {mg mb : Str → Option Value} {sz : Nat} {f : Addr} {vs : List Value} {Pre : Heap → Prop}
    {dp un : Nat} {gd : Option (List Code)} {cn : Str} {cs : Scope} {a : Addr} {ccd : Value} {cl : List (Str × Addr)} {outer : List Env} {A₀ : Around} {base h₀ : Heap} {L : Addr} {m : Str → Option Value} {sh : Heap} {gg : Array GenState} {dd : Drawn} {tk : Nat} {oo : OsState} {Q E : Value → Shared → Prop} {news : List (Addr × Obj)}
    {x y : List Int} {z : Int} {D : Addr → Prop} (C : PCall w mean mg mb sz f vs Pre (fun h h' r => NT h h' r x y z)) (B : Below A₀ base outer h₀) (F : Fr h₀ L sh m) (X : (hd.heap_1 w.params).In h₀) (N : News h₀ L sh news) (T : Top hd.view_1 (looseW hd.view_1 []) mean mg mb h₀) (hk : cs.kind = .function)
    (hd : dp + sz < recursionLimit) (hu : un + 8 * sz + 100 < cLine) (hp : Pre sh) (hD : ∀ l : Addr, (∀ p ∈ news, @Ne Nat p.1 l) → D l)
    (ret : ∀ T l1 l2 (u1 u2 : List Value) n1 n2 t h' tk', Fr h₀ L h' m → News h₀ L h' ((T, ({ cls := .type "tuple", data := .seq #[.ref l1, .ref l2, .int z t] } : Obj)) :: (l1, listOf u1.toArray n1) :: (l2, listOf u2.toArray n2) :: news) →
      D T ∧ D l1 ∧ D l2 → IntsAre u1 x → IntsAre u2 y → x.length < 2 ^ 20 → y.length < 2 ^ 20 → Q (.ref T) ⟨h', gg, dd, tk', oo⟩) :
    wpAny (model Challenge.rw_xm0142_01.row.prog w) (ktrTop dp un gd cn cs L a ccd cl outer) (call (.ref f) vs) Q E ⟨sh, gg, dd, tk, oo⟩ :=
  pc_use C B F X N T hk hd hu hp fun r h' tk' st F' N' po => by
    obtain ⟨T, l1, l2, u1, u2, n1, n2, t, rfl, a1, a2, a3, b1, b2, b3, i1, i2, e1, e2⟩ := po
    obtain ⟨oL, _, _, hL, _⟩ := F.ns
    have new : ∀ {l : Addr} {o : Obj}, sh.get? l = none → h'.get? l = some o → h'.get? l = some o ∧ l ≠ L ∧ h₀.get? l = none := by
      intro l o hn ho
      refine ⟨ho, fun e => ?_, ?_⟩
      · rw [e, hL] at hn; cases hn
      · cases q : h₀.get? l with
        | none => rfl
        | some o => rw [F.keep _ _ q] at hn; cases hn
    have off : ∀ {l : Addr}, sh.get? l = none → ∀ p ∈ news, p.1 ≠ l := by
      intro l hn p hp e
      have := (N p hp).1
      rw [e, hn] at this; cases this
    refine ret T l1 l2 u1 u2 n1 n2 t h' tk' F' ?_ ⟨hD _ (off a1), hD _ (off a2), hD _ (off a3)⟩ i1 i2 e1 e2
    intro p hp
    rcases List.mem_cons.mp hp with rfl | hp
    · exact new a1 b1
    rcases List.mem_cons.mp hp with rfl | hp
    · exact new a2 b2
    rcases List.mem_cons.mp hp with rfl | hp
    · exact new a3 b3
    · exact N' p hp

end
theorem rows_pseudo : True := by
  k_with "M.call" => ((with_reducible show wpAny _ _ (call (Value.ref 140) _) _ _ _); k_dflt (refine' pc_useT (pseudo_c _ _ _ _ _ _ _ _ _ _) ?qqk1 ?qqk2 ?qqk3 ?qqk4 ?qqk5 ?qqkK ?qqkd ?qqku ?qqkp ?qqkD ?_; (walk_at "M.use"); (case qqkp => walk_at "M.pre"); (case qqkD => walk_at "M.off"); k_whole; intro _ _ _ _ _ _ _ _ _ _ _ _ _ _ _ _ _; (try k_sweep)))
  trivial
section
noncomputable def lessL (p : Nat) : List Int := [-1] ++ (List.replicate (p - 1) 0 ++ [1])
theorem less_c (w : World) (mean mg mb) (x : Int) (t : Tok) :
    PCall w mean mg mb 1 246 [.int x t] (fun h => 1 ≤ x ∧ x ≤ 1000) (fun h h' r => NL h h' r (lessL x.toNat)) := by
  unfold PCall; k_fill
  intro dp un gd cn cs a ccd cl outer A₀ base h₀ L m sh gg dd tk oo Q E B F X T hk hdp hun hpre hret
  obtain ⟨h1, h2⟩ := hpre
  refine wpAny_call ?_
  k_dflt walk_at "M.enter"
  walk_at "M.steps"
  have e : lessL x.toNat = [-1] ++ (List.replicate (x - 1).toNat [0]).flatten ++ [1] := by
    unfold lessL
    rw [repl_flat, List.append_assoc, show (x - 1).toNat = x.toNat - 1 by omega]
  have hl : (lessL x.toNat).length < 2 ^ 20 := by
    unfold lessL
    simp only [List.length_append, List.length_replicate, List.length_cons, List.length_nil]; omega
  rw [e] at hret hl
  exact hret _ _ _ (Fr.keep (by assumption)) (NL.of (by assumption) (by k_mem) (by assumption) hl)

end
theorem rows_less : True := by
  k_with "M.call" => ((with_reducible show wpAny _ _ (call (Value.ref 246) _) _ _ _); k_dflt (refine' pc_useL (less_c _ _ _ _ _ _) ?qqk1 ?qqk2 ?qqk3 ?qqk4 ?qqk5 ?qqkK ?qqkd ?qqku ?qqkp ?qqkD ?_; (walk_at "M.use"); (case qqkp => walk_at "M.pre"); (case qqkD => walk_at "M.off"); k_whole; intro _ _ _ _ _ _ _ _ _ _; (try k_sweep)))
  trivial
section
theorem rs_facts {a b c : Int} (ha : -(2 ^ 40) ≤ a) (ha' : a < 2 ^ 40) (hb : -(2 ^ 40) ≤ b) (hb' : b < 2 ^ 40) (hc : 0 < c) (hc' : c < 2 ^ 40) :
    Builtin.Range.rangeSize a b c = (((if a < b then (b - a - 1) / c + 1 else 0).toNat : Nat) : Int) ∧ Builtin.Range.small a b c = true ∧ (if a < b then (b - a - 1) / c + 1 else 0).toNat ≤ (b - a).toNat := by
  have e : Builtin.Range.rangeSize a b c = if a < b then (b - a - 1) / c + 1 else 0 := by unfold Builtin.Range.rangeSize; rw [if_pos hc]
  obtain ⟨q, hq, hq0, hq1⟩ : ∃ q : Int, (if a < b then (b - a - 1) / c + 1 else 0) = q ∧ 0 ≤ q ∧ q ≤ ((b - a).toNat : Int) := by
    by_cases hab : a < b
    · have hn : 0 ≤ b - a - 1 := Int.le_sub_one_of_lt (Int.sub_pos_of_lt hab)
      refine ⟨_, if_pos hab, Int.add_nonneg (Int.ediv_nonneg hn (Int.le_of_lt hc)) (by decide), ?_⟩
      have := Int.ediv_le_self c hn
      rw [Int.toNat_of_nonneg (Int.le_of_lt (Int.sub_pos_of_lt hab))]
      exact Int.add_le_of_le_sub_right this
    · exact ⟨0, if_neg hab, Int.le_refl 0, Int.natCast_nonneg _⟩
  have hq2 : q < 2 ^ 42 := by clear hq e; omega
  rw [hq] at e ⊢
  refine ⟨by rw [e, Int.toNat_of_nonneg hq0], ?_, ?_⟩
  · unfold Builtin.Range.small
    rw [e]
    clear e hq hq1
    simp only [Builtin.Range.rangeFitsLong, Bool.and_eq_true, Bool.or_eq_true, decide_eq_true_eq, beq_iff_eq, gt_iff_lt, hc, if_true]
    omega
  · exact Int.ofNat_le.mp (by rw [Int.toNat_of_nonneg hq0]; exact hq1)
noncomputable def stepKs (a c : Int) (n : Nat) : List Int := (List.range n).map fun i : Nat => a + (i : Int) * c
section
variable {prog : Program} {w : World} {A : Around} {E : Value → Shared → Prop} {s : Shared} {h₀ : Heap} {L : Addr} {m : Str → Option Value} {env : Env}
/-- the source of a comprehension is a range by steps -/
noncomputable def SrcS (prog : Program) (w : World) (A : Around) (h₀ : Heap) (L : Addr) (m : Str → Option Value) (env : Env) (elt : Expr) (x : Str) (scope : Scope) (cl : List (Str × Addr)) (Fin : Shared → List Value → List (Addr × Obj) → Prop) (xv : Value) (s₁ : Shared) : Prop :=
  ∃ r a b c t u v n news, xv = .ref r ∧ A.handled = none ∧ Fr h₀ L s₁.heap m ∧ News h₀ L s₁.heap news ∧ IsRange s₁.heap r a b c t u v ∧ Builtin.Range.small a b c = true ∧ Builtin.Range.rangeSize a b c = ((n : Nat) : Int) ∧ n ≤ sizeLine ∧
    ∀ s₂ : Shared, (∃ h, s₂ = { s₁ with heap := h }) → LCg.CompRest prog w A h₀ L m env elt x scope cl s₂ (fun _ => True) (fun i v => ∃ t, v = .int (a + (i : Int) * c) t) (Fin s₂) n 0 [] news
theorem SrcS.mk {elt : Expr} {x : Str} {scope : Scope} {cl : List (Str × Addr)} {Fin : Shared → List Value → List (Addr × Obj) → Prop} {r : Addr} {a b c : Int} {t u v : Tok} {news : List (Addr × Obj)} {s₁ : Shared}
    (hh : A.handled = none) (F : Fr h₀ L s₁.heap m) (N : News h₀ L s₁.heap news) (hr : IsRange s₁.heap r a b c t u v) (hb : (-(2 ^ 20) ≤ a ∧ a < 2 ^ 20) ∧ (-(2 ^ 20) ≤ b ∧ b < 2 ^ 20) ∧ 0 < c ∧ c < 2 ^ 20)
    (h : ∀ g, LCg.CompRest prog w A h₀ L m env elt x scope cl { s₁ with heap := g } (fun _ => True) (fun i v => ∃ t, v = .int (a + (i : Int) * c) t) (Fin { s₁ with heap := g }) (if a < b then (b - a - 1) / c + 1 else 0).toNat 0 [] news) :
    SrcS prog w A h₀ L m env elt x scope cl Fin (.ref r) s₁ := by
  obtain ⟨e1, e2, e3⟩ := rs_facts (a := a) (b := b) (c := c) (by omega) (by omega) (by omega) (by omega) hb.2.2.1 (by omega)
  exact ⟨r, a, b, c, t, u, v, _, news, rfl, hh, F, N, hr, e2, e1, by rw [sizeLine_eq]; omega, fun _ ⟨g, e⟩ => e ▸ h g⟩
theorem step_walks {I : Addr} (hh : A.handled = none) (a c : Int) (n : Nat) : Walks prog w A I [I] [I] n (fun i v => ∃ t, v = .int (a + (i : Int) * c) t) (fun i h => IsRangeIter h I (a + (i : Nat) * c) ((n : Int) - (i : Nat)) c) := Walks.range hh I a c n
theorem step_st {I : Addr} {a c : Int} {n : Nat} : ∀ i (h h' : Heap) (o : Obj) (nw : List (Addr × Obj)), IsRangeIter h I (a + (i : Nat) * c) ((n : Int) - (i : Nat)) c → h.get? I = some o → h'.get? I = some o → (∀ b o, h₀.get? b = some o → h'.get? b = some o) → News h₀ L h' nw → True → IsRangeIter h' I (a + (i : Nat) * c) ((n : Int) - (i : Nat)) c :=
  fun i h h' o nw st e e' _ _ _ => by
    have st' : h.get? I = some _ := st
    show h'.get? I = some _
    rw [e', ← e]; exact st'
theorem lc_step {elt iter : Expr} {x : Str} {px : Pos} {scope : Scope} {cl : List (Str × Addr)} {pos : Pos} {Q : Value → Shared → Prop} (F₀ : Fr h₀ L s.heap m)
    (hclos : closureFor scope env = pure cl) (hcell : ∀ y ∈ scope.names, y.2 ≠ .cell) (hkind : scope.kind = .function)
    (hnames : ∀ y ∈ scope.names, y.2 = .local → scope.names.lookup y.1 = some .local) (hx : scope.names.lookup x = some .local)
    (h : wpAny (model prog w) A (eval iter env) (SrcS prog w A h₀ L m env elt x scope cl (fun s₂ => LCg.FinE h₀ L m s₂ Q)) E s)
    (hs : ∀ x, foldedSetIterable iter env x = pure x := by intro _; rfl) :
    wpAny (model prog w) A (eval (.ListComp elt [⟨.Name x px, iter, [], 0⟩] scope pos) env) Q E s := by
  rw [eval_ListComp]
  refine wpAny_comprehension_free (use := none) rfl hs hclos hkind hnames (wpAny_mono h (fun xv s₁ h₁ => ?_) fun _ _ e => e)
  obtain ⟨r, a, b, c, t, u, v, n, news, rfl, hh, F, N, hr, hsm, hn, hsz, R⟩ := h₁
  refine wpAny_pyIter_range hr hsm ?_
  refine LCg.block_U (step_walks hh a c n) hsz (fun i h st => ⟨_, st⟩) step_st hcell hkind hx (by show IsRangeIter _ _ _ _ _; rw [hn]; simpa using Heap.get?_push_size _ rfl) (fun b hb => ?_)
    (F.keeps fun _ _ e => Heap.get?_push_of_some _ e) (N.grown fun _ _ e => Heap.get?_push_of_some _ e) (Nat.ne_of_lt F.ns.lt) (next_is_new F) (fun p hp => Nat.ne_of_lt (Heap.lt_size (N p hp).1)) trivial (R _ ⟨_, rfl⟩) ?_
  · rw [List.mem_singleton.mp hb]
    show s₁.heap.objs.size < (s₁.heap.push _).objs.size
    rw [Heap.size_push]; exact Nat.lt_succ_self _
  · intro D C h tk m' ys news' F' N' o1 hn hC₀ hD₀ hCL hDL hCD offC fin
    refine ⟨m', hn, fun h'' hs'' => fin D h'' tk (F'.change hs'' hCL hC₀) (fun p hp => ?_) o1⟩
    refine ⟨hs''.extBut _ _ ?_ (N' p hp).1, (N' p hp).2⟩
    rcases List.mem_cons.mp hp with rfl | hp
    · exact Ne.symm hCD
    · exact offC p hp
theorem stepKs_lt {a b c k : Int} (hc : 0 < c) (hk : k ∈ stepKs a c (if a < b then (b - a - 1) / c + 1 else 0).toNat) : a ≤ k ∧ k < b := by
  simp only [stepKs, List.mem_map, List.mem_range] at hk
  obtain ⟨i, hi, rfl⟩ := hk
  by_cases h : a < b
  · rw [if_pos h] at hi
    have h0 : 0 ≤ (b - a - 1) / c := Int.ediv_nonneg (by omega) (by omega)
    have h1 : (i : Int) ≤ (b - a - 1) / c := by omega
    have h2 := Int.mul_le_mul_of_nonneg_right h1 (show 0 ≤ c by omega)
    have h3 := Int.ediv_mul_le (b - a - 1) (show c ≠ 0 by omega)
    have h4 : 0 ≤ (i : Int) * c := Int.mul_nonneg (by omega) (by omega)
    omega
  · rw [if_neg h] at hi; simp at hi
theorem kcf_step {elt : Expr} {x : Str} {scope : Scope} {cl : List (Str × Addr)} {S : List (Addr × Obj) → Prop} {Fin : List Value → List (Addr × Obj) → Prop} {news : List (Addr × Obj)} {a b c : Int} (g : Int → Int) (hc : 0 < c)
    (turn : ∀ k t I oI C oC D m₂ ys h tk (E' : Value → Shared → Prop), a ≤ k → k < b → LCg.NsObj oC m₂ → m₂ x = some (.int k t) → Fr h₀ L h m → News h₀ L h ((I, oI) :: (C, oC) :: (D, LCg.lst ys) :: news) → LCg.Off3 I C D news → ((@Ne Nat I C) ∧ (@Ne Nat I D) ∧ (@Ne Nat C D)) → KPfMark →
      wpAny (model prog w) A (eval elt (compEnvC scope cl C env)) (LCg.CompEnd h₀ L m { s with heap := h, toks := tk } I oI C oC D (LCg.lst ys) S (fun y news' => KCfEl news (g k) y news')) E' { s with heap := h, toks := tk })
    (fin : KPfDone (∀ ys, IntsAre ys ((stepKs a c (if a < b then (b - a - 1) / c + 1 else 0).toNat).map g) → Fin ys news)) : LCg.CompRest prog w A h₀ L m env elt x scope cl s S (fun i v => ∃ t, v = .int (a + (i : Int) * c) t) Fin (if a < b then (b - a - 1) / c + 1 else 0).toNat 0 [] news :=
  kcf_rest (ks := stepKs a c (if a < b then (b - a - 1) / c + 1 else 0).toNat) g (by simp [stepKs]) (fun i v hi hv => by
    obtain ⟨t, e⟩ := hv
    exact ⟨a + (i : Int) * c, t, by simp [stepKs, hi], e⟩)
    (fun k t I oI C oC D m₂ ys h tk E' hk hC hx F N off ne mk => turn k t I oI C oC D m₂ ys h tk E' (stepKs_lt hc hk).1 (stepKs_lt hc hk).2 hC hx F N off ne mk) fin
end

end
theorem rows_stepcomp : True := by
  k_with "eval ListComp" => (k_here; (with_reducible show wpAny _ _ (eval (Expr.ListComp _ [⟨_, Expr.Call _ [_, _, _] _ _, _, _⟩] _ _) _) _ _ _); k_dflt (refine lc_step (F₀ := by k_asm) (by with_unfolding_all rfl) (by decide) (by rfl) (by decide) (by rfl) ?_))
  k_with "SrcS" => (k_here; k_dflt (refine SrcS.mk (by rfl) (by k_asm) (by k_asm) (by assumption) (by omega) ?_; intro g'; (refine' kcf_step _ (by omega) (fun k' t' I' oI' C' oC' D' m' ys' h' tk' E' hlo' hhi' hC' hx' F' N' off' ne' hMark' => ?_) ?_); (all_goals (try (simp only [LCg.Off3, and_true] at off'))); kcf_last))
  trivial
section
noncomputable def restsW (ns : List Int) (x : Int) : List Int :=
  (rangeKs 0 (x - 0).toNat).map fun k' => ((stepKs k' x (if k' < (ns.length : Int) then ((ns.length : Int) - k' - 1) / x + 1 else 0).toNat).map fun k' => ns.getD k'.toNat 0).sum
theorem rests_c (w : World) (mean mg mb) (l : Addr) (x : Int) (t : Tok) (ns : List Int) :
    PCall w mean mg mb 3 258 [.ref l, .int x t] (fun h => AL h l ns ∧ 1 ≤ x ∧ x ≤ 6 ∧ ns.length < 1000) (fun h h' r => NL h h' r (restsW ns x)) := by
  unfold PCall; k_fill
  intro dp un gd cn cs a ccd cl outer A₀ base h₀ L m sh gg dd tk oo Q E B F X T hk hdp hun hpre hret
  obtain ⟨⟨vs, hl, hi, hlen⟩, h1, h2, h3⟩ := hpre
  have hlr : (restsW ns x).length < 2 ^ 20 := by unfold restsW; rw [List.length_map, rangeKs_length]; omega
  refine wpAny_call ?_
  k_dflt walk_at "M.enter"
  walk_at "M.steps"
  exact hret _ _ _ (Fr.keep (by assumption)) (NL.of (by assumption) (by k_mem) (by assumption) hlr)

end
theorem rows_rests : True := by
  k_with "M.call" => ((with_reducible show wpAny _ _ (call (Value.ref 258) _) _ _ _); k_dflt (refine' pc_useL (rests_c _ _ _ _ _ _ _ _) ?qqk1 ?qqk2 ?qqk3 ?qqk4 ?qqk5 ?qqkK ?qqkd ?qqku ?qqkp ?qqkD ?_; (walk_at "M.use"); (case qqkp => walk_at "M.pre"); (case qqkD => walk_at "M.off"); k_whole; intro _ _ _ _ _ _ _ _ _ _; (try k_sweep)))
  trivial
section
structure ZxS where
  lr : Addr
  ur : List Value
  nr : Nat
  zr : List Int
  lf : Addr
  uf : List Value
  nf : Nat
  zf : List Int
theorem zx_start (la lb : Nat) (t : Tok) : IntsAre (List.replicate (if (la : Int) - (lb : Int) + 1 > 0 then (la : Int) - (lb : Int) + 1 else 0).toNat [Value.int 0 t]).flatten (List.replicate (la + 1 - lb) 0) := by
  have e : (if (la : Int) - (lb : Int) + 1 > 0 then (la : Int) - (lb : Int) + 1 else 0).toNat = la + 1 - lb := by split <;> omega
  rw [e]
  generalize la + 1 - lb = n
  clear e
  induction n with
  | zero => exact .nil
  | succ n ih => rw [List.replicate_succ, List.replicate_succ, List.flatten_cons]; exact .cons 0 t ih
theorem zexact_c (w : World) (mean mg mb) (l1 l2 : Addr) (R B : Nat) (ns ms res : List Int) :
    PCall w mean mg mb 4 133 [.ref l1, .ref l2] (fun h => AL h l1 ns ∧ AL h l2 ms ∧ 0 < ms.length ∧ BdL R ns ∧ BdL B ms ∧ ns.length < 1000 ∧ ms.length < 1000 ∧ R + (ns.length + 2) * (B + 1) ≤ 8000 ∧ leadL ms ≠ 0 ∧
        zxLoop ms (ns.length + 1) ns (List.replicate (ns.length + 1 - ms.length) 0) = some res)
      (fun h h' r => NL h h' r res) := by
  unfold PCall; k_fill
  intro dp un gd cn cs a ccd cl outer A₀ base h₀ L m sh gg dd tk oo Q E B' F X T hk hdp hun hpre hret
  obtain ⟨hA1, hA2, hms, hR, hB, hl1000, hm1000, hbits, hlead, hres⟩ := hpre
  obtain ⟨vs, hl, hi, hlen⟩ := id hA1
  obtain ⟨us, hl2, hi2, hlen2⟩ := id hA2
  refine wpAny_call ?_
  k_dflt walk_at "M.enter"
  walk_at "M.steps"
  refine m_whileO (σ := ZxS) (fun c => [(c.lr, listOf c.ur.toArray c.nr), (c.lf, listOf c.uf.toArray c.nf)]) (fun c => [(Str.ofString "rest", .ref c.lr), (Str.ofString "found", .ref c.lf), (Str.ofString "b", .ref l2)])
    (fun c => c.lr ≠ c.lf ∧ IntsAre c.ur c.zr ∧ IntsAre c.uf c.zf ∧ c.zr.length ≤ ns.length ∧ c.zf.length = ns.length + 1 - ms.length ∧ BdL (R + (ns.length - c.zr.length) * (B + 1)) c.zr ∧
      ∃ f, c.zr.length < f ∧ zxLoop ms f c.zr c.zf = some res) (fun c => c.zr.length) (by assumption) (by assumption)
      ⟨⟨_, _, _, ns, _, _, _, _⟩, by with_unfolding_all kst_all, by dsimp only; kst_allIn, ?_, by assumption, zx_start _ _ _, Nat.le_refl _, List.length_replicate, by dsimp only; rw [Nat.sub_self, Nat.zero_mul]; exact hR, _, Nat.lt_succ_self _, hres⟩ ?_ PassesOwn.never
  · dsimp only
    refine neN ?_
    omega
  rintro ⟨lr, ur, nr, zr, lf, uf, nf, zf⟩ u h tk gg dd oo Qb Qn hEnd hRt hNx ⟨hne, hir, hif, hlr, hlf, hbr, f, hf, he⟩ F1 N1
  dsimp only at hne hir hif hlr hlf hbr hf he F1 N1 ⊢
  simp only [kstB] at F1
  have hne : @Ne Nat lr lf := hne
  have hlr2 : zr.length < 2 ^ 20 := by omega
  have hlf2 : zf.length < 2 ^ 20 := by omega
  obtain ⟨f, rfl⟩ : ∃ f', f = f' + 1 := ⟨f - 1, by omega⟩
  rw [zxLoop] at he
  by_cases hc : ms.length ≤ zr.length
  · rw [if_pos hc] at he
    have hle : R + (ns.length - zr.length) * (B + 1) ≤ 8000 := Nat.le_trans (Nat.add_le_add_left (Nat.mul_le_mul_right _ (by omega)) _) hbits
    have hr6 : BdL 1048576 zr := hbr.mono (by omega)
    have hB8 : BdL 8999 ms := hB.mono (Nat.le_trans (Nat.le_trans (Nat.le_succ _) (Nat.le_mul_of_pos_left (B + 1) (show 0 < ns.length + 2 by omega))) (by omega))
    have hB6 : BdL 1048576 ms := hB8.mono (by decide)
    have e1 : zr.getD (-1 + (zr.length : Int)).toNat 0 = leadL zr := by
      rw [lead_def]; congr 1; omega
    have e2 : ms.getD (-1 + (ms.length : Int)).toNat 0 = leadL ms := by
      rw [lead_def]; congr 1; omega
    have hd0 : ms.getD (-1 + (ms.length : Int)).toNat 0 ≠ 0 := by rw [e2]; exact hlead
    have hd8 : Bd 8999 (ms.getD (-1 + (ms.length : Int)).toNat 0) := by rw [e2, lead_def]; exact hB8.cof _
    have hnum : Bd 1048576 ((zr.getD (-1 + (zr.length : Int)).toNat 0).fdiv (ms.getD (-1 + (ms.length : Int)).toNat 0)) := bd_fdiv (by rw [e1, lead_def]; exact hr6.cof _)
    have hp0 : 0 ≤ (zr.length : Int) - ms.length := by omega
    have hp1 : (zr.length : Int) - ms.length < 2 ^ 19 := by omega
    have hp2 : (zr.length : Int) - ms.length < zf.length := by omega
    have h19 : (scaleL ms ((zr.getD (-1 + (zr.length : Int)).toNat 0).fdiv (ms.getD (-1 + (ms.length : Int)).toNat 0))).length < 2 ^ 19 := by
      unfold scaleL; split
      · rw [List.length_map]; omega
      · exact Nat.two_pow_pos _
    rw [← e1, ← e2] at he
    by_cases hm0 : (zr.getD (-1 + (zr.length : Int)).toNat 0).fmod (ms.getD (-1 + (ms.length : Int)).toNat 0) ≠ 0
    · rw [if_pos hm0] at he; cases he
    rw [if_neg hm0] at he
    walk_at "M.steps"
    have hst : zxStep ms zr = subL zr (raiseL (scaleL ms ((zr.getD (-1 + (zr.length : Int)).toNat 0).fdiv (ms.getD (-1 + (ms.length : Int)).toNat 0))) ((zr.length : Int) - ms.length).toNat) := by
      unfold zxStep; rw [e1, e2]; congr 2; omega
    have hpn : zr.length - ms.length = ((zr.length : Int) - ms.length).toNat := by omega
    have hsl := zx_len hms hc (by rw [← e1, ← e2]; exact Decidable.not_not.mp hm0)
    have hb1 := zx_bd hbr hB
    have hmul : R + (ns.length - zr.length) * (B + 1) + B + 1 ≤ R + (ns.length - (zxStep ms zr).length) * (B + 1) := by
      have : (ns.length - zr.length + 1) * (B + 1) ≤ (ns.length - (zxStep ms zr).length) * (B + 1) := Nat.mul_le_mul_right _ (by omega)
      rw [Nat.add_mul, Nat.one_mul] at this
      omega
    rw [hst, hpn] at he
    rw [hst] at hsl hb1 hmul
    refine hEnd ⟨_, _, _, subL zr (raiseL (scaleL ms ((zr.getD (-1 + (zr.length : Int)).toNat 0).fdiv (ms.getD (-1 + (ms.length : Int)).toNat 0))) ((zr.length : Int) - ms.length).toNat), _, _, _, zf.set ((zr.length : Int) - ms.length).toNat ((zr.getD (-1 + (zr.length : Int)).toNat 0).fdiv (ms.getD (-1 + (ms.length : Int)).toNat 0))⟩
      (by assumption) (by assumption) (by with_unfolding_all kst_all) (by dsimp only; kst_allIn) ⟨?_, by assumption, by assumption, by dsimp only; omega, by dsimp only; rw [List.length_set]; exact hlf, hb1.mono (by omega), f, by dsimp only; omega, he⟩ ?_
    · dsimp only
      refine neN ?_
      omega
    · exact hsl
  · rw [if_neg hc] at he
    walk_at "M.steps"
    refine hNx _ _ ?_
    clear hEnd hRt hNx
    walk_at "M.steps"
    · have h0 : zr.length = 0 := by omega
      rw [if_pos h0] at he
      have e : trimL zf = res := Option.some.inj he
      rw [← e] at hret
      exact hret _ _ _ (Fr.keep (by assumption)) (NL.of (by assumption) (by k_mem) (by assumption) (by assumption))

end
theorem rows_zexact : True := by
  k_with "M.call" => ((with_reducible show wpAny _ _ (call (Value.ref 133) _) _ _ _); k_dflt (refine' pc_useL (zexact_c _ _ _ _ _ _ _ _ _ _ _) ?qqk1 ?qqk2 ?qqk3 ?qqk4 ?qqk5 ?qqkK ?qqkd ?qqku ?qqkp ?qqkD ?_; (walk_at "M.use"); (case qqkp => walk_at "M.pre"); (case qqkD => walk_at "M.off"); k_whole; intro _ _ _ _ _ _ _ _ _ _; (try k_sweep)))
  trivial
section
noncomputable def zxOk (ns ms res : List Int) : Bool := (decide (0 < ms.length) && ns.all (fun x => decide (x.natAbs < 2)) && ms.all (fun x => decide (x.natAbs < 2)) && decide (ns.length < 100) && decide (ms.length < 100) && decide (leadL ms ≠ 0) && decide (zxLoop ms (ns.length + 1) ns (List.replicate (ns.length + 1 - ms.length) 0) = some res))
theorem zexact_lit (w : World) (mean mg mb) (l1 l2 : Addr) (ns ms res : List Int) :
    PCall w mean mg mb 4 133 [.ref l1, .ref l2] (fun h => AL h l1 ns ∧ AL h l2 ms ∧ zxOk ns ms res = true) (fun h h' r => NL h h' r res) := by
  have C := zexact_c w mean mg mb l1 l2 1 1 ns ms res
  intro dp un gd cn cs a ccd cl outer A₀ base h₀ L m sh gg dd tk oo Q E B F X T hk hdp hun hpre hret
  obtain ⟨hp1, hp2, hc⟩ := hpre
  simp only [zxOk, Bool.and_eq_true, decide_eq_true_eq, List.all_eq_true] at hc
  obtain ⟨⟨⟨⟨⟨⟨c1, c2⟩, c3⟩, c4⟩, c5⟩, c6⟩, c7⟩ := hc
  exact C dp un gd cn cs a ccd cl outer A₀ base h₀ L m sh gg dd tk oo Q E B F X T hk hdp hun ⟨hp1, hp2, c1, c2, c3, by omega, by omega, by omega, c6, c7⟩ hret
/-- what stands after i turns of the loop -/
noncomputable def orderT : List (List (List Int)) := [[], [], [[], [1, 1]], [[], [1, 1, 1], [1, 1, 1]], [[], [1, 1, 1, 1], [1, 0, 1], [1, 0, 1]], [[], [1, 1, 1, 1, 1], [1, 1, 1, 1, 1], [1, 1, 1, 1, 1], [1, 1, 1, 1, 1]],
  [[], [1, 1, 1, 1, 1, 1], [1, 0, 1, 0, 1], [1, -1, 1], [1, -1, 1], [1, -1, 1]]]
noncomputable def orderAt (t i : Nat) : List Int := if i = 0 then lessL t else (orderT.getD t []).getD i []
noncomputable def orderL (t : Nat) : List Int := orderAt t (t - 1)
theorem order_step {t i : Nat} (ht : t ≤ 6) (hi : i + 1 < t) : (t % (i + 1) = 0 → zxOk (orderAt t i) (orderL (i + 1)) (orderAt t (i + 1)) = true) ∧ (t % (i + 1) ≠ 0 → orderAt t (i + 1) = orderAt t i) := by
  have h : ∀ t < 7, ∀ i < 7, i + 1 < t → (t % (i + 1) = 0 → zxOk (orderAt t i) (orderL (i + 1)) (orderAt t (i + 1)) = true) ∧ (t % (i + 1) ≠ 0 → orderAt t (i + 1) = orderAt t i) := by decide +kernel
  exact h t (by omega) i (by omega) hi
theorem orderAt_zero (t : Nat) : orderAt t 0 = lessL t := rfl
theorem order_len {t i : Nat} (ht : t ≤ 6) : (orderAt t i).length < 20 := by
  unfold orderAt
  by_cases h0 : i = 0
  · rw [if_pos h0]
    unfold lessL; simp only [List.length_append, List.length_replicate, List.length_cons, List.length_nil]; omega
  · rw [if_neg h0]
    have h1 : ∀ t < 7, ∀ i < 7, ((orderT.getD t []).getD i []).length < 20 := by decide
    have h2 : ∀ t < 7, (orderT.getD t []).length < 7 := by decide
    by_cases hi : i < 7
    · exact h1 t (by omega) i hi
    · have := h2 t (by omega)
      rw [List.getD_eq_getElem?_getD, List.getElem?_eq_none (by omega)]
      decide
theorem rows_zexact_lit : True := by
  k_with "M.call" => ((with_reducible show wpAny _ _ (call (Value.ref 133) _) _ _ _); k_dflt (refine' pc_useL (zexact_lit _ _ _ _ _ _ _ _ _) ?qqk1 ?qqk2 ?qqk3 ?qqk4 ?qqk5 ?qqkK ?qqkd ?qqku ?qqkp ?qqkD ?_; (walk_at "M.use"); (case qqkp => walk_at "M.pre"); (case qqkD => walk_at "M.off"); k_whole; intro _ _ _ _ _ _ _ _ _ _; (try k_sweep)))
  trivial
theorem order_c (w : World) (mean mg mb) (n : Nat) : ∀ (t : Nat) (tk : Tok), t ≤ n → PCall w mean mg mb (5 + n) 253 [.int (t : Int) tk] (fun _ => 1 ≤ t ∧ t ≤ 6) (fun h h' r => NL h h' r (orderL t)) := by
  induction n with
  | zero =>
    intro t tk hn dp un gd cn cs a ccd cl outer A₀ base h₀ L m sh gg dd tk₉ oo Q E B F X T hk hdp hun hpre hret
    omega
  | succ n ih =>
  intro t tk hn
  unfold PCall; k_fill
  intro dp un gd cn cs a ccd cl outer A₀ base h₀ L m sh gg dd tk₉ oo Q E B F X T hk hdp hun hpre hret
  obtain ⟨ht1, ht6⟩ := hpre
  have hbb : 1 ≤ (t : Int) ∧ (t : Int) ≤ 1000 := by omega
  refine wpAny_call ?_
  k_dflt walk_at "M.enter"
  walk_at "M.steps"
  rename IsRange _ _ _ _ _ _ _ _ => rgX
  rename Fr _ _ _ _ => lF'
  rename News _ _ _ _ => lN'
  have hsm : Builtin.Range.small 1 (t : Int) 1 = true := small_one (by omega) (by omega) (by omega) (by omega)
  have hrs : Builtin.Range.rangeSize 1 (t : Int) 1 = ((t - 1 : Nat) : Int) := by rw [rangeSize_nat]; omega
  refine m_rangeF (σ := Addr × List Value × Nat) (fun c => [(c.1, listOf c.2.1.toArray c.2.2)]) (fun c => [(Str.ofString "found", .ref c.1), (Str.ofString "t", .int (t : Int) tk)]) (fun i c => IntsAre c.2.1 (orderAt t i)) (_, _, _) rfl rgX hsm hrs lF' lN' (by dsimp only; kst_allIn) (fun c p hp => .inr ⟨c.2.1.toArray, c.2.2, congrArg Prod.snd (List.mem_singleton.mp hp)⟩) (by with_unfolding_all kst_all) ?_ ?_ ?_
  · have e : orderAt t 0 = lessL (t : Int).toNat := by rw [Int.toNat_natCast]; exact orderAt_zero t
    rw [e]; assumption
  · rintro i ⟨la, ua, na⟩ t2 u h tk' own Qb hEnd hRt hi hP - F1 N1
    dsimp only at hP F1 N1 ⊢
    have e : (1 : Int) + (i : Int) = ((i + 1 : Nat) : Int) := by omega
    rw [e] at F1
    have hi2 : i + 1 < t := by omega
    have hlen := order_len (i := i) ht6
    have hnz : ((i + 1 : Nat) : Int) ≠ 0 := by omega
    have hb9 : Bd 8999 ((i + 1 : Nat) : Int) := by
      unfold Bd
      refine Nat.lt_of_lt_of_le (show ((i + 1 : Nat) : Int).natAbs < 2 ^ 4 by omega) (Nat.pow_le_pow_right (by decide) (by decide))
    have hm : ((t : Int).fmod ((i + 1 : Nat) : Int) = 0) ↔ t % (i + 1) = 0 := by
      rw [Int.fmod_eq_emod_of_nonneg _ (by omega)]
      omega
    clear ht1 hbb hsm hrs e
    walk_at "M.steps"
    · have hz : zxOk (orderAt t i) (orderL (i + 1)) (orderAt t (i + 1)) = true := (order_step ht6 hi2).1 (hm.mp (by assumption))
      k_dflt (refine' pc_useL (ih _ _ ?kl) ?qqk1 ?qqk2 ?qqk3 ?qqk4 ?qqk5 ?qqkK ?qqkd ?qqku ?kp ?kD ?_; (walk_at "M.use"); (case kp => (constructor <;> omega)); (case kl => omega); (case kD => walk_at "M.off"); k_whole; intro _ _ _ _ _ _ _ _ _ _; (try k_sweep))
      walk_at "M.steps"
      refine hEnd (_, _, _) (by assumption) (by assumption) (by with_unfolding_all kst_all) (by dsimp only; kst_allIn) (fun _ h => by first | exact .tail _ (.tail _ h) | exact .tail _ (.tail _ (.tail _ h)) | exact .tail _ h) ?_
      assumption
    · refine hEnd (_, _, _) (by assumption) (by assumption) (by with_unfolding_all kst_all) (by dsimp only; kst_allIn) (fun _ h => .tail _ h) ?_
      have hz : orderAt t (i + 1) = orderAt t i := (order_step ht6 hi2).2 fun h => absurd (hm.mpr h) (by assumption)
      dsimp only
      rw [hz]; exact hP
  · rintro ⟨la, ua, na⟩ u h tk' hP F1 N1
    dsimp only at hP F1 N1 ⊢
    walk_at "M.steps"
    exact hret _ _ _ (Fr.keep (by assumption)) (NL.of (by assumption) (by k_mem) (by assumption) (by have := order_len (i := t - 1) ht6; unfold orderL; omega))

end
theorem rows_order : True := by
  k_with "M.call" => ((with_reducible show wpAny _ _ (call (Value.ref 253) _) _ _ _); k_dflt (refine' pc_useL (order_c _ _ _ _ 6 _ _ ?qqkl) ?qqk1 ?qqk2 ?qqk3 ?qqk4 ?qqk5 ?qqkK ?qqkd ?qqku ?qqkp ?qqkD ?_; (case qqkl => omega); (walk_at "M.use"); (case qqkp => first | assumption | (constructor <;> omega)); (case qqkD => exact fun _ h => h); k_whole; intro _ _ _ _ _ _ _ _ _ _; (try k_sweep)))
  trivial
section
theorem zdegree_c (w : World) (mean mg mb) (l : Addr) (ns : List Int) :
    PCall w mean mg mb 1 62 [.ref l] (fun h => AL h l ns) (fun _ _ r => ∃ t, r = .int ((ns.length : Int) - 1) t) := by
  unfold PCall; k_fill
  intro dp un gd cn cs a ccd cl outer A₀ base h₀ L m sh gg dd tk oo Q E B F X T hk hdp hun hpre hret
  obtain ⟨vs, hl, hi, hlen⟩ := hpre
  refine wpAny_call ?_
  k_dflt walk_at "M.enter"
  k_steps
  all_goals exact hret _ _ _ (Fr.keep (by assumption)) ⟨_, rfl⟩

end
theorem rows_zdegree : True := by
  k_with "M.call" => ((with_reducible show wpAny _ _ (call (Value.ref 62) _) _ _ _); k_dflt (refine' pc_useI (zdegree_c _ _ _ _ _ _) ?qqk1 ?qqk2 ?qqk3 ?qqk4 ?qqk5 ?qqkK ?qqkd ?qqku ?qqkp ?_; (walk_at "M.use"); (case qqkp => walk_at "M.pre"); k_whole; intro _ _ _ _ _; (try k_sweep)))
  trivial
section
theorem fullrest_c (w : World) (mean mg mb) (l1 l2 : Addr) (R B : Nat) (ns ms : List Int) :
    PCall w mean mg mb 5 218 [.ref l1, .ref l2] (fun h => AL h l1 ns ∧ AL h l2 ms ∧ 0 < ms.length ∧ ms.length ≤ ns.length ∧ BdL R ns ∧ BdL B ms ∧ ns.length < 1000 ∧ ms.length < 1000 ∧ R + (ns.length + 2) * (B + 1) ≤ 1000000)
      (fun h h' r => NL h h' r (pseudoL ns ms).2.1) := by
  unfold PCall; k_fill
  intro dp un gd cn cs a ccd cl outer A₀ base h₀ L m sh gg dd tk oo Q E B' F X T hk hdp hun hpre hret
  obtain ⟨hA1, hA2, hms, hml, hR, hB, hl1000, hm1000, hbits⟩ := hpre
  obtain ⟨vs, hl, hi, hlen⟩ := id hA1
  obtain ⟨us, hl2, hi2, hlen2⟩ := id hA2
  have e0 : (ns.length : Int) - 1 - ((ms.length : Int) - 1) + 1 - (pseudoL ns ms).2.2 = 0 := by
    have := (many_facts ns ms).2.2.2 hml
    show _ - psMany ns ms = 0
    omega
  have hp0 : 0 ≤ (ns.length : Int) - 1 - ((ms.length : Int) - 1) + 1 - (pseudoL ns ms).2.2 := by rw [e0]; exact Int.le_refl _
  have hpc : (B : Int) * ((ns.length : Int) - 1 - ((ms.length : Int) - 1) + 1 - (pseudoL ns ms).2.2) ≤ 100000000 := by rw [e0]; omega
  have hpw : Bd B (leadL ms) := by rw [lead_def]; exact hB.cof _
  have e1 : leadL ms ^ ((ns.length : Int) - 1 - ((ms.length : Int) - 1) + 1 - (pseudoL ns ms).2.2).toNat = 1 := by rw [e0]; exact Int.pow_zero _
  have hb1 : Bd 1048576 (leadL ms ^ ((ns.length : Int) - 1 - ((ms.length : Int) - 1) + 1 - (pseudoL ns ms).2.2).toNat) := by rw [e1]; show (1 : Nat) < 2 ^ 1048576; exact Nat.one_lt_two_pow (by decide)
  have hb2 : BdL 1048576 (pseudoL ns ms).2.1 := (pseudo_bd hms hR hB).mono (by
    have h1 := (many_facts ns ms).2.2.1
    have h2 : (psMany ns ms).toNat * (B + 1) ≤ (ns.length + 2) * (B + 1) := Nat.mul_le_mul_right _ (by omega)
    omega)
  refine wpAny_call ?_
  k_dflt walk_at "M.enter"
  walk_at "M.steps"
  rename IntsAre ys _ => hI
  rw [e1, show List.map (fun k' : Int => k' * 1) (pseudoL ns ms).2.1 = (pseudoL ns ms).2.1 from (List.map_congr_left fun x _ => Int.mul_one x).trans (List.map_id _)] at hI
  exact hret _ _ _ (Fr.keep (by assumption)) (NL.of (by assumption) (by k_mem) (by assumption) (by assumption))

end
theorem rows_fullrest : True := by
  k_with "M.call" => ((with_reducible show wpAny _ _ (call (Value.ref 218) _) _ _ _); k_dflt (refine' pc_useL (fullrest_c _ _ _ _ _ _ _ _ _ _) ?qqk1 ?qqk2 ?qqk3 ?qqk4 ?qqk5 ?qqkK ?qqkd ?qqku ?qqkp ?qqkD ?_; (walk_at "M.use"); (case qqkp => walk_at "M.pre"); (case qqkD => walk_at "M.off"); k_whole; intro _ _ _ _ _ _ _ _ _ _; (try k_sweep)))
  trivial
section
theorem divided_c (w : World) (mean mg mb) (l : Addr) (k : Int) (tk₀ : Tok) (ns : List Int) :
    PCall w mean mg mb 2 213 [.ref l, .int k tk₀] (fun h => AL h l ns ∧ Nz k ∧ Bd 8999 k) (fun h h' r => NL h h' r (ns.map fun x => x.fdiv k)) := by
  unfold PCall; k_fill
  intro dp un gd cn cs a ccd cl outer A₀ base h₀ L m sh gg dd tk oo Q E B F X T hk hdp hun hpre hret
  obtain ⟨⟨vs, hl, hi, hlen⟩, hb, hkb⟩ := hpre
  have hb : k ≠ 0 := hb
  have hpy : ∀ x, Builtin.divisionGoesByPylong x k = false := fun x => hkb.noPy
  refine wpAny_call ?_
  k_dflt walk_at "M.enter"
  walk_at "M.steps"
  refine hret _ _ _ (Fr.keep (by assumption)) (NL.of (by assumption) (by k_mem) (by assumption) ?_)
  simpa using hlen

end
theorem rows_divided : True := by
  k_with "M.call" => ((with_reducible show wpAny _ _ (call (Value.ref 213) _) _ _ _); k_dflt (refine' pc_useL (divided_c _ _ _ _ _ _ _ _) ?qqk1 ?qqk2 ?qqk3 ?qqk4 ?qqk5 ?qqkK ?qqkd ?qqku ?qqkp ?qqkD ?_; (walk_at "M.use"); (case qqkp => walk_at "M.pre"); (case qqkD => walk_at "M.off"); k_whole; intro _ _ _ _ _ _ _ _ _ _; (try k_sweep)))
  trivial
section
/-- the next divisor of the row, the next h -/
noncomputable def rrB (a b : List Int) (g h : Int) : List Int := (pseudoL a b).2.1.map fun x => x.fdiv (g * h ^ ((a.length : Int) - 1 - ((b.length : Int) - 1)).toNat)
noncomputable def rrH (a b : List Int) (h : Int) : Int := if 0 < (a.length : Int) - 1 - ((b.length : Int) - 1) then (leadL b ^ ((a.length : Int) - 1 - ((b.length : Int) - 1)).toNat).fdiv (h ^ ((a.length : Int) - 1 - ((b.length : Int) - 1) - 1).toNat) else h
noncomputable def rrS (a b : List Int) (sg : Int) : Int := if ((a.length : Int) - 1).fmod 2 = 1 ∧ ((b.length : Int) - 1).fmod 2 = 1 then -sg else sg
/-- the row runs to its end and hands back res; all is of some size, no divisor is 0 -/
noncomputable def RrOk : Nat → List Int → List Int → Int → Int → Int → Int → Prop
  | 0, _, _, _, _, _, _ => False
  | f + 1, a, b, sg, g, h, res =>
    if 1 < b.length then
      (b.length ≤ a.length ∧ a.length ≤ 20 ∧ (∃ R B, BdL R a ∧ BdL B b ∧ R + (a.length + 2) * (B + 1) ≤ 1000000) ∧ Bd 4000 g ∧ Bd 4000 h ∧ Bd 4000 (leadL b) ∧
        (g * h ^ ((a.length : Int) - 1 - ((b.length : Int) - 1)).toNat ≠ 0 ∧ Bd 8999 (g * h ^ ((a.length : Int) - 1 - ((b.length : Int) - 1)).toNat)) ∧
        (0 < (a.length : Int) - 1 - ((b.length : Int) - 1) → h ^ ((a.length : Int) - 1 - ((b.length : Int) - 1) - 1).toNat ≠ 0 ∧ Bd 8999 (h ^ ((a.length : Int) - 1 - ((b.length : Int) - 1) - 1).toNat))) ∧
      RrOk f b (rrB a b g h) (rrS a b sg) (leadL b) (rrH a b h) res
    else
      if b.length = 0 then res = 0 else
        a.length ≤ 20 ∧ 1 ≤ a.length ∧ Bd 40000 (b.getD 0 0) ∧ Bd 4000 h ∧ Bd 1 sg ∧
          (0 < (a.length : Int) - 1 → h ^ ((a.length : Int) - 1 - 1).toNat ≠ 0 ∧ Bd 8999 (h ^ ((a.length : Int) - 1 - 1).toNat)) ∧
          res = sg * (if 0 < (a.length : Int) - 1 then (b.getD 0 0 ^ ((a.length : Int) - 1).toNat).fdiv (h ^ ((a.length : Int) - 1 - 1).toNat) else 1)
structure RrS where
  led : List (Addr × Obj)
  la : Addr
  ua : List Value
  na : Nat
  za : List Int
  lb : Addr
  ub : List Value
  nb : Nat
  zb : List Int
  sg : Int
  ts : Tok
  g : Int
  tg : Tok
  h : Int
  th : Tok
noncomputable def RrS.next (led : List (Addr × Obj)) (la : Addr) (ua : List Value) (na : Nat) (za : List Int) (lb : Addr) (ub : List Value) (nb : Nat) (zb : List Int) (sg : Int) (ts : Tok) (g : Int) (tg : Tok) (h : Int) (th : Tok) : RrS :=
  ⟨(lb, listOf ub.toArray nb) :: led, la, ua, na, za, lb, ub, nb, zb, sg, ts, g, tg, h, th⟩
theorem rowres_c (w : World) (mean : ExcName → Option Value) (mg mb : Str → Option Value) (l1 l2 : Addr) (sg : Int) (t : Tok) (fu : Nat) (ns ms : List Int) (res : Int) (us vs : List Value) (n1 n2 : Nat) (news : List (Addr × Obj))
    (dp un : Nat) (gd : Option (List Code)) (cn : Str) (cs : Scope) (a : Addr) (ccd : Value) (cl : List (Str × Addr)) (outer : List Env) (A₀ : Around) (base h₀ : Heap) (L : Addr) (m : Str → Option Value) (sh : Heap) (gg : Array GenState) (dd : Drawn) (tk : Nat) (oo : OsState) (Q E : Value → Shared → Prop)
    (B : Below A₀ base outer h₀) (F : Fr h₀ L sh m) (X : (hd.heap_1 w.params).In h₀) (N : News h₀ L sh news) (T : Top hd.view_1 (looseW hd.view_1 []) mean mg mb h₀) (hk : cs.kind = .function) (hdp : dp + 6 < recursionLimit) (hun : un + 8 * 6 + 100 < cLine)
    (hm1 : (l1, listOf us.toArray n1) ∈ news) (hm2 : (l2, listOf vs.toArray n2) ∈ news) (hi1 : IntsAre us ns) (hi2 : IntsAre vs ms) (hl1 : ns.length < 2 ^ 20) (hl2 : ms.length < 2 ^ 20) (hok : RrOk fu ns ms sg 1 1 res)
    (hret : ∀ t h' tk', Fr h₀ L h' m → News h₀ L h' news → Q (.int res t) ⟨h', gg, dd, tk', oo⟩) :
    wpAny (model Challenge.rw_xm0142_01.row.prog w) (ktrTop dp un gd cn cs L a ccd cl outer) (call (.ref 225) [.ref l1, .ref l2, .int sg t]) Q E ⟨sh, gg, dd, tk, oo⟩ := by
  revert X; k_fill; intro X
  refine wpAny_noRaise ?_
  refine wpAny_call ?_
  k_dflt walk_at "M.enterE"
  walk_at "M.steps"
  rename News _ _ _ _ => NN
  refine m_whileO (σ := RrS) (fun c => c.led) (fun c => [(Str.ofString "a", .ref c.la), (Str.ofString "b", .ref c.lb), (Str.ofString "sign", .int c.sg c.ts), (Str.ofString "g", .int c.g c.tg), (Str.ofString "h", .int c.h c.th)])
    (fun c => (∀ p ∈ news, p ∈ c.led) ∧ (c.la, listOf c.ua.toArray c.na) ∈ c.led ∧ (c.lb, listOf c.ub.toArray c.nb) ∈ c.led ∧ IntsAre c.ua c.za ∧ IntsAre c.ub c.zb ∧ c.za.length < 2 ^ 20 ∧ c.zb.length < 2 ^ 20 ∧ ∃ f, RrOk f c.za c.zb c.sg c.g c.h res) (fun c => c.zb.length) (by assumption) NN
      ⟨⟨news, _, _, _, ns, _, _, _, ms, _, _, _, _, _, _⟩, by with_unfolding_all kst_all, fun _ h => .tail _ h, fun _ h => h, hm1, hm2, hi1, hi2, hl1, hl2, fu, hok⟩ ?_ PassesOwn.never
  rintro ⟨led, la, ua, na, za, lb, ub, nb, zb, sg, ts, g, tg, h, th⟩ u hh tk gg dd oo Qb Qn hEnd hRt hNx ⟨hsub, hma, hmb, hia, hib, hla, hlb, f, ho⟩ F1 N1
  dsimp only at hsub hma hmb hia hib hla hlb ho F1 N1 ⊢
  simp only [kstB] at F1
  cases f with
  | zero => exact ho.elim
  | succ f =>
  rw [RrOk] at ho
  by_cases hc : 1 < zb.length
  · rw [if_pos hc] at ho
    obtain ⟨⟨hle, hl20, ⟨R, B₁, hRa, hRb, hbits⟩, hg, hh4, hlb4, ⟨hd0, hd8⟩, hgp⟩, hnext⟩ := ho
    have hd0 : Nz _ := hd0
    have hp0 : 0 ≤ (za.length : Int) - 1 - ((zb.length : Int) - 1) := by omega
    have hpc1 : ((4000 : Nat) : Int) * ((za.length : Int) - 1 - ((zb.length : Int) - 1)) ≤ 100000000 := by omega
    have hzb0 : 0 < zb.length := by omega
    have hb1 : Bd 1048576 (h ^ ((za.length : Int) - 1 - ((zb.length : Int) - 1)).toNat) := (bd_pow hh4 _).mono (by omega)
    have hlen' : (rrB za zb g h).length < zb.length := by
      unfold rrB; rw [List.length_map]; exact pseudo_len (by omega) _
    repeat' (first | (k_unfold; (try dsimp only)) | ((walk_at "M.guard"); (fail_if_success (with_reducible show wpAny _ _ (exec (Stmt.If _ _ _ _) _) _ _ _)); walk1) | (dsimp only; (walk_at "M.guard"); (fail_if_success (with_reducible show wpAny _ _ (exec (Stmt.If _ _ _ _) _) _ _ _)); walk1))
    refine if_merge (σ := Tok × Tok) (gg := gg) (dd := dd) (oo := oo) (by assumption) (fun c => [(Str.ofString "a", .ref la), (Str.ofString "b", .ref lb), (Str.ofString "sign", .int (rrS za zb sg) c.1), (Str.ofString "g", .int g tg), (Str.ofString "h", .int h th), (Str.ofString "gap", .int ((za.length : Int) - 1 - ((zb.length : Int) - 1)) c.2)]) led ?_ ?_
    · walk_at "M.steps"
      · have hrs : rrS za zb sg = -sg := if_pos ⟨by assumption, by assumption⟩
        rw [hrs]
        exact merge_end (_, _) (by assumption) (by assumption) (by dsimp only; with_unfolding_all kst_all) (fun _ h => h)
      all_goals
        have hrs : rrS za zb sg = sg := if_neg (by rintro ⟨h1, h2⟩; first | exact absurd h1 (by assumption) | exact absurd h2 (by assumption))
        rw [hrs]
        exact merge_end (_, _) (by assumption) (by assumption) (by dsimp only; with_unfolding_all kst_all) (fun _ h => h)
    rintro hh2 tk2 ⟨t', t2⟩ u' F2 N2
    simp only [kstB] at F2
    by_cases hgap : 0 < (za.length : Int) - 1 - ((zb.length : Int) - 1)
    · obtain ⟨hq0, hq8⟩ := hgp hgap
      clear hgp
      have hp1 : 0 ≤ (za.length : Int) - 1 - ((zb.length : Int) - 1) - 1 := by omega
      have hpc2 : ((4000 : Nat) : Int) * ((za.length : Int) - 1 - ((zb.length : Int) - 1) - 1) ≤ 100000000 := by omega
      have hrh : rrH za zb h = (leadL zb ^ ((za.length : Int) - 1 - ((zb.length : Int) - 1)).toNat).fdiv (h ^ ((za.length : Int) - 1 - ((zb.length : Int) - 1) - 1).toNat) := if_pos hgap
      rw [hrh] at hnext
      walk_at "M.steps"
      refine hEnd (RrS.next led lb ub nb zb _ _ _ (rrB za zb g h) _ _ _ _ _ _) (by assumption) (by assumption) (by with_unfolding_all kst_all) (by dsimp only [RrS.next]; kst_allIn) ?_ hlen'
      exact ⟨fun p hp => .tail _ (hsub p hp), .tail _ hmb, .head _, hib, by assumption, hlb, by assumption, f, hnext⟩
    · clear hgp
      have hrh : rrH za zb h = h := if_neg hgap
      rw [hrh] at hnext
      walk_at "M.steps"
      refine hEnd (RrS.next led lb ub nb zb _ _ _ (rrB za zb g h) _ _ _ _ _ _) (by assumption) (by assumption) (by with_unfolding_all kst_all) (by dsimp only [RrS.next]; kst_allIn) ?_ hlen'
      exact ⟨fun p hp => .tail _ (hsub p hp), .tail _ hmb, .head _, hib, by assumption, hlb, by assumption, f, hnext⟩
  · rw [if_neg hc] at ho
    by_cases hb0 : zb.length = 0
    · rw [if_pos hb0] at ho
      have hz : zb = [] := List.eq_nil_of_length_eq_zero hb0
      walk_at "M.steps"
      refine hNx _ _ ?_
      clear hEnd hRt hNx
      walk_at "M.steps"
      rw [ho] at hret
      exact hret _ _ _ (by assumption) (kst_newsOf (by assumption) fun p hp => .tail _ (hsub p hp))
    · rw [if_neg hb0] at ho
      obtain ⟨hl20, hl1, hb4, hh4, hsg, hgp, hres⟩ := ho
      have hlen1 : zb.length = 1 := by omega
      have hzn : zb ≠ [] := by rintro rfl; exact hb0 rfl
      have hp0 : 0 ≤ (za.length : Int) - 1 := by omega
      have hpc1 : ((40000 : Nat) : Int) * ((za.length : Int) - 1) ≤ 100000000 := by omega
      have hb4 : Bd 40000 (zb.getD (Int.toNat 0) 0) := hb4
      have hbp : Bd 1048576 (zb.getD (Int.toNat 0) 0 ^ ((za.length : Int) - 1).toNat) := (bd_pow hb4 _).mono (by omega)
      by_cases hgap : 0 < (za.length : Int) - 1
      · obtain ⟨hq0, hq8⟩ := hgp hgap
        clear hgp
        rw [if_pos hgap] at hres
        have hp1 : 0 ≤ (za.length : Int) - 1 - 1 := by omega
        have hpc2 : ((4000 : Nat) : Int) * ((za.length : Int) - 1 - 1) ≤ 100000000 := by omega
        have hbq : Bd 1048576 ((zb.getD (Int.toNat 0) 0 ^ ((za.length : Int) - 1).toNat).fdiv (h ^ ((za.length : Int) - 1 - 1).toNat)) := bd_fdiv hbp
        walk_at "M.steps"
        refine hNx _ _ ?_
        clear hEnd hRt hNx
        walk_at "M.steps"
        rw [hres] at hret
        exact hret _ _ _ (by assumption) (kst_newsOf (by assumption) fun p hp => .tail _ (hsub p hp))
      · clear hgp
        rw [if_neg hgap] at hres
        walk_at "M.steps"
        refine hNx _ _ ?_
        clear hEnd hRt hNx
        walk_at "M.steps"
        rw [hres] at hret
        exact hret _ _ _ (by assumption) (kst_newsOf (by assumption) fun p hp => .tail _ (hsub p hp))

end
theorem rows_rowres : True := by
  k_with "M.call" => ((with_reducible show wpAny _ _ (call (Value.ref 225) _) _ _ _); k_dflt (refine' rowres_c _ _ _ _ _ _ _ _ _ _ _ _ _ _ _ _ _ _ _ _ _ _ _ _ _ _ _ _ _ _ _ _ _ _ _ _ _ _ ?qqk1 ?qqk2 ?qqk3 ?qqk4 ?qqk5 ?qqkK ?qqkd ?qqku ?qqp1 ?qqp2 ?qqp3 ?qqp4 ?qqp5 ?qqp6 ?qqp7 ?_; (walk_at "M.use"); (case qqp1 => k_mem); (case qqp2 => k_mem); (case qqp3 => walk_at "M.ints"); (case qqp4 => walk_at "M.ints"); (case qqp5 => walk_at "M.len"); (case qqp6 => walk_at "M.len"); (case qqp7 => assumption); k_whole; intro _ _ _ _ _; (try k_sweep)))
  trivial
section
theorem gcd_step {a b x y : Int} (ha : 0 ≤ a) (hb : 0 ≤ b) (h : b ≠ 0) (e : Int.gcd a b = Int.gcd x y) : 0 ≤ a % b ∧ a % b < b ∧ Int.gcd b (a % b) = Int.gcd x y := by
  refine ⟨Int.emod_nonneg _ h, ?_, ?_⟩
  · have := Int.emod_lt_of_pos a (show 0 < b by omega); omega
  · rw [← e]
    obtain ⟨m, rfl⟩ := Int.eq_ofNat_of_zero_le ha
    obtain ⟨n, rfl⟩ := Int.eq_ofNat_of_zero_le hb
    rw [← Int.natCast_emod]
    simp only [Int.gcd, Int.natAbs_natCast]
    rw [Nat.gcd_comm n, ← Nat.gcd_rec, Nat.gcd_comm]
theorem gcd_start (x y : Int) : 0 ≤ (if x < 0 then -x else x) ∧ Int.gcd (if x < 0 then -x else x) (if y < 0 then -y else y) = Int.gcd x y := by
  refine ⟨by split <;> omega, ?_⟩
  simp only [Int.gcd]
  congr 1 <;> split <;> omega
theorem abs_small {y : Int} {n : Nat} (h : Bd n y) : Bd n (if y < 0 then -y else y) := h.of_le (by split <;> omega)
theorem gcd_c (w : World) (mean mg mb) (x y : Int) (tx ty : Tok) :
    PCall w mean mg mb 1 41 [.int x tx, .int y ty] (fun _ => Bd 8999 x ∧ Bd 8999 y) (fun _ _ r => ∃ t, r = .int (Int.gcd x y) t) := by
  unfold PCall; k_fill
  intro dp un gd cn cs a ccd cl outer A₀ base h₀ L m sh gg dd tk oo Q E B F X T hk hdp hun hpre hret
  obtain ⟨hx, hy⟩ := hpre
  refine wpAny_call ?_
  k_dflt walk_at "M.enter"
  walk_at "M.steps"
  refine ksw_while (σ := (Int × Tok) × (Int × Tok)) (fun _ => []) (fun c => [(Str.ofString "a", .int c.1.1 c.1.2), (Str.ofString "b", .int c.2.1 c.2.2)]) (fun _ => True) []
    (fun c => 0 ≤ c.1.1 ∧ 0 ≤ c.2.1 ∧ Bd 8999 c.2.1 ∧ Int.gcd c.1.1 c.2.1 = Int.gcd x y) (fun c => c.2.1.toNat) ((_, _), (_, _)) (by assumption) News.nil trivial (by with_unfolding_all kst_all) 
      ⟨(gcd_start x y).1, (gcd_start y x).1, abs_small hy, (gcd_start x y).2⟩ ?_ PassesOwn.never
  rintro ⟨⟨a', ta⟩, ⟨b', tb⟩⟩ u h tk _ ⟨ha, hb, hb2, hg⟩ F1 N1
  dsimp only at ha hb hb2 hg F1 N1 ⊢
  simp only [kstB, List.contains_nil, Bool.false_eq_true, if_false] at F1
  have hpy : Builtin.divisionGoesByPylong a' b' = false := hb2.noPy
  walk_at "M.steps"
  · have hc : b' ≠ 0 := by assumption
    have e := Int.fmod_eq_emod_of_nonneg a' hb
    obtain ⟨g1, g2, g3⟩ := gcd_step ha hb hc hg
    refine ksw_end ((_, _), (_, _)) (by assumption) (by assumption) (fun _ h => nomatch h) trivial (by with_unfolding_all kst_all) (by ksw_same) ?_ ?_
    · exact ⟨hb, by rw [e]; exact g1, by show Bd 8999 (a'.fmod b'); rw [e]; exact hb2.of_le (by omega), by rw [e]; exact g3⟩
    · show (a'.fmod b').toNat < b'.toNat
      rw [e]; omega
  · have hc : b' = 0 := by simpa using ‹_›
    have : (Int.gcd x y : Int) = a' := by rw [← hg, hc, Int.gcd_zero_right]; omega
    exact hret _ _ _ (Fr.keep (by assumption)) ⟨_, by rw [this]⟩

end
theorem rows_gcd : True := by
  k_with "M.call" => ((with_reducible show wpAny _ _ (call (Value.ref 41) _) _ _ _); k_dflt (refine' pc_useI (gcd_c _ _ _ _ _ _ _ _) ?qqk1 ?qqk2 ?qqk3 ?qqk4 ?qqk5 ?qqkK ?qqkd ?qqku ?qqkp ?_; (walk_at "M.use"); (case qqkp => walk_at "M.pre"); k_whole; intro _ _ _ _ _; (try k_sweep)))
  trivial
section
noncomputable def gcdL (ns : List Int) : Int := ns.foldl (fun f n => (Int.gcd f n : Int)) 0
theorem Bd.gcd {k : Nat} {a b : Int} (ha : Bd k a) (hb : Bd k b) : Bd k (Int.gcd a b : Int) := by
  by_cases h : b = 0
  · rw [h, Int.gcd_zero_right]; exact ha.of_le (by omega)
  · refine hb.of_le ?_
    have := Nat.le_of_dvd (Int.natAbs_pos.mpr h) (Int.gcd_dvd_natAbs_right a b)
    omega
theorem gcdall_c (w : World) (mean mg mb) (l : Addr) (ns : List Int) :
    PCall w mean mg mb 2 48 [.ref l] (fun h => AL h l ns ∧ BdL 8999 ns) (fun _ _ r => ∃ t, r = .int (gcdL ns) t) := by
  unfold PCall; k_fill
  intro dp un gd cn cs a ccd cl outer A₀ base h₀ L m sh gg dd tk oo Q E B F X T hk hdp hun hpre hret
  obtain ⟨⟨vs, hl, hi, hlen⟩, hb⟩ := hpre
  refine wpAny_call ?_
  k_dflt walk_at "M.enter"
  walk_at "M.steps"
  refine kst_list (σ := Int × Tok) (fun _ => []) (fun c => [(Str.ofString "found", .int c.1 c.2)]) (fun _ => True) [] (fun pre c => c.1 = gcdL pre ∧ Bd 8999 c.1) (0, _) rfl hl (‹IntsAre vs ns›) (by assumption) News.nil trivial (by with_unfolding_all kst_all) ⟨rfl, by show (0:Int).natAbs < _; exact Nat.two_pow_pos _⟩ ?_ ?_
  · rintro ⟨f, tf⟩ pre post n t u h tk own - hmem hoff - ⟨hf, hfb⟩ F1 N1
    dsimp only at hf hfb F1 N1 ⊢
    simp only [kstB, List.contains_nil, Bool.false_eq_true, if_false] at F1
    have hp : Bd 8999 f ∧ Bd 8999 n := ⟨hfb, hb _ hmem⟩
    walk_at "M.steps"
    refine kst_end (_, _) (by assumption) (by assumption) (fun _ h => nomatch h) (fun _ h => h) rfl trivial (by with_unfolding_all kst_all) (by walk_at "M.same") ?_
    refine ⟨?_, hp.1.gcd hp.2⟩
    show _ = gcdL (pre ++ [n])
    unfold gcdL
    rw [List.foldl_append, ← gcdL, ← hf]; rfl
  · rintro ⟨f, tf⟩ u h tk - ⟨hf, -⟩ F1 N1
    dsimp only at hf F1 N1 ⊢
    simp only [kstB, List.contains_nil, Bool.false_eq_true, if_false] at F1
    walk_at "M.steps"
    exact hret _ _ _ (Fr.keep (by assumption)) ⟨_, by rw [hf]⟩

end
theorem rows_gcdall : True := by
  k_with "M.call" => ((with_reducible show wpAny _ _ (call (Value.ref 48) _) _ _ _); k_dflt (refine' pc_useI (gcdall_c _ _ _ _ _ _) ?qqk1 ?qqk2 ?qqk3 ?qqk4 ?qqk5 ?qqkK ?qqkd ?qqku ?qqkp ?_; (walk_at "M.use"); (case qqkp => walk_at "M.pre"); k_whole; intro _ _ _ _ _; (try k_sweep)))
  trivial
section
theorem zcontent_c (w : World) (mean mg mb) (l : Addr) (ns : List Int) :
    PCall w mean mg mb 3 119 [.ref l] (fun h => AL h l ns ∧ BdL 8999 ns) (fun _ _ r => ∃ t, r = .int (gcdL ns) t) := by
  unfold PCall; k_fill
  intro dp un gd cn cs a ccd cl outer A₀ base h₀ L m sh gg dd tk oo Q E B F X T hk hdp hun hpre hret
  obtain ⟨⟨vs, hl, hi, hlen⟩, hb⟩ := hpre
  refine wpAny_call ?_
  k_dflt walk_at "M.enter"
  walk_at "M.steps"
  exact hret _ _ _ (Fr.keep (by assumption)) ⟨_, rfl⟩

end
theorem rows_zcontent : True := by
  k_with "M.call" => ((with_reducible show wpAny _ _ (call (Value.ref 119) _) _ _ _); k_dflt (refine' pc_useI (zcontent_c _ _ _ _ _ _) ?qqk1 ?qqk2 ?qqk3 ?qqk4 ?qqk5 ?qqkK ?qqkd ?qqku ?qqkp ?_; (walk_at "M.use"); (case qqkp => walk_at "M.pre"); k_whole; intro _ _ _ _ _; (try k_sweep)))
  trivial
section
/-- the resultant of two rows, the first one not the shorter, runs through: res -/
noncomputable def RsOk (a b : List Int) (sg res : Int) : Prop :=
  Nz (gcdL a) ∧ Nz (gcdL b) ∧ BdL 4000 a ∧ BdL 4000 b ∧ Bd 4000 (gcdL a) ∧ Bd 4000 (gcdL b) ∧ a.length ≤ 20 ∧ 1 ≤ b.length ∧ b.length ≤ a.length ∧
    ∃ fu r, RrOk fu (a.map fun x => x.fdiv (gcdL a)) (b.map fun x => x.fdiv (gcdL b)) sg 1 1 r ∧ Bd 1048576 r ∧ res = gcdL a ^ ((b.length : Int) - 1).toNat * gcdL b ^ ((a.length : Int) - 1).toNat * r
noncomputable def sgOf (a b : List Int) : Int := if ((a.length : Int) - 1).fmod 2 = 1 ∧ ((b.length : Int) - 1).fmod 2 = 1 then -1 else 1
noncomputable def RsAll (a b : List Int) (res : Int) : Prop :=
  ((a = [] ∨ b = []) ∧ res = 0) ∨ (a ≠ [] ∧ b ≠ [] ∧ ((b.length ≤ a.length ∧ RsOk a b 1 res) ∨ (a.length < b.length ∧ RsOk b a (sgOf b a) res)))
theorem resultant_c (w : World) (mean mg mb) (l1 l2 : Addr) (ns ms : List Int) (res : Int) :
    PCall w mean mg mb 8 232 [.ref l1, .ref l2] (fun h => AL h l1 ns ∧ AL h l2 ms ∧ RsAll ns ms res) (fun _ _ r => ∃ t, r = .int res t) := by
  unfold PCall; k_fill
  intro dp un gd cn cs a ccd cl outer A₀ base h₀ L m sh gg dd tk oo Q E B' F X T hk hdp hun hpre hret
  obtain ⟨hA1, hA2, hall⟩ := hpre
  obtain ⟨vs, hl, hi, hlen⟩ := id hA1
  obtain ⟨us, hl2, hi2, hlen2⟩ := id hA2
  refine wpAny_call ?_
  k_dflt walk_at "M.enter"
  rcases hall with ⟨he, rfl⟩ | ⟨hn1, hn2, hor⟩
  · rcases he with he | he <;> walk_at "M.steps" <;> exact hret _ _ _ (Fr.keep (by assumption)) ⟨_, rfl⟩
  obtain ⟨la, lb, xs, ys, sg, hc1, hc2, hA, hB, hok⟩ : ∃ la lb xs ys sg, (ns.length < ms.length → la = l2 ∧ lb = l1 ∧ sg = sgOf ms ns) ∧ (¬ ns.length < ms.length → la = l1 ∧ lb = l2 ∧ sg = 1) ∧ AL sh la xs ∧ AL sh lb ys ∧ RsOk xs ys sg res := by
    rcases hor with ⟨hle, hok⟩ | ⟨hle, hok⟩
    · exact ⟨l1, l2, ns, ms, 1, fun h => absurd h (by omega), fun _ => ⟨rfl, rfl, rfl⟩, hA1, hA2, hok⟩
    · exact ⟨l2, l1, ms, ns, sgOf ms ns, fun _ => ⟨rfl, rfl, rfl⟩, fun h => absurd hle h, hA2, hA1, hok⟩
  clear hor
  have hl20 : ns.length < 2 ^ 20 := hlen
  have hm20 : ms.length < 2 ^ 20 := hlen2
  repeat' (first | (k_unfold; (try dsimp only)) | ((walk_at "M.guard"); (fail_if_success (with_reducible show wpAny _ _ (exec (Stmt.If (Expr.Compare _ _ _ _) _ _ _) _) _ _ _)); walk1) | (dsimp only; (walk_at "M.guard"); (fail_if_success (with_reducible show wpAny _ _ (exec (Stmt.If (Expr.Compare _ _ _ _) _ _ _) _) _ _ _)); walk1))
  refine if_merge (σ := Tok) (gg := gg) (dd := dd) (oo := oo) (by assumption) (fun c => [(Str.ofString "a", .ref la), (Str.ofString "b", .ref lb), (Str.ofString "sign", .int sg c)]) [] ?_ ?_
  · walk_at "M.steps"
    · obtain ⟨rfl, rfl, rfl⟩ := hc1 (by omega)
      rw [show sgOf ms ns = -1 from if_pos ⟨by assumption, by assumption⟩]
      exact merge_end _ (by assumption) (by assumption) (by dsimp only; with_unfolding_all kst_all) (fun _ h => nomatch h)
    · obtain ⟨rfl, rfl, rfl⟩ := hc1 (by omega)
      rw [show sgOf ms ns = 1 from if_neg (by rintro ⟨h1, h2⟩; first | exact absurd h1 (by assumption) | exact absurd h2 (by assumption))]
      exact merge_end _ (by assumption) (by assumption) (by dsimp only; with_unfolding_all kst_all) (fun _ h => nomatch h)
    · obtain ⟨rfl, rfl, rfl⟩ := hc1 (by omega)
      rw [show sgOf ms ns = 1 from if_neg (by rintro ⟨h1, h2⟩; first | exact absurd h1 (by assumption) | exact absurd h2 (by assumption))]
      exact merge_end _ (by assumption) (by assumption) (by dsimp only; with_unfolding_all kst_all) (fun _ h => nomatch h)
    · obtain ⟨rfl, rfl, rfl⟩ := hc2 (by omega)
      exact merge_end _ (by assumption) (by assumption) (by dsimp only; with_unfolding_all kst_all) (fun _ h => nomatch h)
  intro hh tk2 t' u' F2 N2
  simp only [kstB] at F2
  clear hc1 hc2 hn1 hn2 hl20 hm20 hA1 hA2 hl hi hlen hl2 hi2 hlen2
  obtain ⟨hg1, hg2, hb1, hb2, hc1, hc2, hal, hbl1, hbl, fu, r, hrr, hrb, rfl⟩ := hok
  obtain ⟨vs, hl, hi, hlen⟩ := id hA
  obtain ⟨us, hl2, hi2, hlen2⟩ := id hB
  have hp0 : 0 ≤ (xs.length : Int) - 1 := by omega
  have hp1 : 0 ≤ (ys.length : Int) - 1 := by omega
  have hpc1 : ((4000 : Nat) : Int) * ((xs.length : Int) - 1) ≤ 100000000 := by omega
  have hpc2 : ((4000 : Nat) : Int) * ((ys.length : Int) - 1) ≤ 100000000 := by omega
  have hbn : BdL 8999 xs := hb1.mono (by decide)
  have hbm : BdL 8999 ys := hb2.mono (by decide)
  have hcn : Bd 8999 (gcdL xs) := hc1.mono (by decide)
  have hcm : Bd 8999 (gcdL ys) := hc2.mono (by decide)
  have hq1 : Bd 524288 (gcdL xs ^ ((ys.length : Int) - 1).toNat) := (bd_pow hc1 _).mono (by omega)
  have hq2 : Bd 524288 (gcdL ys ^ ((xs.length : Int) - 1).toNat) := (bd_pow hc2 _).mono (by omega)
  have hq3 := hq1.mul hq2
  have hq3 : Bd 1048576 (gcdL xs ^ ((ys.length : Int) - 1).toNat * gcdL ys ^ ((xs.length : Int) - 1).toNat) := hq3
  have hq1 : Bd 1048576 (gcdL xs ^ ((ys.length : Int) - 1).toNat) := hq1.mono (by decide)
  have hq2 : Bd 1048576 (gcdL ys ^ ((xs.length : Int) - 1).toNat) := hq2.mono (by decide)
  have hl20 : xs.length < 2 ^ 20 := hlen
  have hm20 : ys.length < 2 ^ 20 := hlen2
  clear hb1 hb2
  walk_at "M.steps"
  exact hret _ _ _ (Fr.keep (by assumption)) ⟨_, rfl⟩

end
theorem rows_resultant : True := by
  k_with "M.call" => ((with_reducible show wpAny _ _ (call (Value.ref 232) _) _ _ _); k_dflt (refine' pc_useI (resultant_c _ _ _ _ _ _ _ _ _) ?qqk1 ?qqk2 ?qqk3 ?qqk4 ?qqk5 ?qqkK ?qqkd ?qqku ?qqkp ?_; (walk_at "M.use"); (case qqkp => walk_at "M.pre"); k_whole; intro _ _ _ _ _; (try k_sweep)))
  trivial
section
abbrev cellO (v : Option Value) : Obj := { cls := .type "cell", data := .cell v }
abbrev dct0 : Obj := { cls := .type "dict", data := .dict #[] }
/-- the end of a turn of a comprehension whose target is a cell -/
noncomputable def CEnd (h₀ : Heap) (L : Addr) (m : Str → Option Value) (s : Shared) (I : Addr) (oI : Obj) (C D Cc : Addr) (ys : List Value) (v : Value) (S : List (Addr × Obj) → Prop) (rest : Value → List (Addr × Obj) → Prop) (y : Value) (s₂ : Shared) : Prop :=
  ∃ h' tk' news', s₂ = { s with heap := h', toks := tk' } ∧ Fr h₀ L h' m ∧ News h₀ L h' ((I, oI) :: (C, dct0) :: (D, LCg.lst ys) :: (Cc, cellO (some v)) :: news') ∧ (∀ p ∈ news', p.1 ≠ I ∧ p.1 ≠ C ∧ p.1 ≠ D ∧ p.1 ≠ Cc) ∧ S news' ∧ rest y news'
noncomputable def CRc (prog : Program) (w : World) (A : Around) (h₀ : Heap) (L : Addr) (m : Str → Option Value) (env : Env) (elt : Expr) (x : Str) (scope : Scope) (cl : List (Str × Addr)) (s : Shared) (S : List (Addr × Obj) → Prop) (P : Nat → Value → Prop)
    (Fin : List Value → List (Addr × Obj) → Prop) : Nat → Nat → List Value → List (Addr × Obj) → Prop
  | 0, _, ys, news => Fin ys news
  | k + 1, i, ys, news => ∀ v I oI C D Cc h tk (E' : Value → Shared → Prop), P i v → Fr h₀ L h m → News h₀ L h ((I, oI) :: (C, dct0) :: (D, LCg.lst ys) :: (Cc, cellO (some v)) :: news) → (∀ p ∈ news, p.1 ≠ I ∧ p.1 ≠ C ∧ p.1 ≠ D ∧ p.1 ≠ Cc) → ((@Ne Nat I C) ∧ (@Ne Nat I D) ∧ (@Ne Nat I Cc) ∧ (@Ne Nat C D) ∧ (@Ne Nat C Cc) ∧ (@Ne Nat D Cc)) →
      wpAny (model prog w) A (eval elt (compEnvC scope ((x, Cc) :: cl) C env)) (CEnd h₀ L m s I oI C D Cc ys v S (fun y news' => CRc prog w A h₀ L m env elt x scope cl s S P Fin k (i + 1) (ys ++ [y]) news')) E' { s with heap := h, toks := tk }
noncomputable def CFin (h₀ : Heap) (L : Addr) (m : Str → Option Value) (s : Shared) (Q : Value → Shared → Prop) (ys : List Value) (news : List (Addr × Obj)) : Prop :=
  ∀ D h tk, Fr h₀ L h m → News h₀ L h ((D, LCg.lst ys) :: news) → (∀ p ∈ news, @Ne Nat p.1 D) → Q (.ref D) { s with heap := h, toks := tk }
section
variable {prog : Program} {w : World} {A : Around} {E : Value → Shared → Prop} {s : Shared} {h₀ : Heap} {L : Addr} {m : Str → Option Value} {env : Env}
theorem newEnv_cell {scope : Scope} {globals : Addr} {cl : List (Str × Addr)} {qual : Str} {x : Str} {Q : Env → Shared → Prop} (hone : ∀ n acc, cellsFrom n scope.names acc = (x, n) :: acc) (hpush : ∀ h, pushCells h scope.names = h.push (cellO none))
    (hQ : Q { scope, locals := s.heap.objs.size, globals, cells := (x, s.heap.objs.size + 1) :: cl, qual, func := none, code := env.code, frame := env.frame, builtins := env.builtins } { s with heap := (s.heap.push dct0).push (cellO none) }) :
    wpAny (model prog w) A (newFunctionEnv scope globals cl [] qual none .none (some env)) Q E s := by
  simp only [newFunctionEnv, Option.isSome_some, if_true]
  refine wpAny_bind (wpAny_alloc ?_)
  refine wpAny_bind (wpAny_layCells _ (fun name kind cells => by cases hkc : kind == NameKind.cell <;> simp [hkc]) _ _ _ _ ?_)
  rw [hone, hpush]
  rw [show ({ s with heap := s.heap.push dct0 } : Shared).heap.objs.size = s.heap.objs.size + 1 from Heap.size_push ..]
  exact wpAny_bind (wpAny_pure (wpAny_pure hQ))
theorem block_cell {elt iter : Expr} {x : Str} {px : Pos} {scope : Scope} {cl : List (Str × Addr)} {pos : Pos} {s₂ : Shared} {I : Addr} {fp : List Addr} {n : Nat} {P : Nat → Value → Prop} {St : Nat → Heap → Prop} {S : List (Addr × Obj) → Prop} {news : List (Addr × Obj)} {Q : Value → Shared → Prop}
    (W : Walks prog w A I fp [I] n P St) (hsz : n ≤ sizeLine) (hIo : ∀ i h, St i h → ∃ o, h.get? I = some o)
    (hSt : ∀ i h h' o nw, St i h → h.get? I = some o → h'.get? I = some o → (∀ b o, h₀.get? b = some o → h'.get? b = some o) → News h₀ L h' nw → S nw → St i h')
    (hone : ∀ n acc, cellsFrom n scope.names acc = (x, n) :: acc) (hpush : ∀ h, pushCells h scope.names = h.push (cellO none)) (hkind : scope.kind = .function) (hx : (relabel scope env).names.lookup x = some .cell) (hst : St 0 s₂.heap) (hfp : ∀ b ∈ fp, b < s₂.heap.objs.size)
    (F : Fr h₀ L s₂.heap m) (N : News h₀ L s₂.heap news) (hIL : L ≠ I) (hI₀ : h₀.get? I = none) (off : ∀ p ∈ news, p.1 ≠ I) (hS : S news)
    (R : CRc prog w A h₀ L m env elt x scope cl s₂ S P (CFin h₀ L m s₂ Q) n 0 [] news) :
    wpAny (model prog w) A (newList []) (fun acc s₃ => wpAny (model prog w) A (newFunctionEnv scope env.globals cl [] env.qual none .none (some env)) (fun cenv s₄ =>
      codeAny (model prog w) A (.compStart (.ListComp elt [⟨.Name x px, iter, [], 0⟩] scope pos) 0 (.ref I) acc { cenv with scope := relabel scope env }) (compPost (model prog w) A E none Q acc cenv.locals) s₄) E s₃) E s₂ := by
  refine wpAny_newObj_type (newEnv_cell hone hpush ?_)
  dsimp only
  rw [Heap.size_push]
  generalize hD : s₂.heap.objs.size = D
  generalize hH : ((s₂.heap.push { cls := .type "list", dict := none, data := .seq ([] : List Value).toArray }).push dct0).push (cellO none) = H
  have gD : H.get? D = some (LCg.lst []) := by rw [← hH, ← hD]; exact Heap.get?_push_of_some _ (Heap.get?_push_of_some _ (Heap.get?_push_size _ rfl))
  have gC : H.get? (D + 1) = some dct0 := by rw [← hH, ← hD]; exact Heap.get?_push_of_some _ (by have := Heap.get?_push_size (s₂.heap.push { cls := .type "list", dict := none, data := .seq ([] : List Value).toArray }) (o := dct0) rfl; rw [Heap.size_push] at this; exact this)
  have gE : H.get? (D + 1 + 1) = some (cellO none) := by
    have := Heap.get?_push_size ((s₂.heap.push { cls := .type "list", dict := none, data := .seq ([] : List Value).toArray }).push dct0) (o := cellO none) rfl
    rw [Heap.size_push, Heap.size_push, hH, hD] at this; exact this
  have old : ∀ b o, s₂.heap.get? b = some o → H.get? b = some o := fun b o e => by rw [← hH]; exact Heap.get?_push_of_some _ (Heap.get?_push_of_some _ (Heap.get?_push_of_some _ e))
  have hlt : ∀ b o, s₂.heap.get? b = some o → b < D := fun b o e => hD ▸ Heap.lt_size e
  have fresh₀ : ∀ a, D ≤ a → h₀.get? a = none := fun a ha => by
    cases e : h₀.get? a with
    | none => rfl
    | some o' => exact absurd (hlt a o' (F.keep a o' e)) (Nat.not_lt.mpr ha)
  have hLlt : L < D := hD ▸ F.ns.lt
  have hIf : I ∈ fp := W.sub I (List.mem_singleton.mpr rfl)
  have hfp : ∀ b ∈ fp, b < D := fun b hb => hD ▸ hfp b hb
  have hIlt : I < D := hfp I hIf
  have e0 : ∀ k, D ≤ k → ∀ b ∈ fp, b ≠ k := fun k hk b hb e => by have := hfp b hb; rw [e] at this; exact absurd this (Nat.not_lt.mpr hk)
  have loop : codeAny (model prog w) A (.compLoop (.ListComp elt [⟨.Name x px, iter, [], 0⟩] scope pos) 0 (.ref I) (.ref D) (compEnvC scope ((x, D + 1 + 1) :: cl) (D + 1) env))
        (compPost (model prog w) A E none Q (.ref D) (D + 1)) { s₂ with heap := H } := by
    refine codeAny_compLoop_tests
      (fun k s' => ∃ h' tk i ys cv news', s' = { s₂ with heap := h', toks := tk } ∧ i ≤ n ∧ k = n + 1 - i ∧ ys.length = i ∧ St i h' ∧ Fr h₀ L h' m ∧ News h₀ L h' ((D + 1, dct0) :: (D, LCg.lst ys) :: (D + 1 + 1, cellO cv) :: news') ∧
        (∀ p ∈ news', p.1 ≠ I ∧ p.1 ≠ D + 1 ∧ p.1 ≠ D ∧ p.1 ≠ D + 1 + 1) ∧ S news' ∧ CRc prog w A h₀ L m env elt x scope cl s₂ S P (CFin h₀ L m s₂ Q) (n - i) i ys news') ?_ (n + 1)
      ⟨H, _, 0, [], none, news, rfl, Nat.zero_le _, rfl, rfl, W.frame _ _ _ hst fun b _ o e => old b o e, F.keeps old, ?_, ?_, hS, R⟩
    · rintro k s' ⟨h', tk, i, ys, cv, news', rfl, hi, rfl, hyl, hst', F', N', off', hS', R'⟩
      by_cases hlt' : i < n
      · obtain ⟨j, hj⟩ : ∃ j, n - i = j + 1 := ⟨n - i - 1, by omega⟩
        rw [hj] at R'
        refine W.item i _ _ _ hlt' hst' fun v h₂ tk₂ hPv hst₂ hk₂ => ?_
        have N₂ : News h₀ L h₂ ((D + 1, dct0) :: (D, LCg.lst ys) :: (D + 1 + 1, cellO cv) :: news') := LCg.news_but N' hk₂ fun p hp => by
          simp only [List.mem_cons] at hp
          rcases hp with rfl | rfl | rfl | hp
          · exact Ne.symm (Nat.ne_of_lt (Nat.lt_succ_of_lt hIlt))
          · exact Ne.symm (Nat.ne_of_lt hIlt)
          · exact Ne.symm (Nat.ne_of_lt (Nat.lt_succ_of_lt (Nat.lt_succ_of_lt hIlt)))
          · exact (off' p hp).1
        have F₂ := LCg.fr_but F' hk₂ hIL hI₀
        have gc := (N₂ (D + 1 + 1, cellO cv) (by simp)).1
        refine wpAny_assign_Name ?_
        unfold storeName
        simp only [show Env.kindOf (compEnvC scope ((x, D + 1 + 1) :: cl) (D + 1) env) x = some .cell from hx, show (compEnvC scope ((x, D + 1 + 1) :: cl) (D + 1) env).scope.kind = .function from hkind]
        refine wpAny_bind (wpAny_cellOf (c := D + 1 + 1) (by simp [compEnvC]) ?_)
        unfold cellSet
        refine wpAny_bind (wpAny_load gc ?_)
        refine wpAny_update gc ?_
        have hs₃ := Heap.SameBut.update h₂ (D + 1 + 1) (fun o => { o with data := Data.cell (some v) })
        have hself : (h₂.update (D + 1 + 1) fun o => { o with data := Data.cell (some v) }).get? (D + 1 + 1) = some (cellO (some v)) := Heap.get?_update_self _ gc rfl
        generalize (h₂.update (D + 1 + 1) fun o => { o with data := Data.cell (some v) }) = h₃ at hs₃ hself ⊢
        refine wpAny_tests_nil ?_
        simp only [if_true]
        have hst₃ : St (i + 1) h₃ := W.frame _ _ _ hst₂ fun b hb o e => hs₃.extBut b o (e0 (D + 1 + 1) (Nat.le_succ_of_le (Nat.le_succ D)) b hb) e
        obtain ⟨oI, heI⟩ := hIo _ _ hst₃
        have F₃ : Fr h₀ L h₃ m := F₂.change hs₃ (Ne.symm (Nat.ne_of_lt (Nat.lt_succ_of_lt (Nat.lt_succ_of_lt hLlt)))) (fresh₀ _ (Nat.le_succ_of_le (Nat.le_succ D)))
        have N₃ : News h₀ L h₃ ((I, oI) :: (D + 1, dct0) :: (D, LCg.lst ys) :: (D + 1 + 1, cellO (some v)) :: news') := fun p hp => by
          simp only [List.mem_cons] at hp
          rcases hp with rfl | rfl | rfl | rfl | hp
          · exact ⟨heI, Ne.symm hIL, hI₀⟩
          · have z := N₂ (D + 1, dct0) (by simp)
            exact ⟨hs₃.extBut _ _ (Nat.ne_of_lt (Nat.lt_succ_self _)) z.1, z.2⟩
          · have z := N₂ (D, LCg.lst ys) (by simp)
            exact ⟨hs₃.extBut _ _ (Nat.ne_of_lt (by show D < D + 1 + 1; omega)) z.1, z.2⟩
          · exact ⟨hself, (N₂ (D + 1 + 1, cellO cv) (by simp)).2⟩
          · have z := N₂ p (by simp [hp])
            exact ⟨hs₃.extBut _ _ (off' p hp).2.2.2 z.1, z.2⟩
        refine wpAny_mono (R' v I oI (D + 1) D (D + 1 + 1) h₃ _ _ hPv F₃ N₃ off' ⟨Nat.ne_of_lt (Nat.lt_succ_of_lt hIlt), Nat.ne_of_lt hIlt, Nat.ne_of_lt (Nat.lt_succ_of_lt (Nat.lt_succ_of_lt hIlt)), Ne.symm (Nat.ne_of_lt (Nat.lt_succ_self _)), Nat.ne_of_lt (Nat.lt_succ_self _), Nat.ne_of_lt (by omega)⟩) (fun y s₄ h₄ => ?_) fun _ _ e => e
        obtain ⟨h₄, tk₄, news₄, rfl, F₄, N₄, off₄, hS₄, R₄⟩ := h₄
        have zI := (N₄ (I, oI) List.mem_cons_self).1
        have zC := N₄ (D + 1, dct0) (by simp)
        have zD := N₄ (D, LCg.lst ys) (by simp)
        have zE := N₄ (D + 1 + 1, cellO (some v)) (by simp)
        have N₄' : News h₀ L h₄ news₄ := fun p hp => N₄ p (by simp [hp])
        have hst₄ : St (i + 1) h₄ := hSt _ _ _ _ _ hst₃ heI zI F₄.keep N₄' hS₄
        refine append_at (hsz := by show ys.toArray.size ≤ sizeLine; rw [List.size_toArray, hyl]; exact Nat.le_trans hi hsz) zD.1 fun h₅ hs₅ hD₅ => ?_
        refine ⟨n + 1 - (i + 1), by omega, h₅, tk₄, i + 1, ys ++ [y], some v, news₄, rfl, hlt', rfl, by rw [List.length_append, List.length_singleton, hyl], W.frame _ _ _ hst₄ fun b hb o e => hs₅.extBut b o (e0 _ (Nat.le_refl _) b hb) e, F₄.change hs₅ (Ne.symm (Nat.ne_of_lt hLlt)) (fresh₀ _ (Nat.le_refl _)), fun p hp => ?_, off₄, hS₄, ?_⟩
        · simp only [List.mem_cons] at hp
          rcases hp with rfl | rfl | rfl | hp
          · exact ⟨hs₅.extBut _ _ (Ne.symm (Nat.ne_of_lt (Nat.lt_succ_self _))) zC.1, zC.2⟩
          · exact ⟨hD₅.trans (congrArg some (LCg.lst_snoc ys y)), zD.2⟩
          · exact ⟨hs₅.extBut _ _ (Ne.symm (Nat.ne_of_lt (by show D < D + 1 + 1; omega))) zE.1, zE.2⟩
          · exact ⟨hs₅.extBut _ _ (off₄ p hp).2.2.1 (N₄' p hp).1, (N₄' p hp).2⟩
        · rw [show n - (i + 1) = j by omega]
          exact R₄
      · obtain rfl : i = n := Nat.le_antisymm hi (Nat.not_lt.mp hlt')
        rw [Nat.sub_self] at R'
        refine W.done _ _ _ hst' fun h₂ tk₂ hk₂ => ?_
        have N₂ : News h₀ L h₂ ((D + 1, dct0) :: (D, LCg.lst ys) :: (D + 1 + 1, cellO cv) :: news') := LCg.news_but N' hk₂ fun p hp => by
          simp only [List.mem_cons] at hp
          rcases hp with rfl | rfl | rfl | hp
          · exact Ne.symm (Nat.ne_of_lt (Nat.lt_succ_of_lt hIlt))
          · exact Ne.symm (Nat.ne_of_lt hIlt)
          · exact Ne.symm (Nat.ne_of_lt (Nat.lt_succ_of_lt (Nat.lt_succ_of_lt hIlt)))
          · exact (off' p hp).1
        have F₂ := LCg.fr_but F' hk₂ hIL hI₀
        have gC₂ := (N₂ (D + 1, dct0) (by simp)).1
        have fin : CFin h₀ L m s₂ Q ys news' := R'
        refine ⟨fun _ => none, ⟨_, #[], 0, gC₂, rfl, fun _ he => by simp at he, fun _ => rfl⟩, fun h'' hs'' => fin D h'' tk₂ (F₂.change hs'' (Ne.symm (Nat.ne_of_lt (Nat.lt_succ_of_lt hLlt))) (fresh₀ _ (Nat.le_succ D))) (fun p hp => ?_) fun p hp => (off' p hp).2.2.1⟩
        have z := N₂ p (by simp only [List.mem_cons] at hp ⊢; rcases hp with rfl | hp <;> simp_all)
        refine ⟨hs''.extBut _ _ ?_ z.1, z.2⟩
        rcases List.mem_cons.mp hp with rfl | hp
        · exact Nat.ne_of_lt (Nat.lt_succ_self _)
        · exact (off' p hp).2.1
    · intro p hp
      simp only [List.mem_cons] at hp
      rcases hp with rfl | rfl | rfl | hp
      · exact ⟨gC, Ne.symm (Nat.ne_of_lt (Nat.lt_succ_of_lt hLlt)), fresh₀ _ (Nat.le_succ D)⟩
      · exact ⟨gD, Ne.symm (Nat.ne_of_lt hLlt), fresh₀ _ (Nat.le_refl _)⟩
      · exact ⟨gE, Ne.symm (Nat.ne_of_lt (Nat.lt_succ_of_lt (Nat.lt_succ_of_lt hLlt))), fresh₀ _ (Nat.le_succ_of_le (Nat.le_succ D))⟩
      · exact ⟨old _ _ (N p hp).1, (N p hp).2⟩
    · intro p hp
      have h1 := hlt _ _ (N p hp).1
      refine ⟨off p hp, Nat.ne_of_lt (Nat.lt_succ_of_lt h1), Nat.ne_of_lt h1, Nat.ne_of_lt (Nat.lt_succ_of_lt (Nat.lt_succ_of_lt h1))⟩
  exact codeAny_compStart_list loop (W.self 0 _ _ _ (W.frame _ _ _ hst fun b _ o e => old b o e) loop)
end
section
variable {prog : Program} {w : World} {A : Around} {E : Value → Shared → Prop} {s : Shared} {h₀ : Heap} {L : Addr} {m : Str → Option Value} {env : Env}
/-- the source of a comprehension whose target is a cell: a list or a range from 0 -/
noncomputable def SrcC (prog : Program) (w : World) (A : Around) (h₀ : Heap) (L : Addr) (m : Str → Option Value) (env : Env) (elt : Expr) (x : Str) (scope : Scope) (cl : List (Str × Addr)) (Fin : Shared → List Value → List (Addr × Obj) → Prop) (xv : Value) (s₁ : Shared) : Prop :=
  (∃ ax its news, xv = .ref ax ∧ A.handled = none ∧ Fr h₀ L s₁.heap m ∧ News h₀ L s₁.heap news ∧ LCg.SrcAt h₀ ax its news ∧ its.size ≤ sizeLine ∧
    ∀ s₂ : Shared, (∃ h, s₂ = { s₁ with heap := h }) → CRc prog w A h₀ L m env elt x scope cl s₂ (LCg.SrcAt h₀ ax its) (fun i v => its[i]? = some v) (Fin s₂) its.size 0 [] news) ∨
  (∃ r a b t u v n news, xv = .ref r ∧ A.handled = none ∧ Fr h₀ L s₁.heap m ∧ News h₀ L s₁.heap news ∧ IsRange s₁.heap r a b 1 t u v ∧ Builtin.Range.small a b 1 = true ∧ Builtin.Range.rangeSize a b 1 = ((n : Nat) : Int) ∧ n ≤ sizeLine ∧
    ∀ s₂ : Shared, (∃ h, s₂ = { s₁ with heap := h }) → CRc prog w A h₀ L m env elt x scope cl s₂ (fun _ => True) (fun i v => ∃ t, v = .int (a + (i : Int)) t) (Fin s₂) n 0 [] news)
theorem lc_cell {elt iter : Expr} {x : Str} {px : Pos} {scope : Scope} {cl : List (Str × Addr)} {pos : Pos} {Q : Value → Shared → Prop} (F₀ : Fr h₀ L s.heap m)
    (hclos : closureFor scope env = pure cl) (hone : ∀ n acc, cellsFrom n scope.names acc = (x, n) :: acc) (hpush : ∀ h, pushCells h scope.names = h.push (cellO none)) (hkind : scope.kind = .function)
    (hnames : ∀ y ∈ scope.names, y.2 = .local → scope.names.lookup y.1 = some .local) (hx : (relabel scope env).names.lookup x = some .cell)
    (h : wpAny (model prog w) A (eval iter env) (SrcC prog w A h₀ L m env elt x scope cl (fun s₂ => CFin h₀ L m s₂ Q)) E s)
    (hs : ∀ x, foldedSetIterable iter env x = pure x := by intro _; rfl) :
    wpAny (model prog w) A (eval (.ListComp elt [⟨.Name x px, iter, [], 0⟩] scope pos) env) Q E s := by
  rw [eval_ListComp]
  refine wpAny_comprehension_free (use := none) rfl hs hclos hkind hnames (wpAny_mono h (fun xv s₁ h₁ => ?_) fun _ _ e => e)
  rcases h₁ with ⟨ax, its, news, rfl, hh, F, N, S, hsz, R⟩ | ⟨r, a, b, t, u, v, n, news, rfl, hh, F, N, hr, hsm, hn, hsz, R⟩
  · have hl := S.list F.keep N
    have hlt : ax < s₁.heap.objs.size := by obtain ⟨_, e, _⟩ := hl; exact Heap.lt_size e
    refine wpAny_pyIter_list hl ?_
    have up : ∀ b o, s₁.heap.get? b = some o → (s₁.heap.push { cls := .type "list_iterator", data := .fields #[.ref ax, .int 0 0] }).get? b = some o := fun b o e => Heap.get?_push_of_some _ e
    refine block_cell (Walks.list hh s₁.heap.objs.size ax (Nat.ne_of_lt hlt) its) hsz (fun i h st => by obtain ⟨o, e, _⟩ := st.1; exact ⟨o, e⟩) LCg.list_st hone hpush hkind hx ⟨⟨_, Heap.get?_push_size _ rfl, rfl, rfl⟩, hl.push _⟩ (fun b hb => ?_)
      (F.keeps up) (N.grown up) (Nat.ne_of_lt F.ns.lt) (next_is_new F) (fun p hp => Nat.ne_of_lt (Heap.lt_size (N p hp).1)) S (R _ ⟨_, rfl⟩)
    show b < (s₁.heap.push _).objs.size
    rw [Heap.size_push]
    rcases List.mem_cons.mp hb with rfl | hb
    · exact Nat.lt_succ_self _
    · rw [List.mem_singleton.mp hb]; exact Nat.lt_succ_of_lt hlt
  · refine wpAny_pyIter_range hr hsm ?_
    refine block_cell (LCg.range_walks hh a n) hsz (fun i h st => ⟨_, st⟩) LCg.range_st hone hpush hkind hx (by show IsRangeIter _ _ _ _ _; rw [hn]; simpa using Heap.get?_push_size _ rfl) (fun b hb => ?_)
      (F.keeps fun _ _ e => Heap.get?_push_of_some _ e) (N.grown fun _ _ e => Heap.get?_push_of_some _ e) (Nat.ne_of_lt F.ns.lt) (next_is_new F) (fun p hp => Nat.ne_of_lt (Heap.lt_size (N p hp).1)) trivial (R _ ⟨_, rfl⟩)
    rw [List.mem_singleton.mp hb]
    show s₁.heap.objs.size < (s₁.heap.push _).objs.size
    rw [Heap.size_push]; exact Nat.lt_succ_self _
end
section
variable {prog : Program} {w : World} {A : Around} {E : Value → Shared → Prop} {h₀ : Heap} {L : Addr} {m : Str → Option Value} {env : Env}
theorem SrcC.mkR {elt : Expr} {x : Str} {scope : Scope} {cl : List (Str × Addr)} {Fin : Shared → List Value → List (Addr × Obj) → Prop} {r : Addr} {a b : Int} {t u v : Tok} {n : Nat} {news : List (Addr × Obj)} {s₁ : Shared}
    (hr : IsRange s₁.heap r a b 1 t u v) (hh : A.handled = none) (F : Fr h₀ L s₁.heap m) (N : News h₀ L s₁.heap news) (hsm : Builtin.Range.small a b 1 = true) (hn : Builtin.Range.rangeSize a b 1 = ((n : Nat) : Int)) (hsz : n ≤ sizeLine)
    (h : ∀ g, CRc prog w A h₀ L m env elt x scope cl { s₁ with heap := g } (fun _ => True) (fun i v => ∃ t, v = .int (a + (i : Int)) t) (Fin { s₁ with heap := g }) n 0 [] news) :
    SrcC prog w A h₀ L m env elt x scope cl Fin (.ref r) s₁ := .inr ⟨r, a, b, t, u, v, n, news, rfl, hh, F, N, hr, hsm, hn, hsz, fun _ ⟨g, e⟩ => e ▸ h g⟩
theorem SrcC.mkL {elt : Expr} {x : Str} {scope : Scope} {cl : List (Str × Addr)} {Fin : Shared → List Value → List (Addr × Obj) → Prop} {ax : Addr} {its : Array Value} {news : List (Addr × Obj)} {s₁ : Shared}
    (hl : h₀.IsList ax its) (hh : A.handled = none) (F : Fr h₀ L s₁.heap m) (N : News h₀ L s₁.heap news) (hsz : its.size ≤ sizeLine)
    (h : ∀ g, CRc prog w A h₀ L m env elt x scope cl { s₁ with heap := g } (LCg.SrcAt h₀ ax its) (fun i v => its[i]? = some v) (Fin { s₁ with heap := g }) its.size 0 [] news) :
    SrcC prog w A h₀ L m env elt x scope cl Fin (.ref ax) s₁ := .inl ⟨ax, its, news, rfl, hh, F, N, .inl hl, hsz, fun _ ⟨g, e⟩ => e ▸ h g⟩
end
theorem CEnd.of {h₀ : Heap} {L : Addr} {m : Str → Option Value} {s : Shared} {I : Addr} {oI : Obj} {C D Cc : Addr} {ys : List Value} {v y : Value} {S : List (Addr × Obj) → Prop} {rest : Value → List (Addr × Obj) → Prop} {h' : Heap} {tk' : Nat} {D2 : Addr} {o2 : Obj} {news : List (Addr × Obj)}
    (F : Fr h₀ L h' m) (N : News h₀ L h' ((D2, o2) :: (I, oI) :: (C, dct0) :: (D, LCg.lst ys) :: (Cc, cellO (some v)) :: news)) (a : @Ne Nat I D2) (b : @Ne Nat C D2) (c : @Ne Nat D D2) (d : @Ne Nat Cc D2)
    (off : ∀ p ∈ news, p.1 ≠ I ∧ p.1 ≠ C ∧ p.1 ≠ D ∧ p.1 ≠ Cc) (hS : S ((D2, o2) :: news)) (hr : rest y ((D2, o2) :: news)) : CEnd h₀ L m s I oI C D Cc ys v S rest y { s with heap := h', toks := tk' } := by
  refine ⟨h', tk', (D2, o2) :: news, rfl, F, kst_newsOf N fun p hp => ?_, ?_, hS, hr⟩
  · rcases List.mem_cons.mp hp with rfl | hp
    · exact .tail _ (.head _)
    rcases List.mem_cons.mp hp with rfl | hp
    · exact .tail _ (.tail _ (.head _))
    rcases List.mem_cons.mp hp with rfl | hp
    · exact .tail _ (.tail _ (.tail _ (.head _)))
    rcases List.mem_cons.mp hp with rfl | hp
    · exact .tail _ (.tail _ (.tail _ (.tail _ (.head _))))
    rcases List.mem_cons.mp hp with rfl | hp
    · exact .head _
    · exact .tail _ (.tail _ (.tail _ (.tail _ (.tail _ hp))))
  · intro p hp
    rcases List.mem_cons.mp hp with rfl | hp
    · exact ⟨fun e => a e.symm, fun e => b e.symm, fun e => c e.symm, fun e => d e.symm⟩
    · exact off p hp
theorem ints_two {ys : List Value} {p q : Int} (h : IntsAre ys [p, q]) : ∃ t1 t2 : Tok, ys = [.int p t1, .int q t2] := by
  cases h with
  | cons k t h1 => cases h1 with
    | cons k2 t2 h2 => cases h2; exact ⟨t, t2, rfl⟩
theorem MX.of {g h : Heap} {L l l1 l2 : Addr} {news : List (Addr × Obj)} {ys1 ys2 : List Value} {p q u v : Int} (N : News g L h news) (hm : (l, LCg.lst [.ref l1, .ref l2]) ∈ news) (hm1 : (l1, LCg.lst ys1) ∈ news) (hm2 : (l2, LCg.lst ys2) ∈ news)
    (i1 : IntsAre ys1 [p, q]) (i2 : IntsAre ys2 [u, v]) : MX g h (.ref l) p q u v := by
  obtain ⟨t1, t2, rfl⟩ := ints_two i1
  obtain ⟨t3, t4, rfl⟩ := ints_two i2
  exact ⟨l, l1, l2, _, _, _, t1, t2, t3, t4, rfl, (N _ hm).2.2, (N _ hm1).2.2, (N _ hm2).2.2, (N _ hm).1, (N _ hm1).1, (N _ hm2).1⟩
theorem MX.of2 {g h : Heap} {L l l1 l2 : Addr} {news : List (Addr × Obj)} {o : Obj} {n n1 n2 : Nat} {ys1 ys2 : List Value} {p q u v : Int} (N : News g L h news) (hm : (l, o) ∈ news) (hm1 : (l1, listOf ys1.toArray n1) ∈ news) (hm2 : (l2, listOf ys2.toArray n2) ∈ news)
    (ho : o = listOf #[.ref l1, .ref l2] n) (i1 : IntsAre ys1 [p, q]) (i2 : IntsAre ys2 [u, v]) : MX g h (.ref l) p q u v := by
  obtain ⟨t1, t2, rfl⟩ := ints_two i1
  obtain ⟨t3, t4, rfl⟩ := ints_two i2
  subst ho
  exact ⟨l, l1, l2, n, n1, n2, t1, t2, t3, t4, rfl, (N _ hm).2.2, (N _ hm1).2.2, (N _ hm2).2.2, (N _ hm).1, (N _ hm1).1, (N _ hm2).1⟩
theorem AM.news {g h : Heap} {L l l1 l2 : Addr} {news : List (Addr × Obj)} {n n1 n2 : Nat} {p q u v : Int} {t1 t2 t3 t4 : Tok} (N : News g L h news) (hm : (l, listOf #[.ref l1, .ref l2] n) ∈ news) (hm1 : (l1, listOf #[.int p t1, .int q t2] n1) ∈ news) (hm2 : (l2, listOf #[.int u t3, .int v t4] n2) ∈ news) : AM h l p q u v :=
  ⟨l1, l2, n, n1, n2, t1, t2, t3, t4, (N _ hm).1, (N _ hm1).1, (N _ hm2).1⟩

end
theorem rows_cellcomp : True := by
  k_with "eval Name" => ((with_reducible show wpAny _ _ (eval (Expr.Name _ _) (compEnvC _ _ _ _)) _ _ _); k_dflt (refine kcf_cell (by assumption) (by rfl) (by k_mem) (by first | exact rfl | assumption) ?_))
  trivial
section
section
variable {w : World} {mean : ExcName → Option Value} {mg mb : Str → Option Value} {sz : Nat} {f : Addr} {vs : List Value} {Pre : Heap → Prop}
  {dp un : Nat} {gd : Option (List Code)} {cn : Str} {cs : Scope} {a : Addr} {ccd : Value} {cl : List (Str × Addr)} {outer : List Env} {A₀ : Around} {base h₀ : Heap} {L : Addr} {m : Str → Option Value} {sh : Heap} {gg : Array GenState} {dd : Drawn} {tk : Nat} {oo : OsState} {Q E : Value → Shared → Prop} {news : List (Addr × Obj)}
theorem pc_useM {p q u v : Int} (C : PCall w mean mg mb sz f vs Pre (fun h h' r => MX h h' r p q u v)) (B : Below A₀ base outer h₀) (F : Fr h₀ L sh m) (X : (hd.heap_1 w.params).In h₀) (N : News h₀ L sh news) (T : Top hd.view_1 (looseW hd.view_1 []) mean mg mb h₀) (hk : cs.kind = .function)
    (hd : dp + sz < recursionLimit) (hu : un + 8 * sz + 100 < cLine) (hp : Pre sh)
    (ret : ∀ (l l1 l2 : Addr) (n n1 n2 : Nat) (t1 t2 t3 t4 : Tok) h' tk', Fr h₀ L h' m → News h₀ L h' ((l, listOf #[.ref l1, .ref l2] n) :: (l1, listOf #[.int p t1, .int q t2] n1) :: (l2, listOf #[.int u t3, .int v t4] n2) :: news) → Q (.ref l) ⟨h', gg, dd, tk', oo⟩) :
    wpAny (model Challenge.rw_xm0142_01.row.prog w) (ktrTop dp un gd cn cs L a ccd cl outer) (call (.ref f) vs) Q E ⟨sh, gg, dd, tk, oo⟩ :=
  pc_use C B F X N T hk hd hu hp fun r h' tk' st F' N' po => by
    obtain ⟨l, l1, l2, n, n1, n2, t1, t2, t3, t4, rfl, e0, e1, e2, g0, g1, g2⟩ := po
    obtain ⟨oL, _, _, hL, _⟩ := F.ns
    have new : ∀ l, sh.get? l = none → l ≠ L ∧ h₀.get? l = none := fun l hl => by
      refine ⟨fun e => ?_, ?_⟩
      · rw [e, hL] at hl; cases hl
      · cases q : h₀.get? l with
        | none => rfl
        | some o => rw [F.keep _ _ q] at hl; cases hl
    refine ret l l1 l2 n n1 n2 t1 t2 t3 t4 h' tk' F' fun p hp => ?_
    rcases List.mem_cons.mp hp with rfl | hp
    · exact ⟨g0, new _ e0⟩
    rcases List.mem_cons.mp hp with rfl | hp
    · exact ⟨g1, new _ e1⟩
    rcases List.mem_cons.mp hp with rfl | hp
    · exact ⟨g2, new _ e2⟩
    · exact N' p hp
end
/-- a matrix of the ledger -/
structure MatR where
  (l l1 l2 : Addr) (n n1 n2 : Nat) (t1 t2 t3 t4 : Tok) (p q u v : Int)
noncomputable def MatR.In (R : MatR) (led : List (Addr × Obj)) : Prop := (R.l, listOf #[.ref R.l1, .ref R.l2] R.n) ∈ led ∧ (R.l1, listOf #[.int R.p R.t1, .int R.q R.t2] R.n1) ∈ led ∧ (R.l2, listOf #[.int R.u R.t3, .int R.v R.t4] R.n2) ∈ led
noncomputable def MatR.Bds (R : MatR) (k : Nat) : Prop := Bd k R.p ∧ Bd k R.q ∧ Bd k R.u ∧ Bd k R.v
abbrev M4 : Type := Int × Int × Int × Int
noncomputable def MatR.m (R : MatR) : M4 := (R.p, R.q, R.u, R.v)
noncomputable def mm (A B : M4) : M4 := (A.1 * B.1 + A.2.1 * B.2.2.1, A.1 * B.2.1 + A.2.1 * B.2.2.2, A.2.2.1 * B.1 + A.2.2.2 * B.2.2.1, A.2.2.1 * B.2.1 + A.2.2.2 * B.2.2.2)
noncomputable def mone : M4 := (1, 0, 0, 1)
noncomputable def mpow (A : M4) : Nat → M4
  | 0 => mone
  | n + 1 => mm (mpow A n) A
theorem mm_assoc (A B C : M4) : mm (mm A B) C = mm A (mm B C) := by
  obtain ⟨a, b, c, d⟩ := A; obtain ⟨e, f, g, h⟩ := B; obtain ⟨i, j, k, l⟩ := C
  simp only [mm, Prod.mk.injEq]
  refine ⟨?_, ?_, ?_, ?_⟩ <;> grind
theorem mm_one (A : M4) : mm A mone = A := by obtain ⟨a, b, c, d⟩ := A; simp [mm, mone]
theorem one_mm (A : M4) : mm mone A = A := by obtain ⟨a, b, c, d⟩ := A; simp [mm, mone]
theorem mpow_comm (A : M4) : ∀ n, mm A (mpow A n) = mm (mpow A n) A
  | 0 => by rw [mpow, mm_one, one_mm]
  | n + 1 => by rw [mpow, ← mm_assoc, mpow_comm A n]
theorem mpow_sq (A : M4) : ∀ n, mpow (mm A A) n = mpow A (2 * n)
  | 0 => rfl
  | n + 1 => by rw [mpow, mpow_sq A n, show 2 * (n + 1) = 2 * n + 1 + 1 from rfl, mpow, mpow, mm_assoc]
theorem mpow_odd (F A : M4) {n : Nat} (h : n % 2 = 1) : mm F (mpow A n) = mm (mm F A) (mpow (mm A A) (n / 2)) := by
  rw [mpow_sq, mm_assoc, mpow_comm]
  have e : n = 2 * (n / 2) + 1 := by omega
  exact congrArg (mm F) ((congrArg (mpow A) e).trans rfl)
theorem mpow_even (F A : M4) {n : Nat} (h : ¬ n % 2 = 1) : mm F (mpow A n) = mm F (mpow (mm A A) (n / 2)) := by
  rw [mpow_sq]
  have e : 2 * (n / 2) = n := by omega
  rw [e]
theorem bd_mm {k : Nat} {a b c d : Int} (ha : Bd k a) (hb : Bd k b) (hc : Bd k c) (hd : Bd k d) : Bd (2 * k + 1) (a * b + c * d) := by
  have h1 : (a * b).natAbs < 2 ^ (2 * k) := by
    rw [Int.natAbs_mul, Nat.two_mul, Nat.pow_add]
    exact Nat.mul_lt_mul'' ha hb
  have h2 : (c * d).natAbs < 2 ^ (2 * k) := by
    rw [Int.natAbs_mul, Nat.two_mul, Nat.pow_add]
    exact Nat.mul_lt_mul'' hc hd
  unfold Bd
  rw [Nat.pow_succ]
  have := Int.natAbs_add_le (a * b) (c * d)
  omega

end
section
noncomputable def CLpEnd (h₀ : Heap) (L c I : Addr) (oI : Obj) (s : Shared) (rest : (Str → Option Value) → List (Addr × Obj) → Prop) (s₂ : Shared) : Prop :=
  ∃ h' tk' m' o' news' v', s₂ = { s with heap := h', toks := tk' } ∧ Fr h₀ L h' m' ∧ News h₀ L h' ((I, oI) :: (c, o') :: news') ∧ (∀ p ∈ news', @Ne Nat p.1 I ∧ @Ne Nat p.1 c) ∧ o'.data = .cell v' ∧ rest m' news'
noncomputable def CLpPost (h₀ : Heap) (L c I : Addr) (oI : Obj) (s : Shared) (rest : (Str → Option Value) → List (Addr × Obj) → Prop) (Q : Flow → Shared → Prop) (f : Flow) (s₂ : Shared) : Prop := match f with
  | .ret v => Q (.ret v) s₂
  | .brk => Q .next s₂
  | _ => CLpEnd h₀ L c I oI s rest s₂
/-- the turns of a for loop over a range whose target is a cell -/
noncomputable def CLp (prog : Program) (w : World) (A : Around) (E : Value → Shared → Prop) (h₀ : Heap) (env : Env) (L : Addr) (c : Addr) (body : List Stmt) (Q : Flow → Shared → Prop) (a : Int) (s : Shared) : Nat → Nat → (Str → Option Value) → List (Addr × Obj) → Prop
  | 0, _, m, news => ∀ h tk o, Fr h₀ L h m → News h₀ L h ((c, o) :: news) → Q .next { s with heap := h, toks := tk }
  | k + 1, i, m, news => ∀ t h tk I oI o, o.data = .cell (some (.int (a + (i : Int)) t)) → Fr h₀ L h m → News h₀ L h ((I, oI) :: (c, o) :: news) → @Ne Nat c I → (∀ p ∈ news, @Ne Nat p.1 I) →
      wpAny (model prog w) A (execs body env) (CLpPost h₀ L c I oI { s with heap := h, toks := tk } (fun m' news' => CLp prog w A E h₀ env L c body Q a s k (i + 1) m' news') Q) E { s with heap := h, toks := tk }
theorem CLp.monoE {prog : Program} {w : World} {A : Around} {E E' : Value → Shared → Prop} {h₀ : Heap} {env : Env} {L c : Addr} {body : List Stmt} {Q : Flow → Shared → Prop} {a : Int} {s : Shared} (hE : ∀ e s', E e s' → E' e s') :
    ∀ {k i : Nat} {m : Str → Option Value} {news : List (Addr × Obj)}, CLp prog w A E h₀ env L c body Q a s k i m news → CLp prog w A E' h₀ env L c body Q a s k i m news := by
  intro k
  induction k with
  | zero => intro i m news h; exact h
  | succ k ih =>
    intro i m news h t h1 tk I oI o a1 a2 a3 a4 a5
    refine wpAny_mono (h t h1 tk I oI o a1 a2 a3 a4 a5) (fun f s₃ h₃ => ?_) hE
    cases f with
    | ret v => exact h₃
    | brk => exact h₃
    | cont =>
      obtain ⟨h', tk', m', o', news', v', e1, e2, e3, e4, e5, e6⟩ := h₃
      exact ⟨h', tk', m', o', news', v', e1, e2, e3, e4, e5, ih e6⟩
    | next =>
      obtain ⟨h', tk', m', o', news', v', e1, e2, e3, e4, e5, e6⟩ := h₃
      exact ⟨h', tk', m', o', news', v', e1, e2, e3, e4, e5, ih e6⟩
noncomputable def ForC (prog : Program) (w : World) (A : Around) (E : Value → Shared → Prop) (h₀ : Heap) (env : Env) (L : Addr) (x : Str) (body : List Stmt) (Q : Flow → Shared → Prop) (xv : Value) (s₁ : Shared) : Prop :=
  ∃ (r : Addr) (a b : Int) (t u v : Tok) (n : Nat) (m : Str → Option Value) (news : List (Addr × Obj)) (c : Addr) (o : Obj) (v₀ : Option Value), xv = .ref r ∧ IsRange s₁.heap r a b 1 t u v ∧ Builtin.Range.small a b 1 = true ∧ Builtin.Range.rangeSize a b 1 = (n : Int) ∧ env.cells.lookup x = some c ∧ Fr h₀ L s₁.heap m ∧ News h₀ L s₁.heap ((c, o) :: news) ∧ o.data = .cell v₀ ∧
    (∀ p ∈ news, p.1 ≠ c) ∧ CLp prog w A E h₀ env L c body Q a s₁ n 0 m news
theorem for_cell {prog : Program} {w : World} {A : Around} {E : Value → Shared → Prop} {Q : Flow → Shared → Prop} {s : Shared} {x : Str} {px pos : Pos} {iter : Expr} {body : List Stmt} {env : Env} {h₀ : Heap} {m₀ : Str → Option Value} {L : Addr} (_F : Fr h₀ L s.heap m₀) (hL : env.locals = L) (hh : A.handled = none)
    (hkk : env.scope.kind = .function) (hx : env.kindOf x = some .cell)
    (h : wpAny (model prog w) A (eval iter env) (fun xv s₁ => ForC prog w A E h₀ env L x body Q xv s₁) E s)
    (hs : ∀ x, foldedSetIterable iter env x = pure x := by intro _; rfl)
    (hE : PassesOwn (model prog w) A env E := by passes_own) :
    wpAny (model prog w) A (exec (.For (.Name x px) iter body [] pos) env) Q E s := by
  subst hL
  refine wpAny_For (wpAny_mono h (fun xv s₁ h₁ => ?_) fun _ _ e => e) hs
  obtain ⟨r, a, b, t, u, v, n, m, news, c, o, v₀, rfl, hr, hsmall, hn, hc, F, N, hd, hoff, hC⟩ := h₁
  refine wpAny_pyIter_range hr hsmall ?_
  have hC := CLp.monoE (E' := notedBy (model prog w) A env fun e s' => cameBackBy (model prog w) A env E e s') hE hC
  have W : Walks prog w A s₁.heap.objs.size [s₁.heap.objs.size] [s₁.heap.objs.size] n (fun i v => ∃ t, v = .int (a + i * 1) t)
      (fun i h => IsRangeIter h s₁.heap.objs.size (a + (i : Nat) * 1) ((n : Int) - (i : Nat)) 1) := Walks.range hh _ a 1 n
  have hnew := next_is_new F
  have hlt : ∀ p ∈ (c, o) :: news, p.1 ≠ s₁.heap.objs.size := fun p hp e => absurd (Heap.lt_size (N p hp).1) (e ▸ Nat.lt_irrefl _)
  generalize hI : s₁.heap.objs.size = I at *
  have hLI : env.locals ≠ I := fun e => absurd F.ns.lt (by rw [hI, e]; exact Nat.lt_irrefl _)
  let J : Nat → Shared → Prop := fun k s' => ∃ h' tk m' o' news' v' i, s' = { s₁ with heap := h', toks := tk } ∧ IsRangeIter h' I (a + (i : Nat) * 1) ((n : Int) - (i : Nat)) 1 ∧ Fr h₀ env.locals h' m' ∧ News h₀ env.locals h' ((c, o') :: news') ∧ o'.data = .cell v' ∧ (∀ p ∈ news', p.1 ≠ c) ∧ (∀ p ∈ (c, o') :: news', p.1 ≠ I) ∧
      CLp prog w A (notedBy (model prog w) A env fun e s' => cameBackBy (model prog w) A env E e s') h₀ env env.locals c body Q a s₁ (n - i) i m' news' ∧ i ≤ n ∧ k = n + 1 - i
  refine codeAny_forLoop J ?_ (n + 1)
    ⟨_, s₁.toks, m, o, news, v₀, 0, rfl, (by show IsRangeIter _ _ _ _ _; rw [hn]; rw [← hI]; simpa using Heap.get?_push_size _ rfl), F.push _, (fun p hp => ⟨Heap.get?_push_of_some _ (N p hp).1, (N p hp).2⟩), hd, hoff, hlt, hC, Nat.zero_le _, rfl⟩
  rintro k s' ⟨h', tk, m', o', news', v', i, rfl, hst', F', N', hd', hoff', hoffI, hJ, hi, rfl⟩
  have next : ∀ h₁ : Heap, (∀ b o, b ∉ [I] → h'.get? b = some o → h₁.get? b = some o) → Fr h₀ env.locals h₁ m' ∧ News h₀ env.locals h₁ ((c, o') :: news') := fun h₁ hk₁ =>
    ⟨⟨F'.ns.at' fun o e => hk₁ _ o (fun q => hLI (List.mem_singleton.mp q)) e, fun b o e => hk₁ b o (fun q => by rw [List.mem_singleton.mp q, hnew] at e; cases e) (F'.keep b o e), F'.above⟩, fun p hp => ⟨hk₁ _ _ (fun q => hoffI p hp (List.mem_singleton.mp q)) (N' p hp).1, (N' p hp).2⟩⟩
  by_cases hltn : i < n
  · refine W.item i _ _ _ hltn hst' fun v h₁ tk₁ hP hst₁ hk₁ => ?_
    obtain ⟨F₁, N₁⟩ := next h₁ hk₁
    obtain ⟨t', rfl⟩ := hP
    have hcc := (N₁ (c, o') (.head _))
    refine wpAny_assign_Name (wpAny_storeName_cell hkk hx hc ⟨o', hcc.1, hd'⟩ fun h₂ hv hsb => ?_)
    obtain ⟨o₂, ho₂, hd₂⟩ := hv
    have F₂ : Fr h₀ env.locals h₂ m' := ⟨F₁.ns.sameBut hsb (Ne.symm hcc.2.1), fun b ob e => (hsb.2 b (fun q => by rw [q, hcc.2.2] at e; cases e)).trans (F₁.keep b ob e), F₁.above⟩
    have hcI : c ≠ I := hoffI _ (.head _)
    have g1 : h₁.get? I = some (itR (a + ((i + 1 : Nat) : Int) * 1) ((n : Int) - ((i + 1 : Nat) : Int))) := hst₁
    have g2 : h₂.get? I = some (itR (a + ((i + 1 : Nat) : Int) * 1) ((n : Int) - ((i + 1 : Nat) : Int))) := (hsb.2 I (fun q => hcI q.symm)).trans g1
    have N₂ : News h₀ env.locals h₂ ((I, itR (a + ((i + 1 : Nat) : Int) * 1) ((n : Int) - ((i + 1 : Nat) : Int))) :: (c, o₂) :: news') := by
      intro p hp
      rcases List.mem_cons.mp hp with rfl | hp
      · exact ⟨g2, Ne.symm hLI, hnew⟩
      rcases List.mem_cons.mp hp with rfl | hp
      · exact ⟨ho₂, hcc.2⟩
      · exact ⟨(hsb.2 _ (hoff' p hp)).trans (N₁ p (.tail _ hp)).1, (N₁ p (.tail _ hp)).2⟩
    have e : n - i = (n - (i + 1)) + 1 := by omega
    rw [e] at hJ
    have e1 : a + (i : Int) * 1 = a + (i : Int) := by omega
    rw [e1] at hd₂
    refine wpAny_mono (hJ t' h₂ tk₁ I _ o₂ hd₂ F₂ N₂ hcI (fun p hp => hoffI p (.tail _ hp))) (fun f s₃ h₃ => ?_) fun _ _ e => e
    have fin : (∃ h' tk' m' o' news' v', s₃ = { s₁ with heap := h', toks := tk' } ∧ Fr h₀ env.locals h' m' ∧ News h₀ env.locals h' ((I, itR (a + ((i + 1 : Nat) : Int) * 1) ((n : Int) - ((i + 1 : Nat) : Int))) :: (c, o') :: news') ∧ (∀ p ∈ news', p.1 ≠ I ∧ p.1 ≠ c) ∧ o'.data = .cell v' ∧ CLp prog w A (notedBy (model prog w) A env fun e s' => cameBackBy (model prog w) A env E e s') h₀ env env.locals c body Q a s₁ (n - (i + 1)) (i + 1) m' news') → ∃ m, m < n + 1 - i ∧ J m s₃ := by
      rintro ⟨h₃', tk₃, m₃, o₃, news₃, v₃, e3, F₃, N₃, off₃, hd₃, hJ₃⟩
      refine ⟨n + 1 - (i + 1), by omega, h₃', tk₃, m₃, o₃, news₃, v₃, i + 1, e3, (N₃ _ (.head _)).1, F₃, fun p hp => N₃ p (.tail _ hp), hd₃, fun p hp => (off₃ p hp).2, fun p hp => ?_, hJ₃, hltn, rfl⟩
      rcases List.mem_cons.mp hp with rfl | hp
      · exact hcI
      · exact (off₃ p hp).1
    cases f with
    | ret v => exact h₃
    | brk => exact h₃
    | cont => exact fin h₃
    | next => exact fin h₃
  · have hin : i = n := by omega
    subst hin
    rw [Nat.sub_self] at hJ
    refine W.done _ _ _ hst' fun h₁ tk₁ hk₁ => wpAny_execs_nil ?_
    obtain ⟨F₁, N₁⟩ := next h₁ hk₁
    exact hJ h₁ tk₁ o' F₁ N₁
theorem CLpEnd.of {h₀ : Heap} {L c I : Addr} {oI : Obj} {s : Shared} {rest : (Str → Option Value) → List (Addr × Obj) → Prop} {h' : Heap} {tk' : Nat} {m' : Str → Option Value} {D2 : Addr} {o2 o' : Obj} {news : List (Addr × Obj)} {v' : Option Value}
    (F : Fr h₀ L h' m') (N : News h₀ L h' ((D2, o2) :: (I, oI) :: (c, o') :: news)) (a : @Ne Nat I D2) (b : @Ne Nat c D2) (off : ∀ p ∈ news, @Ne Nat p.1 I ∧ @Ne Nat p.1 c) (hd : o'.data = .cell v') {Q : Flow → Shared → Prop} (hr : rest m' ((D2, o2) :: news)) : CLpPost h₀ L c I oI s rest Q .next { s with heap := h', toks := tk' } := by
  show CLpEnd _ _ _ _ _ _ _ _
  refine ⟨h', tk', m', o', (D2, o2) :: news, v', rfl, F, kst_newsOf N fun p hp => ?_, ?_, hd, hr⟩
  · rcases List.mem_cons.mp hp with rfl | hp
    · exact .tail _ (.head _)
    rcases List.mem_cons.mp hp with rfl | hp
    · exact .tail _ (.tail _ (.head _))
    rcases List.mem_cons.mp hp with rfl | hp
    · exact .head _
    · exact .tail _ (.tail _ (.tail _ hp))
  · intro p hp
    rcases List.mem_cons.mp hp with rfl | hp
    · exact ⟨fun e => a e.symm, fun e => b e.symm⟩
    · exact off p hp

end
section
theorem news_rot3 {g h : Heap} {L : Addr} {p1 p2 p3 : Addr × Obj} (N : News g L h [p1, p2, p3]) : News g L h (p3 :: [p1, p2]) := by
  refine kst_newsOf N fun p hp => ?_
  simp only [List.mem_cons, List.not_mem_nil, or_false] at hp ⊢
  rcases hp with h | h | h <;> simp [h]
theorem stepm_c (w : World) (mean mg mb) (l : Addr) (x y : Int) :
    PCall w mean mg mb 2 189 [.ref l] (fun h => AL h l [x, y]) (fun h h' r => MX h h' r x y 1 0) := by
  unfold PCall; k_fill
  intro dp un gd cn cs a ccd cl outer A₀ base h₀ L m sh gg dd tk oo Q E B F X T hk hdp hun hpre hret
  obtain ⟨vs, hl, hi, hlen⟩ := hpre
  have hl2 : ([x, y] : List Int).length = 2 := rfl
  refine wpAny_call ?_
  k_dflt walk_at "M.enter"
  repeat' (first | (k_unfold; (try dsimp only)) | ((fail_if_success (with_reducible show wpAny _ _ (exec (Stmt.For _ _ _ _ _) _) _ _ _)); walk1))
  · rename Fr _ _ _ _ => lF
    refine for_cell lF rfl rfl rfl rfl ?_
    repeat' (first | (k_unfold; (try dsimp only)) | walk1 | (simp only [List.cons_append, List.nil_append]; walk1))
    rename IsRange _ _ _ _ _ _ _ _ => rgX
    rename News _ _ _ _ => lN
    rename Fr _ _ _ _ => lF
    have rgX : IsRange _ _ 0 1 1 _ _ _ := rgX
    refine ⟨_, _, _, _, _, _, 1, _, _, _, _, _, rfl, rgX, by decide, by decide, rfl, lF, news_rot3 lN, by assumption, ?_, ?_⟩
    · simp only [List.forall_mem_cons, List.not_mem_nil, false_implies, implies_true, and_true]
      refine ⟨neN ?_, neN ?_⟩ <;> omega
    clear rgX lN
    intro t h tk I oI o hod F1 N1 hcI hoff
    have hod : o.data = .cell (some (.int 0 t)) := hod
    simp only [List.forall_mem_cons, List.not_mem_nil, false_implies, implies_true, and_true] at hoff
    repeat' (first | (k_unfold; (try dsimp only)) | walk1 | (simp only [List.cons_append, List.nil_append]; walk1))
    refine CLpEnd.of (by assumption) (by assumption) (And.left (by assumption)) (And.left (And.right (by assumption))) ?_ hod ?_
    · simp only [List.forall_mem_cons, List.not_mem_nil, false_implies, implies_true, and_true]
      refine ⟨⟨?_, ?_⟩, ?_, ?_⟩ <;> omega
    intro h tk o F1 N1
    repeat' (first | (k_unfold; (try dsimp only)) | walk1 | (simp only [List.cons_append, List.nil_append]; walk1))
    exact hret _ _ _ (Fr.keep (by assumption)) (MX.of2 (by assumption) (by k_mem) (by k_mem) (by k_mem) rfl hi (by assumption))

end
theorem rows_stepm : True := by
  k_with "M.call" => ((with_reducible show wpAny _ _ (call (Value.ref 189) _) _ _ _); k_dflt (refine' pc_useM (stepm_c _ _ _ _ _ _ _) ?qqk1 ?qqk2 ?qqk3 ?qqk4 ?qqk5 ?qqkK ?qqkd ?qqku ?qqkp ?_; (walk_at "M.use"); (case qqkp => walk_at "M.pre"); k_whole; intro _ _ _ _ _ _ _ _ _ _ _ _ _ _; (try k_sweep)))
  trivial
section
noncomputable def CIEnd (h₀ : Heap) (L : Addr) (m : Str → Option Value) (s : Shared) (all : List (Addr × Obj)) (r : Int) (y : Value) (s₂ : Shared) : Prop :=
  ∃ h' tk' t, s₂ = { s with heap := h', toks := tk' } ∧ y = .int r t ∧ Fr h₀ L h' m ∧ News h₀ L h' all
noncomputable def CTEnd (h₀ : Heap) (L : Addr) (m : Str → Option Value) (s : Shared) (I C D Cc : Addr) (all : List (Addr × Obj)) (R : Obj → Prop) (y : Value) (s₂ : Shared) : Prop :=
  ∃ h' tk' D2 o2, s₂ = { s with heap := h', toks := tk' } ∧ y = .ref D2 ∧ Fr h₀ L h' m ∧ News h₀ L h' ((D2, o2) :: all) ∧ (@Ne Nat I D2) ∧ (@Ne Nat C D2) ∧ (@Ne Nat D D2) ∧ (@Ne Nat Cc D2) ∧ R o2
section
variable {prog : Program} {w : World} {A : Around} {s : Shared} {h₀ : Heap} {L : Addr} {m : Str → Option Value} {env : Env} {elt : Expr} {x : Str} {scope : Scope} {cl : List (Str × Addr)} {S : List (Addr × Obj) → Prop} {P : Nat → Value → Prop} {Fin : List Value → List (Addr × Obj) → Prop}
theorem CRc.ints {news : List (Addr × Obj)} (g : Nat → Int) (n : Nat) (hS : S news)
    (turn : ∀ i v I oI C D Cc ys h tk (E' : Value → Shared → Prop), i < n → P i v → Fr h₀ L h m → News h₀ L h ((I, oI) :: (C, dct0) :: (D, LCg.lst ys) :: (Cc, cellO (some v)) :: news) → (∀ p ∈ news, @Ne Nat p.1 I ∧ @Ne Nat p.1 C ∧ @Ne Nat p.1 D ∧ @Ne Nat p.1 Cc) → ((@Ne Nat I C) ∧ (@Ne Nat I D) ∧ (@Ne Nat I Cc) ∧ (@Ne Nat C D) ∧ (@Ne Nat C Cc) ∧ (@Ne Nat D Cc)) →
      wpAny (model prog w) A (eval elt (compEnvC scope ((x, Cc) :: cl) C env)) (CIEnd h₀ L m s ((I, oI) :: (C, dct0) :: (D, LCg.lst ys) :: (Cc, cellO (some v)) :: news) (g i)) E' { s with heap := h, toks := tk })
    (fin : ∀ ys, IntsAre ys ((List.range n).map g) → Fin ys news) : CRc prog w A h₀ L m env elt x scope cl s S P Fin n 0 [] news := by
  have key : ∀ (j i : Nat) (ys : List Value), i + j = n → IntsAre ys ((List.range i).map g) → CRc prog w A h₀ L m env elt x scope cl s S P Fin j i ys news := by
    intro j
    induction j with
    | zero =>
      intro i ys hi hy
      have e : i = n := by omega
      subst e
      exact fin ys hy
    | succ j ih =>
      intro i ys hi hy v I oI C D Cc h tk E' hv F N off ne
      refine wpAny_mono (turn i v I oI C D Cc ys h tk E' (by omega) hv F N off ne) (fun y s₂ hq => ?_) fun _ _ e => e
      obtain ⟨h', tk', t, e, rfl, F', N'⟩ := hq
      refine ⟨h', tk', news, e, F', N', off, hS, ih (i + 1) _ (by omega) ?_⟩
      rw [List.range_succ, List.map_append]
      exact hy.append (.cons (g i) t .nil)
  exact key n 0 [] (by omega) .nil
theorem CRc.two {c₀ : Addr × Obj} {cells : List (Addr × Obj)} (R : Nat → Obj → Prop) (hS : ∀ nw, S nw)
    (turn : ∀ i v De oe I oI C D Cc ys h tk (E' : Value → Shared → Prop), i < 2 → P i v → Fr h₀ L h m → News h₀ L h ((I, oI) :: (C, dct0) :: (D, LCg.lst ys) :: (Cc, cellO (some v)) :: (De, oe) :: c₀ :: cells) → (∀ p ∈ (De, oe) :: c₀ :: cells, @Ne Nat p.1 I ∧ @Ne Nat p.1 C ∧ @Ne Nat p.1 D ∧ @Ne Nat p.1 Cc) → ((@Ne Nat I C) ∧ (@Ne Nat I D) ∧ (@Ne Nat I Cc) ∧ (@Ne Nat C D) ∧ (@Ne Nat C Cc) ∧ (@Ne Nat D Cc)) →
      wpAny (model prog w) A (eval elt (compEnvC scope ((x, Cc) :: cl) C env)) (CTEnd h₀ L m s I C D Cc ((I, oI) :: (C, dct0) :: (D, LCg.lst ys) :: (Cc, cellO (some v)) :: (De, oe) :: c₀ :: cells) (R i)) E' { s with heap := h, toks := tk })
    (fin : ∀ D0 o0 D1 o1, R 0 o0 → R 1 o1 → Fin [.ref D0, .ref D1] ((D1, o1) :: (D0, o0) :: c₀ :: cells)) : CRc prog w A h₀ L m env elt x scope cl s S P Fin 2 0 [] (c₀ :: cells) := by
  intro v I oI C D Cc h tk E' hv F N off ne
  have N1 : News h₀ L h ((I, oI) :: (C, dct0) :: (D, LCg.lst []) :: (Cc, cellO (some v)) :: (c₀.1, c₀.2) :: c₀ :: cells) := kst_newsOf N fun p hp => by
    simp only [List.mem_cons] at hp ⊢
    rcases hp with h | h | h | h | h | h <;> simp [h]
  refine wpAny_mono (turn 0 v c₀.1 c₀.2 I oI C D Cc [] h tk E' (by decide) hv F N1 (List.forall_mem_cons.mpr ⟨off _ (.head _), off⟩) ne) (fun y s₂ hq => ?_) fun _ _ e => e
  obtain ⟨h', tk', D2, o2, rfl, rfl, F', N', n1, n2, n3, n4, hr⟩ := hq
  refine CEnd.of (o2 := o2) F' (kst_newsOf N' fun p hp => ?_) n1 n2 n3 n4 off (hS _) ?_
  · simp only [List.mem_cons] at hp ⊢
    rcases hp with h | h | h | h | h | h <;> simp [h]
  intro v I oI C D Cc h tk E' hv F N off ne
  refine wpAny_mono (turn 1 v D2 o2 I oI C D Cc [.ref D2] h tk E' (by decide) hv F N off ne) (fun y s₂ hq => ?_) fun _ _ e => e
  obtain ⟨h', tk', D3, o3, rfl, rfl, F', N', n1, n2, n3, n4, hr'⟩ := hq
  exact CEnd.of F' N' n1 n2 n3 n4 off (hS _) (fin _ _ _ _ hr hr')
end

end
section
section
variable {prog : Program} {w : World} {A : Around} {E : Value → Shared → Prop} {s : Shared} {h₀ : Heap} {L : Addr} {m : Str → Option Value} {env : Env}
theorem lct_block {elt iter : Expr} {x x₂ : Str} {px px₂ tp : Pos} {tk} {scope : Scope} {cl : List (Str × Addr)} {pos : Pos} {s₂ : Shared} {I : Addr} {fp wr : List Addr} {n : Nat} {P Md : Nat → Value → Heap → Prop} {St : Nat → Heap → Prop} {news : List (Addr × Obj)} {Q : Value → Shared → Prop}
    (Pt : Nat → Value → Value → Prop) (g : Nat → Int)
    (W : KTurns prog w A (.Tuple [.Name x px, .Name x₂ px₂] tk tp) I fp wr n P Md St) (hP : ∀ i v h, P i v h → ∃ T v1 v2, v = .ref T ∧ Pt i v1 v2 ∧ IsTup h T #[v1, v2])
    (hself : ∀ (s' : Shared) (Q' : Value → Shared → Prop) (E' : Value → Shared → Prop), St 0 s'.heap → Q' (.ref I) s' → wpAny (model prog w) A (pyIter (.ref I)) Q' E' s')
    (hsz : n ≤ sizeLine) (hcell : ∀ y ∈ scope.names, y.2 ≠ .cell) (hkind : scope.kind = .function) (hx : scope.names.lookup x = some .local) (hx₂ : scope.names.lookup x₂ = some .local) (hxx : x ≠ x₂) (hh : A.handled = none) (hst : St 0 s₂.heap) (hfp : ∀ b ∈ fp, b < s₂.heap.objs.size)
    (F : Fr h₀ L s₂.heap m) (N : News h₀ L s₂.heap news) (hLf : L ∉ fp) (hwr : ∀ b ∈ wr, h₀.get? b = none) (off : ∀ p ∈ news, p.1 ∉ wr)
    (turn : ∀ i v1 v2 C oC D m₂ ys own h tk' (E' : Value → Shared → Prop), i < n → Pt i v1 v2 → LCg.NsObj oC m₂ → m₂ x = some v1 → m₂ x₂ = some v2 → Fr h₀ L h m → News h₀ L h (((C, oC) :: (D, LCg.lst ys) :: news) ++ own) → (∀ p ∈ news, @Ne Nat p.1 C ∧ @Ne Nat p.1 D) → @Ne Nat C D →
      wpAny (model prog w) A (eval elt (compEnvC scope cl C env)) (CIEnd h₀ L m s₂ (((C, oC) :: (D, LCg.lst ys) :: news) ++ own) (g i)) E' { s₂ with heap := h, toks := tk' })
    (fin : ∀ D h tk' ys, Fr h₀ L h m → News h₀ L h ((D, LCg.lst ys) :: news) → (∀ p ∈ news, @Ne Nat p.1 D) → IntsAre ys ((List.range n).map g) → Q (.ref D) { s₂ with heap := h, toks := tk' }) :
    wpAny (model prog w) A (newList []) (fun acc s₃ => wpAny (model prog w) A (newFunctionEnv scope env.globals cl [] env.qual none .none (some env)) (fun cenv s₄ =>
      codeAny (model prog w) A (.compStart (.ListComp elt [⟨.Tuple [.Name x px, .Name x₂ px₂] tk tp, iter, [], 0⟩] scope pos) 0 (.ref I) acc { cenv with scope := relabel scope env }) (compPost (model prog w) A E none Q acc cenv.locals) s₄) E s₃) E s₂ := by
  refine wpAny_newObj_type (wpAny_newFunctionEnv hcell (by intro y hy; simp at hy) (fun h₁ hns₁ hsb₁ => ?_) hkind)
  dsimp only at hns₁ hsb₁ ⊢
  generalize hH2 : s₂.heap.push { cls := .type "list", dict := none, data := .seq ([] : List Value).toArray } = H2 at hns₁ hsb₁ ⊢
  generalize hDe : s₂.heap.objs.size = D at *
  have hC : H2.objs.size = D + 1 := by rw [← hH2, Heap.size_push, hDe]
  rw [hC] at hns₁ hsb₁ ⊢
  have hDC : D ≠ D + 1 := Nat.ne_of_lt (Nat.lt_succ_self _)
  have hDf : D ∉ fp := fun hm => Nat.lt_irrefl _ (hfp _ hm)
  have hCf : D + 1 ∉ fp := fun hm => absurd (hfp _ hm) (Nat.not_lt.mpr (Nat.le_succ D))
  have hlt0 : ∀ b o, s₂.heap.get? b = some o → b < D := fun b o e => hDe ▸ Heap.lt_size e
  have old : ∀ b o, s₂.heap.get? b = some o → h₁.get? b = some o := fun b o e => hsb₁.extBut b o (Nat.ne_of_lt (Nat.lt_succ_of_lt (hlt0 b o e))) (Heap.get?_push_of_some _ (hH2 ▸ Heap.get?_push_of_some _ e))
  have hacc : h₁.get? D = some (LCg.lst []) := hsb₁.extBut _ _ hDC (Heap.get?_push_of_some _ (by rw [← hH2, ← hDe]; exact Heap.get?_push_size _ rfl))
  have hst₁ : St 0 h₁ := W.frame _ _ _ hst fun b _ o e => old b o e
  have fresh₀ : ∀ a, D ≤ a → h₀.get? a = none := fun a ha => by
    cases e : h₀.get? a with
    | none => rfl
    | some o' => exact absurd (hlt0 a o' (F.keep a o' e)) (Nat.not_lt.mpr ha)
  have hD₀ : h₀.get? D = none := fresh₀ _ (Nat.le_refl _)
  have hC₀ : h₀.get? (D + 1) = none := fresh₀ _ (Nat.le_succ _)
  have hLlt : L < D := hDe ▸ F.ns.lt
  have hDL : D ≠ L := Ne.symm (Nat.ne_of_lt hLlt)
  have hCL : D + 1 ≠ L := Ne.symm (Nat.ne_of_lt (Nat.lt_succ_of_lt hLlt))
  have hnlt : ∀ p ∈ news, @Ne Nat p.1 (D + 1) ∧ @Ne Nat p.1 D := fun p hp => by have := hlt0 _ _ (N p hp).1; exact ⟨Nat.ne_of_lt (Nat.lt_succ_of_lt this), Nat.ne_of_lt this⟩
  have hLw : L ∉ wr := fun h => hLf (W.sub _ h)
  have hCw : D + 1 ∉ wr := fun h => hCf (W.sub _ h)
  have hDw : D ∉ wr := fun h => hDf (W.sub _ h)
  have offA : ∀ (ys : List Value), ∀ p ∈ (D, LCg.lst ys) :: news, p.1 ∉ wr := fun ys p hp => by
    rcases List.mem_cons.mp hp with rfl | hp
    · exact hDw
    · exact off p hp
  have loop : ∀ s₃ : Shared, s₃ = { s₂ with heap := h₁, toks := s₂.toks + ([] : List (Str × Value)).length } →
      codeAny (model prog w) A (.compLoop (.ListComp elt [⟨.Tuple [.Name x px, .Name x₂ px₂] tk tp, iter, [], 0⟩] scope pos) 0 (.ref I) (.ref D) (compEnvC scope cl (D + 1) env))
        (compPost (model prog w) A E none Q (.ref D) (D + 1)) s₃ := by
    rintro s₃ rfl
    refine LCp.codeAny_compLoop_pair
      (fun k s' => ∃ h' tk i ys m', s' = { s₂ with heap := h', toks := tk } ∧ i ≤ n ∧ k = n + 1 - i ∧ ys.length = i ∧ St i h' ∧ Fr h₀ L h' m ∧ h'.Ns (D + 1) m' ∧ News h₀ L h' ((D, LCg.lst ys) :: news) ∧ IntsAre ys ((List.range i).map g)) ?_ (n + 1)
      ⟨h₁, _, 0, [], _, rfl, Nat.zero_le _, rfl, rfl, hst₁, F.keeps old, hns₁, fun p hp => ?_, .nil⟩
    · rintro k s' ⟨h', tk, i, ys, m', rfl, hi, rfl, hyl, hst', F', hn', N', hys⟩
      have next : ∀ h₂ : Heap, (∀ b o, b ∉ wr → h'.get? b = some o → h₂.get? b = some o) → Fr h₀ L h₂ m ∧ News h₀ L h₂ ((D, LCg.lst ys) :: news) ∧ h₂.Ns (D + 1) m' := fun h₂ hk =>
        ⟨⟨F'.ns.at' fun o e => hk _ o hLw e, fun b o e => hk b o (fun q => by rw [hwr b q] at e; cases e) (F'.keep b o e), F'.above⟩, fun p hp => ⟨hk _ _ (offA ys p hp) (N' p hp).1, (N' p hp).2⟩, hn'.at' fun o e => hk _ o hCw e⟩
      by_cases hlt : i < n
      · refine W.item i _ _ _ hlt hst' fun v h₂ tk₂ hMd hk₂ => ?_
        refine W.go i v _ _ _ hMd fun h₃ hPv hst₃ hk₃ => ?_
        obtain ⟨F₃, N₃, hn₃⟩ := next h₃ fun b o hb e => hk₃ b o hb (hk₂ b o hb e)
        obtain ⟨T, v₁, v₂, rfl, hpt, ht⟩ := hP _ _ _ hPv
        refine assign_Tuple_tuple hh ht rfl rfl fun h₅ he => ?_
        have he' : ∀ b o, h₃.get? b = some o → h₅.get? b = some o := fun b o e => he b o (Nat.ne_of_lt (Heap.lt_size e)) e
        refine assignInOrder_cons (wpAny_assign_Name (wpAny_storeName_local (lookup_relabel_local hx) (hn₃.at' fun o e => he' _ o e) (fun h₆ hn₆ hs₆ => ?_) (by simp [compEnvC, relabel, hkind])))
        refine assignInOrder_cons (wpAny_assign_Name (wpAny_storeName_local (lookup_relabel_local hx₂) hn₆ (fun h₇ hn₇ hs₇ => ?_) (by simp [compEnvC, relabel, hkind])))
        refine assignInOrder_nil ?_
        have old7 : ∀ b o, b ≠ D + 1 → h₃.get? b = some o → h₇.get? b = some o := fun b o hb e => hs₇.extBut b o hb (hs₆.extBut b o hb (he' b o e))
        have hst₇ : St (i + 1) h₇ := W.frame _ _ _ hst₃ fun b hb o e => old7 b o (fun q => hCf (by rw [← q]; exact hb)) e
        obtain ⟨oC, heC, hoC⟩ := LCg.ns_obj hn₇
        have F₇ : Fr h₀ L h₇ m := ((F₃.keeps he').change hs₆ hCL hC₀).change hs₇ hCL hC₀
        have Nown : News h₀ L h₇ (PyProof.Rows.ownOf h₀ fp h₇) := news_ownOf hLf
        have N₇ : News h₀ L h₇ (((D + 1, oC) :: (D, LCg.lst ys) :: news) ++ PyProof.Rows.ownOf h₀ fp h₇) := fun p hp => by
          rcases List.mem_append.mp hp with hp | hp
          · rcases List.mem_cons.mp hp with rfl | hp
            · exact ⟨heC, hCL, hC₀⟩
            · have z := N₃ p hp
              refine ⟨old7 _ _ ?_ z.1, z.2⟩
              rcases List.mem_cons.mp hp with rfl | hp
              · exact hDC
              · exact (hnlt p hp).1
          · exact Nown p hp
        refine wpAny_mono (turn i v₁ v₂ (D + 1) oC D _ ys _ h₇ _ _ hlt hpt hoC (by simp [hxx]) (by simp) F₇ N₇ hnlt (Ne.symm hDC)) (fun y s₄ h₄ => ?_) fun _ _ e => e
        obtain ⟨h₄, tk₄, t₄, rfl, rfl, F₄, N₄⟩ := h₄
        have zC := (N₄ (D + 1, oC) List.mem_cons_self).1
        have zD := (N₄ (D, LCg.lst ys) (List.mem_cons_of_mem _ List.mem_cons_self)).1
        have hst₄ : St (i + 1) h₄ := W.frame _ _ _ hst₇ fun b hb o e => by
          cases hn : h₀.get? b with
          | some o₀ =>
            have : o₀ = o := by have := F₇.keep b o₀ hn; rw [e] at this; exact (Option.some.inj this).symm
            exact this ▸ F₄.keep b o₀ hn
          | none => exact (N₄ _ (List.mem_append_right _ (mem_ownOf hb hn e))).1
        refine append_at (hsz := by show ys.toArray.size ≤ sizeLine; rw [List.size_toArray, hyl]; exact Nat.le_trans hi hsz) zD fun h₅' hs₅ hD₅ => ?_
        refine ⟨n + 1 - (i + 1), by omega, h₅', tk₄, i + 1, ys ++ [.int (g i) t₄], _, rfl, hlt, rfl, by rw [List.length_append, List.length_singleton, hyl], W.frame _ _ _ hst₄ fun b hb o e => hs₅.extBut b o (fun q => hDf (q ▸ hb)) e, F₄.change hs₅ hDL hD₀,
          (hoC.ns zC).sameBut hs₅ (Ne.symm hDC), fun p hp => ?_, ?_⟩
        · rcases List.mem_cons.mp hp with rfl | hp
          · exact ⟨hD₅.trans (congrArg some (LCg.lst_snoc ys _)), hDL, hD₀⟩
          · have z := N₄ p (List.mem_append_left _ (List.mem_cons_of_mem _ (List.mem_cons_of_mem _ hp)))
            exact ⟨hs₅.extBut _ _ (hnlt p hp).2 z.1, z.2⟩
        · rw [List.range_succ, List.map_append]
          exact hys.append (.cons (g i) t₄ .nil)
      · obtain rfl : i = n := Nat.le_antisymm hi (Nat.not_lt.mp hlt)
        refine W.done _ _ _ hst' fun h₂ tk₂ hk₂ => ?_
        obtain ⟨F₂, N₂, hn₂⟩ := next h₂ hk₂
        refine ⟨m', hn₂, fun h'' hs'' => fin D h'' tk₂ ys (F₂.change hs'' hCL hC₀) (fun p hp => ?_) (fun p hp => (hnlt p hp).2) hys⟩
        refine ⟨hs''.extBut _ _ ?_ (N₂ p hp).1, (N₂ p hp).2⟩
        rcases List.mem_cons.mp hp with rfl | hp
        · exact hDC
        · exact (hnlt p hp).1
    · rcases List.mem_cons.mp hp with rfl | hp
      · exact ⟨hacc, hDL, hD₀⟩
      · exact ⟨old _ _ (N p hp).1, (N p hp).2⟩
  exact codeAny_compStart_list (loop _ rfl) (hself _ _ _ hst₁ (loop _ rfl))
end
section
variable {prog : Program} {w : World} {A : Around} {E : Value → Shared → Prop} {s : Shared} {h₀ : Heap} {L : Addr} {m : Str → Option Value} {env : Env}
noncomputable def TSrc (prog : Program) (w : World) (A : Around) (E : Value → Shared → Prop) (env : Env) (elt iter target : Expr) (scope : Scope) (cl : List (Str × Addr)) (pos : Pos) (Q : Value → Shared → Prop) (xv : Value) (s₁ : Shared) : Prop :=
  wpAny (model prog w) A (pyIter xv) (fun it s₂ => wpAny (model prog w) A (newList []) (fun acc s₃ => wpAny (model prog w) A (newFunctionEnv scope env.globals cl [] env.qual none .none (some env)) (fun cenv s₄ =>
    codeAny (model prog w) A (.compStart (.ListComp elt [⟨target, iter, [], 0⟩] scope pos) 0 it acc { cenv with scope := relabel scope env }) (compPost (model prog w) A E none Q acc cenv.locals) s₄) E s₃) E s₂) E s₁
theorem ListComp_T {elt iter target : Expr} {scope : Scope} {cl : List (Str × Addr)} {pos : Pos} {Q : Value → Shared → Prop} (hclos : closureFor scope env = pure cl) (hkind : scope.kind = .function)
    (hnames : ∀ y ∈ scope.names, y.2 = .local → scope.names.lookup y.1 = some .local) (h : wpAny (model prog w) A (eval iter env) (TSrc prog w A E env elt iter target scope cl pos Q) E s)
    (hs : ∀ x, foldedSetIterable iter env x = pure x := by intro _; rfl) :
    wpAny (model prog w) A (eval (.ListComp elt [⟨target, iter, [], 0⟩] scope pos) env) Q E s := by
  rw [eval_ListComp]
  exact wpAny_comprehension_free (use := none) rfl hs hclos hkind hnames h
theorem lct_enum {elt iter : Expr} {x x₂ : Str} {px px₂ tp : Pos} {tk} {scope : Scope} {cl : List (Str × Addr)} {pos : Pos} {l : Addr} {vs : List Value} {news : List (Addr × Obj)} {Q : Value → Shared → Prop} (g : Nat → Int)
    (F : Fr h₀ L s.heap m) (N : News h₀ L s.heap news) (hl₀ : h₀.IsList l vs.toArray) (hsz : vs.length ≤ sizeLine) (hcell : ∀ y ∈ scope.names, y.2 ≠ .cell) (hkind : scope.kind = .function) (hx : scope.names.lookup x = some .local) (hx₂ : scope.names.lookup x₂ = some .local) (hxx : x ≠ x₂) (hh : A.handled = none)
    (turn : ∀ s₂, (∃ h, s₂ = { s with heap := h }) → ∀ (i : Nat) v C oC D m₂ ys own t h tk' (E' : Value → Shared → Prop), vs[i]? = some v → LCg.NsObj oC m₂ → m₂ x = some (.int (i : Int) t) → m₂ x₂ = some v → Fr h₀ L h m → News h₀ L h (((C, oC) :: (D, LCg.lst ys) :: news) ++ own) → (∀ p ∈ news, @Ne Nat p.1 C ∧ @Ne Nat p.1 D) → @Ne Nat C D →
      wpAny (model prog w) A (eval elt (compEnvC scope cl C env)) (CIEnd h₀ L m s₂ (((C, oC) :: (D, LCg.lst ys) :: news) ++ own) (g i)) E' { s₂ with heap := h, toks := tk' })
    (fin : ∀ s₂, (∃ h, s₂ = { s with heap := h }) → ∀ D h tk' ys, Fr h₀ L h m → News h₀ L h ((D, LCg.lst ys) :: news) → (∀ p ∈ news, @Ne Nat p.1 D) → IntsAre ys ((List.range vs.length).map g) → Q (.ref D) { s₂ with heap := h, toks := tk' }) :
    wpAny (model prog w) A (call (.type "enumerate") [.ref l]) (TSrc prog w A E env elt iter (.Tuple [.Name x px, .Name x₂ px₂] tk tp) scope cl pos Q) E s := by
  have hl : s.heap.IsList l vs.toArray := hl₀.at fun o e => F.keep _ _ e
  have hlt : l < s.heap.objs.size := by obtain ⟨_, e, _⟩ := hl; exact Heap.lt_size e
  have hLl : L ≠ l := by
    obtain ⟨o, e, _⟩ := hl₀
    rintro rfl
    exact absurd (Heap.lt_size e) (Nat.not_lt.mpr F.above)
  have hLs : L < s.heap.objs.size := F.ns.lt
  refine call_enumerate_list hl fun h' hE hI hsz' hk => ?_
  refine wpAny_pyIter_enum hE ?_
  refine lct_block (fun i v1 v2 => ∃ t x, vs.toArray[i]? = some x ∧ v1 = .int (i : Int) t ∧ v2 = x) g (KTurns.ofWalksU (WalksT.enumerate hh (s.heap.objs.size + 1) s.heap.objs.size l (Nat.succ_ne_self _) (ktu_ne 1 hlt) (Nat.ne_of_lt hlt) vs.toArray).toU) ?_ ?_ (by rw [List.size_toArray]; exact hsz) hcell hkind hx hx₂ hxx hh ⟨⟨.none, hE⟩, hI, hl.at fun o e => hk l o e⟩ ?_ (F.keeps hk) (N.grown hk) ?_ ?_ ?_ ?_ ?_
  · rintro i v h ⟨T, vals, rfl, ⟨t, x, hx, rfl⟩, hT⟩
    exact ⟨T, _, _, rfl, ⟨t, x, hx, rfl, rfl⟩, hT⟩
  · rintro s' Q' E' ⟨⟨old, he⟩, _⟩ hQ
    exact wpAny_pyIter_enum he hQ
  · intro b hb
    show b < h'.objs.size
    rw [hsz']
    have hb' : b = s.heap.objs.size + 1 ∨ b = s.heap.objs.size ∨ b = l := by simpa using hb
    rcases hb' with rfl | rfl | rfl
    · exact Nat.lt_succ_self _
    · exact Nat.lt_succ_of_lt (Nat.lt_succ_self _)
    · exact Nat.lt_succ_of_lt (Nat.lt_succ_of_lt hlt)
  · intro hI'
    have hb' : L = s.heap.objs.size + 1 ∨ L = s.heap.objs.size ∨ L = l := by simpa using hI'
    rcases hb' with e | e | e
    · exact ktu_ne 1 hLs e
    · exact Nat.ne_of_lt hLs e
    · exact hLl e
  · intro b hb
    have hb' : b = s.heap.objs.size + 1 ∨ b = s.heap.objs.size := by simpa using hb
    rcases hb' with rfl | rfl
    · exact ktu_new F (Nat.le_add_right _ _)
    · exact ktu_new F (Nat.le_refl _)
  · intro p hp hI'
    have hb' : p.1 = s.heap.objs.size + 1 ∨ p.1 = s.heap.objs.size := by simpa using hI'
    have hlp := Heap.lt_size (N p hp).1
    rcases hb' with e | e
    · exact ktu_ne 1 hlp e
    · exact Nat.ne_of_lt hlp e
  · rintro i v1 v2 C oC D m₂ ys own h tk' E' hi ⟨t, x, hx, rfl, rfl⟩ a1 a2 a3 a4 a5 a6 a7
    exact turn _ ⟨h', rfl⟩ i v2 C oC D m₂ ys own t h tk' E' (by simpa using hx) a1 a2 a3 a4 a5 a6 a7
  · intro D h tk' ys a1 a2 a3 a4
    exact fin _ ⟨h', rfl⟩ D h tk' ys a1 a2 a3 (by simpa using a4)
theorem lct_zip {elt iter : Expr} {x x₂ : Str} {px px₂ tp : Pos} {tk} {scope : Scope} {cl : List (Str × Addr)} {pos : Pos} {l1 l2 : Addr} {lo1 lo2 : Obj} {xs ys₀ : List Value} {n1 n2 : Nat} {news : List (Addr × Obj)} {Q : Value → Shared → Prop} (g : Nat → Int)
    (F : Fr h₀ L s.heap m) (N : News h₀ L s.heap news) (hm1 : (l1, lo1) ∈ news) (hc1 : lo1.cls = .type "list") (hd1 : lo1.data = .seq xs.toArray n1) (hm2 : (l2, lo2) ∈ news) (hc2 : lo2.cls = .type "list") (hd2 : lo2.data = .seq ys₀.toArray n2) (hlen : xs.length = ys₀.length)
    (hsz : xs.length ≤ sizeLine) (hcell : ∀ y ∈ scope.names, y.2 ≠ .cell) (hkind : scope.kind = .function) (hx : scope.names.lookup x = some .local) (hx₂ : scope.names.lookup x₂ = some .local) (hxx : x ≠ x₂) (hh : A.handled = none)
    (turn : ∀ s₂, (∃ h, s₂ = { s with heap := h }) → ∀ (i : Nat) v v' C oC D m₂ ys own h tk' (E' : Value → Shared → Prop), xs[i]? = some v → ys₀[i]? = some v' → LCg.NsObj oC m₂ → m₂ x = some v → m₂ x₂ = some v' → Fr h₀ L h m → News h₀ L h (((C, oC) :: (D, LCg.lst ys) :: news) ++ own) → (∀ p ∈ news, @Ne Nat p.1 C ∧ @Ne Nat p.1 D) → @Ne Nat C D →
      wpAny (model prog w) A (eval elt (compEnvC scope cl C env)) (CIEnd h₀ L m s₂ (((C, oC) :: (D, LCg.lst ys) :: news) ++ own) (g i)) E' { s₂ with heap := h, toks := tk' })
    (fin : ∀ s₂, (∃ h, s₂ = { s with heap := h }) → ∀ D h tk' ys, Fr h₀ L h m → News h₀ L h ((D, LCg.lst ys) :: news) → (∀ p ∈ news, @Ne Nat p.1 D) → IntsAre ys ((List.range xs.length).map g) → Q (.ref D) { s₂ with heap := h, toks := tk' }) :
    wpAny (model prog w) A (call (.type "zip") [.ref l1, .ref l2]) (TSrc prog w A E env elt iter (.Tuple [.Name x px, .Name x₂ px₂] tk tp) scope cl pos Q) E s := by
  have hax1 := N _ hm1
  have hax2 := N _ hm2
  have hl1 : s.heap.IsList l1 xs.toArray := ⟨lo1, hax1.1, hc1, n1, hd1⟩
  have hl2 : s.heap.IsList l2 ys₀.toArray := ⟨lo2, hax2.1, hc2, n2, hd2⟩
  have hlt1 : l1 < s.heap.objs.size := Heap.lt_size hax1.1
  have hlt2 : l2 < s.heap.objs.size := Heap.lt_size hax2.1
  have hLs : L < s.heap.objs.size := F.ns.lt
  have D : ZipApart (s.heap.objs.size + 4) (s.heap.objs.size + 2) (s.heap.objs.size + 3) s.heap.objs.size (s.heap.objs.size + 1) l1 l2 := ktu_apart _ _ _ hlt1 hlt2
  have hmin : min xs.toArray.size ys₀.toArray.size = xs.length := by simp [hlen]
  refine call_zip_2 hl1 hl2 fun h' hz hTI hTO hi1 hi2 hsz' hk => ?_
  refine wpAny_pyIter_zip hz ?_
  refine lct_block (fun i v1 v2 => xs.toArray[i]? = some v1 ∧ ys₀.toArray[i]? = some v2) g (KTurns.ofWalksU (WalksT.zip2 hh _ _ _ _ _ _ _ D xs.toArray ys₀.toArray).toU) ?_ ?_ (by rw [hmin]; exact hsz) hcell hkind hx hx₂ hxx hh ⟨hz, hTI, ⟨_, _, hTO⟩, hi1, hi2, hl1.at fun o e => hk l1 o e, hl2.at fun o e => hk l2 o e⟩ ?_ (F.keeps hk) (N.grown hk) ?_ ?_ ?_ ?_ ?_
  · rintro i v h ⟨T, vals, rfl, ⟨x, y, hx, hy, rfl⟩, hT⟩
    exact ⟨T, _, _, rfl, ⟨hx, hy⟩, hT⟩
  · rintro s' Q' E' ⟨hz', _⟩ hQ
    exact wpAny_pyIter_zip hz' hQ
  · intro b hb
    show b < h'.objs.size
    rw [hsz']
    have hb' : b = s.heap.objs.size + 4 ∨ b = s.heap.objs.size + 2 ∨ b = s.heap.objs.size + 3 ∨ b = s.heap.objs.size ∨ b = s.heap.objs.size + 1 ∨ b = l1 ∨ b = l2 := by simpa using hb
    rcases hb' with rfl | rfl | rfl | rfl | rfl | rfl | rfl
    · exact Nat.add_lt_add_left (by decide) _
    · exact Nat.add_lt_add_left (by decide) _
    · exact Nat.add_lt_add_left (by decide) _
    · exact Nat.lt_add_of_pos_right (by decide)
    · exact Nat.add_lt_add_left (by decide) _
    · exact Nat.lt_of_lt_of_le hlt1 (Nat.le_add_right _ _)
    · exact Nat.lt_of_lt_of_le hlt2 (Nat.le_add_right _ _)
  · intro hI'
    have hb' : L = s.heap.objs.size + 4 ∨ L = s.heap.objs.size + 2 ∨ L = s.heap.objs.size + 3 ∨ L = s.heap.objs.size ∨ L = s.heap.objs.size + 1 ∨ L = l1 ∨ L = l2 := by simpa using hI'
    rcases hb' with e | e | e | e | e | e | e
    · exact ktu_ne 4 hLs e
    · exact ktu_ne 2 hLs e
    · exact ktu_ne 3 hLs e
    · exact Nat.ne_of_lt hLs e
    · exact ktu_ne 1 hLs e
    · exact hax1.2.1 e.symm
    · exact hax2.2.1 e.symm
  · intro b hb
    have hb' : b = s.heap.objs.size + 4 ∨ b = s.heap.objs.size + 3 ∨ b = s.heap.objs.size ∨ b = s.heap.objs.size + 1 := by simpa using hb
    rcases hb' with rfl | rfl | rfl | rfl
    · exact ktu_new F (Nat.le_add_right _ _)
    · exact ktu_new F (Nat.le_add_right _ _)
    · exact ktu_new F (Nat.le_refl _)
    · exact ktu_new F (Nat.le_add_right _ _)
  · intro p hp hI'
    have hb' : p.1 = s.heap.objs.size + 4 ∨ p.1 = s.heap.objs.size + 3 ∨ p.1 = s.heap.objs.size ∨ p.1 = s.heap.objs.size + 1 := by simpa using hI'
    have hlp := Heap.lt_size (N p hp).1
    rcases hb' with e | e | e | e
    · exact ktu_ne 4 hlp e
    · exact ktu_ne 3 hlp e
    · exact Nat.ne_of_lt hlp e
    · exact ktu_ne 1 hlp e
  · rintro i v1 v2 C oC D m₂ ys own h tk' E' hi ⟨hx, hy⟩ a1 a2 a3 a4 a5 a6 a7
    exact turn _ ⟨h', rfl⟩ i v1 v2 C oC D m₂ ys own h tk' E' (by simpa using hx) (by simpa using hy) a1 a2 a3 a4 a5 a6 a7
  · intro D h tk' ys a1 a2 a3 a4
    rw [hmin] at a4
    exact fin _ ⟨h', rfl⟩ D h tk' ys a1 a2 a3 a4
end

end
section
theorem BdL.getD0 {k : Nat} {l : List Int} (h : BdL k l) (i : Nat) : Bd k (l.getD i 0) := by
  rw [List.getD_eq_getElem?_getD]
  cases e : l[i]? with
  | none => exact Nat.pow_pos (by decide)
  | some v => exact h v (List.mem_of_getElem? e)
theorem nextnum_c (w : World) (mean mg mb) (l1 l2 : Addr) (c1 c2 : Int) (ns : List Int) :
    PCall w mean mg mb 2 177 [.ref l1, .ref l2] (fun h => AL h l1 [c1, c2] ∧ AL h l2 ns ∧ 2 ≤ ns.length ∧ Bd 500000 c1 ∧ Bd 500000 c2 ∧ BdL 500000 ns) (fun h h' r => ∃ t, r = .int (c1 * ns.getD (ns.length - 1) 0 + c2 * ns.getD (ns.length - 2) 0) t) := by
  unfold PCall; k_fill
  intro dp un gd cn cs a ccd cl outer A₀ base h₀ L m sh gg dd tk oo Q E B F X T hk hdp hun hpre hret
  obtain ⟨⟨vs, hl, hi, hlen⟩, ⟨us, gl, gi, glen⟩, hn2, hb1, hb2, hbn⟩ := hpre
  have hv2 : vs.length = 2 := hi.length
  refine wpAny_call ?_
  k_dflt walk_at "M.enter"
  repeat' (first | (k_unfold; (try dsimp only)) | ((fail_if_success (with_reducible show wpAny _ _ (eval (Expr.ListComp _ _ _ _) _) _ _ _)); walk1))
  refine ListComp_T (cl := ?cl) ?a1 ?a2 ?a3 ?_
  case a1 => with_unfolding_all rfl
  case a2 => exact rfl
  case a3 => decide
  repeat' (first | (k_unfold; (try dsimp only)) | ((fail_if_success (with_reducible show wpAny _ _ (call (Value.type "enumerate") _) _ _ _)); walk1))
  rename Fr _ _ _ _ => lF
  rename News _ _ _ _ => lN
  refine lct_enum (fun i => [c1, c2].getD i 0 * ns.getD (ns.length - 1 - i) 0) lF lN hl ?b1 ?b2 ?b3 ?b4 ?b5 ?b6 ?b7 ?_ ?_
  case b1 => rw [hv2]; decide
  case b2 => decide
  case b3 => exact rfl
  case b4 => exact rfl
  case b5 => exact rfl
  case b6 => decide
  case b7 => exact rfl
  · rintro s₂ ⟨h2, rfl⟩ i v C oC D m₂ ys own t h tk' E' hv hC hx hx2 F1 N1 off hCD
    have hi2 : i < 2 := by rw [← hv2]; exact (List.getElem?_eq_some_iff.mp hv).1
    obtain ⟨tv, hcv, hbc⟩ : ∃ t, v = .int ([c1, c2].getD i 0) t ∧ Bd 500000 ([c1, c2].getD i 0) := by
      obtain ⟨t1, t2, rfl⟩ := ints_two hi
      rcases i with _ | _ | i
      · exact ⟨t1, (Option.some.inj hv).symm, hb1⟩
      · exact ⟨t2, (Option.some.inj hv).symm, hb2⟩
      · omega
    subst hcv
    have e9 : ((ns.length : Int) - 1 - (i : Int)).toNat = ns.length - 1 - i := by omega
    have hb3 : Bd 500000 (ns.getD ((ns.length : Int) - 1 - (i : Int)).toNat 0) := hbn.getD0 _
    repeat' (first | (k_unfold; (try dsimp only)) | walk1)
    exact ⟨_, _, _, rfl, by rw [e9], by assumption, by assumption⟩
  · rintro s₂ ⟨h2, rfl⟩ D h tk' ys F1 N1 ne hys
    rw [hv2] at hys
    have hsum : ((List.range 2).map fun i => [c1, c2].getD i 0 * ns.getD (ns.length - 1 - i) 0).sum = c1 * ns.getD (ns.length - 1) 0 + c2 * ns.getD (ns.length - 2) 0 := by
      show c1 * _ + (c2 * _ + 0) = _
      rw [Int.add_zero]
      rfl
    repeat' (first | (k_unfold; (try dsimp only)) | walk1)
    rw [hsum]
    exact hret _ _ _ (Fr.keep (by assumption)) ⟨_, rfl⟩

end
theorem rows_nextnum : True := by
  k_with "M.call" => ((with_reducible show wpAny _ _ (call (Value.ref 177) _) _ _ _); k_dflt (refine' pc_useI (nextnum_c _ _ _ _ _ _ _ _ _) ?qqk1 ?qqk2 ?qqk3 ?qqk4 ?qqk5 ?qqkK ?qqkd ?qqku ?qqkp ?_; (walk_at "M.use"); (case qqkp => walk_at "M.pre"); k_whole; intro _ _ _ _ _; (try k_sweep)))
  trivial
section
/-- the row of the recurrence -/
noncomputable def recP (c1 c2 f0 f1 : Int) : Nat → Int × Int
  | 0 => (f0, f1)
  | n + 1 => ((recP c1 c2 f0 f1 n).2, c1 * (recP c1 c2 f0 f1 n).2 + c2 * (recP c1 c2 f0 f1 n).1)
noncomputable def recX (c1 c2 f0 f1 : Int) (n : Nat) : Int := (recP c1 c2 f0 f1 n).1
theorem recX_step (c1 c2 f0 f1 : Int) (n : Nat) : recX c1 c2 f0 f1 (n + 2) = c1 * recX c1 c2 f0 f1 (n + 1) + c2 * recX c1 c2 f0 f1 n := rfl
noncomputable def rowL (c1 c2 f0 f1 : Int) (n : Nat) : List Int := (List.range n).map (recX c1 c2 f0 f1)
theorem rowL_length (c1 c2 f0 f1 : Int) (n : Nat) : (rowL c1 c2 f0 f1 n).length = n := by simp [rowL]
theorem rowL_get (c1 c2 f0 f1 : Int) {n i : Nat} (h : i < n) : (rowL c1 c2 f0 f1 n).getD i 0 = recX c1 c2 f0 f1 i := by
  simp [rowL, List.getD_eq_getElem?_getD, h]
theorem rowL_succ (c1 c2 f0 f1 : Int) (n : Nat) : rowL c1 c2 f0 f1 (n + 2 + 1) = rowL c1 c2 f0 f1 (n + 2) ++ [c1 * (rowL c1 c2 f0 f1 (n + 2)).getD ((rowL c1 c2 f0 f1 (n + 2)).length - 1) 0 + c2 * (rowL c1 c2 f0 f1 (n + 2)).getD ((rowL c1 c2 f0 f1 (n + 2)).length - 2) 0] := by
  rw [rowL_length, rowL_get _ _ _ _ (by omega), rowL_get _ _ _ _ (by omega)]
  unfold rowL
  rw [List.range_succ, List.map_append]
  rfl
theorem bd_rec {k : Nat} {a b x y : Int} (ha : Bd 2 a) (hb : Bd 2 b) (hx : Bd k x) (hy : Bd k y) : Bd (k + 3) (a * x + b * y) := by
  have h1 : (a * x).natAbs < 2 ^ (2 + k) := by
    rw [Int.natAbs_mul, Nat.pow_add]
    exact Nat.mul_lt_mul'' ha hx
  have h2 : (b * y).natAbs < 2 ^ (2 + k) := by
    rw [Int.natAbs_mul, Nat.pow_add]
    exact Nat.mul_lt_mul'' hb hy
  unfold Bd
  rw [show k + 3 = (2 + k) + 1 by omega, Nat.pow_succ]
  have := Int.natAbs_add_le (a * x) (b * y)
  omega
theorem recX_bd {c1 c2 f0 f1 : Int} (h1 : Bd 2 c1) (h2 : Bd 2 c2) (h3 : Bd 2 f0) (h4 : Bd 2 f1) : ∀ n, Bd (3 * n + 2) (recP c1 c2 f0 f1 n).1 ∧ Bd (3 * n + 2) (recP c1 c2 f0 f1 n).2
  | 0 => ⟨h3, h4⟩
  | n + 1 => ⟨(recX_bd h1 h2 h3 h4 n).2.mono (by omega), bd_rec h1 h2 (recX_bd h1 h2 h3 h4 n).2 (recX_bd h1 h2 h3 h4 n).1⟩
theorem rowL_bd {c1 c2 f0 f1 : Int} (h1 : Bd 2 c1) (h2 : Bd 2 c2) (h3 : Bd 2 f0) (h4 : Bd 2 f1) {n : Nat} (hn : n ≤ 100) : BdL 500000 (rowL c1 c2 f0 f1 n) := by
  intro x hx
  obtain ⟨i, hi, rfl⟩ := List.mem_map.mp hx
  have := List.mem_range.mp hi
  exact (recX_bd h1 h2 h3 h4 i).1.mono (by omega)
structure RcS where
  (l : Addr) (us : List Value) (n : Nat) (z : List Int)
theorem recrow_c (w : World) (mean mg mb) (l1 l2 : Addr) (N : Nat) (t : Tok) (c1 c2 f0 f1 : Int) :
    PCall w mean mg mb 3 184 [.ref l1, .ref l2, .int (N : Int) t] (fun h => AL h l1 [c1, c2] ∧ AL h l2 [f0, f1] ∧ 2 ≤ N ∧ N ≤ 60 ∧ Bd 2 c1 ∧ Bd 2 c2 ∧ Bd 2 f0 ∧ Bd 2 f1) (fun h h' r => NL h h' r (rowL c1 c2 f0 f1 N)) := by
  unfold PCall; k_fill
  intro dp un gd cn cs a ccd cl outer A₀ base h₀ L m sh gg dd tk oo Q E B F X T hk hdp hun hpre hret
  obtain ⟨⟨vs, hl, hi, hlen⟩, ⟨us, gl, gi, glen⟩, hn2, hn6, hb1, hb2, hb3, hb4⟩ := hpre
  have hc1 : Bd 500000 c1 := hb1.mono (by decide)
  have hc2 : Bd 500000 c2 := hb2.mono (by decide)
  refine wpAny_call ?_
  k_dflt walk_at "M.enter"
  walk_at "M.steps"
  · exact absurd (rfl : (([f0, f1] : List Int).length : Int) = (([c1, c2] : List Int).length : Int)) (by assumption)
  refine m_whileO (σ := RcS) (fun c => [(c.l, listOf c.us.toArray c.n)]) (fun c => [(Str.ofString "found", .ref c.l), (Str.ofString "steps", .ref l1), (Str.ofString "many", .int (N : Int) t)]) (fun c => IntsAre c.us c.z ∧ ∃ k, c.z = rowL c1 c2 f0 f1 (k + 2) ∧ k + 2 ≤ N) (fun c => N - c.z.length) (by assumption) (by assumption)
    ⟨⟨_, _, _, [f0, f1]⟩, by with_unfolding_all kst_all, by dsimp only; kst_allIn, gi, 0, rfl, hn2⟩ ?_ PassesOwn.never
  rintro ⟨l, us, n, z⟩ u h tk gg dd oo Qb Qn hEnd hRt hNx ⟨hiz, k, hz, hk2⟩ F1 N1
  dsimp only at hiz hz F1 N1 ⊢
  simp only [kstB] at F1
  have hlz : z.length = k + 2 := by rw [hz, rowL_length]
  have hln : 2 ≤ z.length := by omega
  have hl20 : z.length < 2 ^ 20 := by omega
  have hbz : BdL 500000 z := by rw [hz]; exact rowL_bd hb1 hb2 hb3 hb4 (by omega)
  by_cases hc : (z.length : Int) < (N : Int)
  · walk_at "M.steps"
    rename News _ _ _ _ => lN
    rw [List.push_toArray] at lN
    refine hEnd ⟨_, _, _, z ++ [_]⟩ (by assumption) lN (by with_unfolding_all kst_all) (fun _ h => h) ⟨hiz.append (.cons _ _ .nil), k + 1, ?_, by omega⟩ ?_
    · dsimp only
      rw [rowL_succ, ← hz]
    · dsimp only
      rw [List.length_append, List.length_singleton]
      omega
  · walk_at "M.steps"
    refine hNx _ _ ?_
    clear hEnd hRt hNx
    walk_at "M.steps"
    have e : rowL c1 c2 f0 f1 N = List.take (N : Int).toNat z := by
      rw [Int.toNat_natCast, hz, show k + 2 = N by omega, List.take_of_length_le (by rw [rowL_length]; exact Nat.le_refl _)]
    rw [e] at hret
    exact hret _ _ _ (Fr.keep (by assumption)) (NL.of (by assumption) (by k_mem) (by assumption) (by omega))

end
section

end
section
noncomputable def sumR : Nat → (Nat → Int) → Int
  | 0, _ => 0
  | n + 1, f => sumR n f + f n
theorem sumR_congr {f g : Nat → Int} : ∀ {n : Nat}, (∀ i, i < n → f i = g i) → sumR n f = sumR n g
  | 0, _ => rfl
  | n + 1, h => by rw [sumR, sumR, sumR_congr fun i hi => h i (by omega), h n (by omega)]
theorem sumR_zero {f : Nat → Int} : ∀ {n : Nat}, (∀ i, i < n → f i = 0) → sumR n f = 0
  | 0, _ => rfl
  | n + 1, h => by rw [sumR, sumR_zero fun i hi => h i (by omega), h n (by omega)]; rfl
theorem sumR_add (f g : Nat → Int) : ∀ n, sumR n (fun i => f i + g i) = sumR n f + sumR n g
  | 0 => rfl
  | n + 1 => by rw [sumR, sumR, sumR, sumR_add f g n]; omega
theorem sumR_sub (f g : Nat → Int) : ∀ n, sumR n (fun i => f i - g i) = sumR n f - sumR n g
  | 0 => rfl
  | n + 1 => by rw [sumR, sumR, sumR, sumR_sub f g n]; omega
theorem sumR_mul (c : Int) (f : Nat → Int) : ∀ n, sumR n (fun i => c * f i) = c * sumR n f
  | 0 => (Int.mul_zero c).symm
  | n + 1 => by rw [sumR, sumR, sumR_mul c f n, Int.mul_add]
theorem sumR_more {f : Nat → Int} {n : Nat} : ∀ (k : Nat), (∀ i, n ≤ i → f i = 0) → sumR (n + k) f = sumR n f
  | 0, _ => rfl
  | k + 1, h => by rw [← Nat.add_assoc, sumR, sumR_more k h, h _ (by omega), Int.add_zero]
theorem sumR_app (f : Nat → Int) (n : Nat) : ∀ k, sumR (n + k) f = sumR n f + sumR k (fun i => f (n + i))
  | 0 => (Int.add_zero _).symm
  | k + 1 => by rw [← Nat.add_assoc, sumR, sumR_app f n k, sumR, Int.add_assoc]
/-- the value of a linear function of the coefficients: x^i counts φ i -/
noncomputable def ev (φ : Nat → Int) (l : List Int) : Int := sumR l.length (fun i => co l i * φ i)
theorem ev_eq (φ : Nat → Int) (l : List Int) {n : Nat} (h : l.length ≤ n) : ev φ l = sumR n (fun i => co l i * φ i) := by
  obtain ⟨k, rfl⟩ := Nat.exists_eq_add_of_le h
  rw [sumR_more]
  · rfl
  · intro i hi
    rw [co_out hi, Int.zero_mul]
theorem ev_congr {φ : Nat → Int} {a b : List Int} (h : ∀ i, co a i = co b i) : ev φ a = ev φ b := by
  rw [ev_eq φ a (Nat.le_max_left a.length b.length), ev_eq φ b (Nat.le_max_right a.length b.length)]
  exact sumR_congr fun i _ => by rw [h]
theorem ev_trim (φ : Nat → Int) (l : List Int) : ev φ (trimL l) = ev φ l := ev_congr (co_trim l)
theorem ev_fun {φ ψ : Nat → Int} (h : ∀ i, φ i = ψ i) (l : List Int) : ev φ l = ev ψ l := by rw [show φ = ψ from funext h]
theorem ev_sub (φ : Nat → Int) (a b : List Int) : ev φ (subL a b) = ev φ a - ev φ b := by
  have h := Nat.le_max_left (subL a b).length (max a.length b.length)
  rw [ev_eq φ (subL a b) (n := max (subL a b).length (max a.length b.length)) (by omega), ev_eq φ a (n := max (subL a b).length (max a.length b.length)) (by omega), ev_eq φ b (n := max (subL a b).length (max a.length b.length)) (by omega), ← sumR_sub]
  exact sumR_congr fun i _ => by rw [co_sub, Int.sub_mul]
theorem ev_scale (φ : Nat → Int) (a : List Int) (k : Int) : ev φ (scaleL a k) = k * ev φ a := by
  rw [ev_eq φ (scaleL a k) (n := a.length) (scale_len a k), ev, ← sumR_mul]
  exact sumR_congr fun i _ => by rw [co_scale, Int.mul_comm (co a i), Int.mul_assoc]
theorem ev_raise (φ : Nat → Int) (a : List Int) (n : Nat) : ev φ (raiseL a n) = ev (fun i => φ (n + i)) a := by
  have hl : (raiseL a n).length ≤ n + a.length := by
    unfold raiseL; split
    · rw [List.length_append, List.length_replicate]; exact Nat.le_refl _
    · exact Nat.zero_le _
  rw [ev_eq φ _ hl, sumR_app, sumR_zero, Int.zero_add, ev]
  · refine sumR_congr fun i _ => ?_
    rw [co_raise, if_neg (by omega), Nat.add_sub_cancel_left]
  · intro i hi
    rw [co_raise, if_pos hi, Int.zero_mul]
theorem co_mul (a b : List Int) (k : Nat) : co (mulL a b) k = conv a b a.length k := by
  have zero : ∀ i, i ≤ a.length → a.length + b.length - 1 ≤ k ∨ a.length = 0 ∨ b.length = 0 → conv a b i k = 0 := by
    intro i
    induction i with
    | zero => intro _ _; rfl
    | succ i ih =>
      intro hi h
      rw [conv, ih (by omega) h, if_neg (by omega)]; rfl
  unfold mulL
  split
  · rename_i h
    rw [zero _ (Nat.le_refl _) (.inr h)]; rfl
  · rw [co_range_map]
    split
    · rfl
    · rw [zero _ (Nat.le_refl _) (.inl (by omega))]
theorem conv_sum (φ : Nat → Int) (a b : List Int) (N : Nat) : ∀ i, i + b.length ≤ N + 1 → sumR N (fun k => conv a b i k * φ k) = sumR i (fun i => co a i * ev (fun j => φ (i + j)) b)
  | 0, _ => sumR_zero fun k _ => by rw [conv, Int.zero_mul]
  | i + 1, h => by
    rw [sumR, ← conv_sum φ a b N i (by omega)]
    have e : (fun k => conv a b (i + 1) k * φ k) = fun k => conv a b i k * φ k + (if i ≤ k ∧ k - i < b.length then co a i * co b (k - i) else 0) * φ k := by
      funext k
      rw [conv, Int.add_mul]
    rw [e, sumR_add]
    congr 1
    have hN : N = i + (N - i) := by omega
    rw [hN, sumR_app, sumR_zero, Int.zero_add, ev_eq _ b (n := N - i) (by omega), ← sumR_mul]
    · refine sumR_congr fun j _ => ?_
      rw [Nat.add_sub_cancel_left]
      by_cases hj : j < b.length
      · rw [if_pos ⟨by omega, hj⟩, Int.mul_assoc]
      · rw [if_neg (by omega), co_out (l := b) (by omega)]; simp
    · intro k hk
      rw [if_neg (by omega), Int.zero_mul]
theorem mul_len_le (a b : List Int) : (mulL a b).length ≤ a.length + b.length := by
  unfold mulL; split
  · exact Nat.zero_le _
  · rw [List.length_map, List.length_range]; omega
theorem ev_mul (φ : Nat → Int) (a b : List Int) : ev φ (mulL a b) = ev (fun i => ev (fun j => φ (i + j)) b) a := by
  rw [ev_eq φ _ (mul_len_le a b), ev, ← conv_sum φ a b (a.length + b.length) a.length (by omega)]
  exact sumR_congr fun k _ => by rw [co_mul]
theorem ev_add_fun (φ ψ : Nat → Int) (l : List Int) : ev (fun i => φ i + ψ i) l = ev φ l + ev ψ l := by
  unfold ev
  rw [← sumR_add]
  exact sumR_congr fun i _ => by rw [Int.mul_add]
theorem ev_mul_fun (c : Int) (φ : Nat → Int) (l : List Int) : ev (fun i => c * φ i) l = c * ev φ l := by
  unfold ev
  rw [← sumR_mul]
  exact sumR_congr fun i _ => by rw [← Int.mul_assoc, Int.mul_comm (co l i), Int.mul_assoc]
theorem ev_mul_fun' (c : Int) (φ : Nat → Int) (l : List Int) : ev (fun i => φ i * c) l = ev φ l * c := by
  rw [Int.mul_comm, ← ev_mul_fun]
  exact ev_fun (fun i => Int.mul_comm _ _) l
theorem ev_nil (φ : Nat → Int) : ev φ [] = 0 := rfl
theorem ev_cons (φ : Nat → Int) (x : Int) (l : List Int) : ev φ (x :: l) = x * φ 0 + ev (fun i => φ (1 + i)) l := by
  unfold ev
  rw [show (x :: l).length = 1 + l.length from by rw [List.length_cons, Nat.add_comm], sumR_app]
  congr 1
  · show 0 + _ = _
    rw [Int.zero_add]; rfl
  · refine sumR_congr fun i _ => ?_
    rw [co_def, co_def, Nat.add_comm 1 i, List.getElem?_cons_succ]
    show _ = _ * φ (1 + i)
    rw [Nat.add_comm 1 i]
-- division by a row whose first coefficient is 1
theorem leadL_one_scale (l : List Int) : scaleL l 1 = l := by
  unfold scaleL
  rw [if_pos (by decide)]
  exact (List.map_congr_left fun x _ => Int.mul_one x).trans (List.map_id _)
theorem ps_ev {b : List Int} (φ : Nat → Int) (hb : leadL b = 1) (hφ : ∀ d, ev (fun i => φ (d + i)) b = 0) : ∀ (f : Nat) (rest found : List Int) (left : Int), ev φ (psLoop b 1 f rest found left).1 = ev φ rest
  | 0, _, _, _ => rfl
  | f + 1, rest, found, left => by
    unfold psLoop
    split
    · rw [ps_ev φ hb hφ f]
      unfold psStep
      rw [ev_sub, ev_scale, ev_raise, ev_scale, hφ]
      simp
    · rfl
theorem pseudo_ev {b : List Int} (φ : Nat → Int) (hb : leadL b = 1) (hφ : ∀ d, ev (fun i => φ (d + i)) b = 0) (a : List Int) : ev φ (pseudoL a b).2.1 = ev φ a := by
  unfold pseudoL
  rw [hb]
  dsimp only
  rw [ev_scale, ps_ev φ hb hφ, Int.one_pow, Int.one_mul]
theorem ps_trim (b : List Int) (first : Int) : ∀ (f : Nat) (rest found : List Int) (left : Int), Trim rest → Trim (psLoop b first f rest found left).1
  | 0, _, _, _, h => h
  | f + 1, rest, found, left, h => by
    unfold psLoop
    split
    · exact ps_trim b first f _ _ _ (sub_trim _ _)
    · exact h
theorem pseudo_trim {b : List Int} (hb : leadL b = 1) {a : List Int} (h : Trim a) : Trim (pseudoL a b).2.1 := by
  unfold pseudoL
  rw [hb]
  dsimp only
  rw [Int.one_pow, leadL_one_scale]
  exact ps_trim _ _ _ _ _ _ h

end
section
theorem sum_range (f : Nat → Int) : ∀ n, ((List.range n).map f).sum = sumR n f
  | 0 => rfl
  | n + 1 => by rw [List.range_succ, List.map_append, List.sum_append, sum_range f n, sumR]; simp
/-- 1 at the places that leave r by m, else 0 -/
noncomputable def dl (m r i : Nat) : Int := if i % m = r then 1 else 0
theorem dl_turn (m r i : Nat) : dl m r (m + i) = dl m r i := by
  unfold dl; rw [Nat.add_mod_left]
theorem dl_sum (m r : Nat) (hr : r < m) (f : Nat → Int) : ∀ k, k ≤ m → sumR k (fun i => f i * dl m r i) = if r < k then f r else 0
  | 0, _ => rfl
  | k + 1, h => by
    rw [sumR, dl_sum m r hr f k (by omega), dl, Nat.mod_eq_of_lt (by omega)]
    by_cases h1 : r < k
    · rw [if_pos h1, if_neg (by omega), if_pos (by omega)]; simp
    · by_cases h2 : k = r
      · subst h2; rw [if_neg h1, if_pos rfl, if_pos (by omega)]; simp
      · rw [if_neg h1, if_neg h2, if_neg (by omega)]; simp
theorem fold_sum (m r : Nat) (hr : r < m) (f : Nat → Int) : ∀ n, sumR (m * n) (fun i => f i * dl m r i) = sumR n (fun j => f (r + j * m))
  | 0 => rfl
  | n + 1 => by
    rw [Nat.mul_succ, sumR_app, fold_sum m r hr f n, sumR]
    congr 1
    have e : (fun i => f (m * n + i) * dl m r (m * n + i)) = fun i => f (m * n + i) * dl m r i := by
      funext i
      unfold dl
      rw [Nat.mul_add_mod]
    rw [e, dl_sum m r hr (fun i => f (m * n + i)) m (Nat.le_refl _), if_pos hr, Nat.add_comm, Nat.mul_comm]
theorem ev_dl {m r : Nat} (hr : r < m) (l : List Int) {n : Nat} (h : ∀ j, n ≤ j → l.length ≤ r + j * m) : ev (dl m r) l = sumR n (fun j => co l (r + j * m)) := by
  have hm : l.length ≤ m * (n + l.length) := by
    have : 1 * (n + l.length) ≤ m * (n + l.length) := Nat.mul_le_mul_right _ (by omega)
    omega
  rw [ev_eq _ _ hm, fold_sum m r hr]
  exact sumR_more _ fun j hj => co_out (h j hj)
theorem ev_dl_short {m r : Nat} (hr : r < m) (l : List Int) (h : l.length ≤ m) : ev (dl m r) l = co l r := by
  rw [ev_dl (n := 1) hr l fun j hj => by
    have : 1 * m ≤ j * m := Nat.mul_le_mul_right _ hj
    omega]
  show 0 + co l (r + 0 * m) = _
  rw [Int.zero_add, Nat.zero_mul, Nat.add_zero]
noncomputable def restsU (ns : List Int) (x : Int) : List Int :=
  ((List.range (x - 0).toNat).map fun (i : Nat) => (0 : Int) + (i : Int)).map fun k' => (((List.range (if k' < (ns.length : Int) then ((ns.length : Int) - k' - 1) / x + 1 else 0).toNat).map fun i : Nat => k' + (i : Int) * x).map fun k' => ns.getD k'.toNat 0).sum
theorem restsU_len (ns : List Int) (m : Nat) : (restsU ns (m : Int)).length = m := by
  unfold restsU; simp
theorem cnt_spec {len r m j : Nat} (hm : 0 < m) (h : (if (0 : Int) + (r : Int) < (len : Int) then ((len : Int) - (0 + (r : Int)) - 1) / (m : Int) + 1 else 0).toNat ≤ j) : len ≤ r + j * m := by
  split at h
  · have h1 := Int.lt_ediv_add_one_mul_self ((len : Int) - (0 + (r : Int)) - 1) (show 0 < (m : Int) by omega)
    have h2 : (((len : Int) - (0 + (r : Int)) - 1) / (m : Int) + 1) * (m : Int) ≤ (j : Int) * (m : Int) := Int.mul_le_mul_of_nonneg_right (by omega) (by omega)
    rw [← Int.natCast_mul] at h2
    omega
  · omega
theorem co_restsU (ns : List Int) {m r : Nat} (hr : r < m) : co (restsU ns (m : Int)) r = ev (dl m r) ns := by
  rw [ev_dl (n := (if (0 : Int) + (r : Int) < (ns.length : Int) then ((ns.length : Int) - (0 + (r : Int)) - 1) / (m : Int) + 1 else 0).toNat) hr ns fun j hj => cnt_spec (by omega) hj, ← sum_range]
  unfold restsU
  rw [List.map_map, show ((m : Int) - 0).toNat = m by omega, co_range_map, if_pos hr]
  simp only [Function.comp_apply]
  rw [List.map_map]
  congr 1
  refine List.map_congr_left fun j _ => ?_
  simp only [Function.comp_apply, co]
  congr 1
  rw [Int.zero_add, ← Int.natCast_mul, ← Int.natCast_add, Int.toNat_natCast]
/-- a row of length at most m, nothing to trim, of the same sums as W, is the sums' row trimmed -/
theorem fold_unique {R W : List Int} {m : Nat} (hm : 1 ≤ m) (ht : Trim R) (hl : R.length ≤ m) (h : ∀ r, r < m → ev (dl m r) R = ev (dl m r) W) : R = trimL (restsU W (m : Int)) := by
  refine trim_ext ht (trim_trim _) fun i => ?_
  rw [co_trim]
  by_cases hi : i < m
  · rw [co_restsU W hi, ← h i hi, ev_dl_short hi R hl]
  · rw [co_out (by omega), co_out (by rw [restsU_len]; omega)]
-- x^m - 1
theorem less_length {m : Nat} (hm : 1 ≤ m) : (lessL m).length = m + 1 := by
  unfold lessL
  simp only [List.length_append, List.length_replicate, List.length_cons, List.length_nil]; omega
theorem less_lead (m : Nat) : leadL (lessL m) = 1 := by
  unfold lessL
  rw [← List.append_assoc, lead_def, co_snoc, if_pos (by simp)]
theorem ev_rep (φ : Nat → Int) : ∀ n, ev φ (List.replicate n 0) = 0
  | n => sumR_zero fun i hi => by
    rw [co_def, List.getElem?_replicate]
    split <;> simp
theorem ev_app (φ : Nat → Int) (a b : List Int) : ev φ (a ++ b) = ev φ a + ev (fun i => φ (a.length + i)) b := by
  unfold ev
  rw [List.length_append, sumR_app]
  congr 1
  · refine sumR_congr fun i hi => ?_
    rw [co_def, co_def, List.getElem?_append_left hi]
  · refine sumR_congr fun i _ => ?_
    rw [co_def, co_def, List.getElem?_append_right (by omega), Nat.add_sub_cancel_left]
theorem less_ev {m : Nat} (hm : 1 ≤ m) {φ : Nat → Int} (h : ∀ i, φ (m + i) = φ i) (d : Nat) : ev (fun i => φ (d + i)) (lessL m) = 0 := by
  unfold lessL
  rw [ev_app, ev_app, ev_rep, ev_cons, ev_nil, ev_cons, ev_nil]
  simp only [List.length_replicate, List.length_singleton, Nat.add_zero]
  rw [show d + (1 + (m - 1)) = m + d by omega, h]
  omega
theorem less_fold {m : Nat} (hm : 1 ≤ m) {φ : Nat → Int} (h : ∀ i, φ (m + i) = φ i) (a : List Int) : ev φ (pseudoL a (lessL m)).2.1 = ev φ a :=
  pseudo_ev φ (less_lead m) (less_ev hm h) a
theorem rests_of {a W : List Int} {m : Nat} (hm : 1 ≤ m) (ht : Trim a) (h : ∀ r, r < m → ev (dl m r) a = ev (dl m r) W) : (pseudoL a (lessL m)).2.1 = trimL (restsU W (m : Int)) := by
  refine fold_unique hm (pseudo_trim (less_lead m) ht) ?_ fun r hr => ?_
  · have := pseudo_len (b := lessL m) (by rw [less_length hm]; omega) a
    rw [less_length hm] at this
    omega
  · rw [less_fold hm (dl_turn m r), h r hr]
theorem turn_shift {m : Nat} {φ : Nat → Int} (h : ∀ i, φ (m + i) = φ i) (k i : Nat) : φ (k + (m + i)) = φ (k + i) := by
  rw [show k + (m + i) = m + (k + i) by omega, h]
theorem rests_mul {z W : List Int} {m : Nat} (hm : 1 ≤ m) (ht : Trim (mulL z (pseudoL W (lessL m)).2.1)) : (pseudoL (mulL z (pseudoL W (lessL m)).2.1) (lessL m)).2.1 = trimL (restsU (mulL z W) (m : Int)) := by
  refine rests_of hm ht fun r hr => ?_
  rw [ev_mul, ev_mul]
  exact ev_fun (fun i => less_fold hm (turn_shift (dl_turn m r) i) W) z
-- products
theorem mul_nil (z : List Int) : mulL z [] = [] := by unfold mulL; rw [if_pos (.inr rfl)]
theorem mul_length {a b : List Int} (ha : a ≠ []) (hb : b ≠ []) : (mulL a b).length = a.length + b.length - 1 := by
  have h1 := List.length_pos_iff.mpr ha
  have h2 := List.length_pos_iff.mpr hb
  unfold mulL
  rw [if_neg (by omega), List.length_map, List.length_range]
theorem mul_top {a b : List Int} (ha : a ≠ []) (hb : b ≠ []) : co (mulL a b) (a.length + b.length - 2) = co a (a.length - 1) * co b (b.length - 1) := by
  have h1 := List.length_pos_iff.mpr ha
  have h2 := List.length_pos_iff.mpr hb
  rw [co_mul]
  have zero : ∀ i, i ≤ a.length - 1 → conv a b i (a.length + b.length - 2) = 0 := by
    intro i
    induction i with
    | zero => intro _; rfl
    | succ i ih =>
      intro hi
      rw [conv, ih (by omega), if_neg (by omega)]; rfl
  rw [show a.length = (a.length - 1) + 1 by omega, conv, ← show a.length = (a.length - 1) + 1 by omega, zero _ (Nat.le_refl _), if_pos ⟨by omega, by omega⟩, Int.zero_add,
    show a.length + b.length - 2 - (a.length - 1) = b.length - 1 by omega]
theorem mul_trim {a b : List Int} (ha : Trim a) (hb : Trim b) : Trim (mulL a b) := by
  by_cases h1 : a = []
  · rw [h1]; unfold mulL; rw [if_pos (.inl rfl)]; exact trim_nil
  by_cases h2 : b = []
  · rw [h2, mul_nil]; exact trim_nil
  refine Trim.of_lead (.inr ?_)
  rw [mul_length h1 h2, show a.length + b.length - 1 - 1 = a.length + b.length - 2 by omega, mul_top h1 h2]
  exact Int.mul_ne_zero (ha.lead h1) (hb.lead h2)

end
section
theorem conv_bd {p q : Nat} {a b : List Int} (ha : BdL p a) (hb : BdL q b) (k : Nat) : ∀ i, (conv a b i k).natAbs ≤ i * 2 ^ (p + q)
  | 0 => by rw [conv, Nat.zero_mul]; exact Nat.le_refl _
  | i + 1 => by
    have h := conv_bd ha hb k i
    rw [conv, Nat.add_mul, Nat.one_mul]
    refine Nat.le_trans (Int.natAbs_add_le _ _) (Nat.add_le_add h ?_)
    split
    · exact Nat.le_of_lt ((ha.cof i).mul (hb.cof (k - i)))
    · exact Nat.zero_le _
theorem mul_bd {p q : Nat} {a b : List Int} (ha : BdL p a) (hb : BdL q b) (hl : a.length < 2 ^ 10) : BdL (p + q + 10) (mulL a b) := by
  refine BdL.of_co fun k => ?_
  rw [co_mul]
  unfold Bd
  refine Nat.lt_of_le_of_lt (conv_bd ha hb k a.length) ?_
  rw [Nat.pow_add 2 (p + q), Nat.mul_comm]
  exact Nat.mul_lt_mul_of_pos_left hl (Nat.two_pow_pos _)
/-- what is asked of each factor -/
noncomputable def Pk (b d : Nat) (l : List Int) : Prop := BdL b l ∧ l.length = d + 1 ∧ Trim l
theorem Pk.ne {b d : Nat} {l : List Int} (h : Pk b d l) : l ≠ [] := by
  intro e; have := h.2.1; rw [e] at this; cases this
theorem Pk.mul {b d b' d' : Nat} {l l' : List Int} (h : Pk b d l) (h' : Pk b' d' l') (hd : d < 1000) : Pk (b + b' + 10) (d + d') (mulL l l') := by
  refine ⟨mul_bd h.1 h'.1 (by rw [h.2.1]; omega), ?_, mul_trim h.2.2 h'.2.2⟩
  rw [mul_length h.ne h'.ne, h.2.1, h'.2.1]; omega
theorem Pk.okl {b d : Nat} {l : List Int} (h : Pk b d l) (hb : b ≤ 1000) (hd : d ≤ 900) : Okl l := ⟨h.1.mono (by omega), by rw [h.2.1]; omega⟩
theorem pow_facts (C D : Nat) (hC : C ≤ 1000) (hD : D ≤ 900) : ∀ (f n : Nat) (x y : List Int) (P Q LX LY : Nat), Pk P LX x → Pk Q LY y → P + n * (Q + 10) ≤ C → LX + n * LY = D → n ≤ f →
    PowOk f x y n ∧ (∃ B, B ≤ C ∧ Pk B D (powLoop f x y n))
  | 0, n, x, y, P, Q, LX, LY, hx, hy, hb, hl, hn => by
    obtain rfl : n = 0 := by omega
    rw [Nat.zero_mul, Nat.add_zero] at hl
    refine ⟨trivial, P, by omega, ?_⟩
    rw [← hl]; exact hx
  | f + 1, n, x, y, P, Q, LX, LY, hx, hy, hb, hl, hn => by
    by_cases h0 : n = 0
    · subst h0
      rw [Nat.zero_mul, Nat.add_zero] at hl
      refine ⟨fun h => absurd rfl h, P, by omega, ?_⟩
      rw [powLoop, if_pos rfl, ← hl]; exact hx
    have hQ : 1 * (Q + 10) ≤ n * (Q + 10) := Nat.mul_le_mul_right _ (by omega)
    have hL : 1 * LY ≤ n * LY := Nat.mul_le_mul_right _ (by omega)
    have hyy : Pk (if 1 < n then Q + Q + 10 else Q) (if 1 < n then LY + LY else LY) (if 1 < n then mulL y y else y) := by
      split
      · exact hy.mul hy (by omega)
      · exact hy
    have hxy : Pk (if n % 2 = 1 then P + Q + 10 else P) (if n % 2 = 1 then LX + LY else LX) (if n % 2 = 1 then mulL x y else x) := by
      split
      · exact hx.mul hy (by omega)
      · exact hx
    have key : ∀ u : Nat, n * u = (if n % 2 = 1 then u else 0) + n / 2 * (u + u) := by
      intro u
      have e : n = n % 2 + 2 * (n / 2) := (Nat.mod_add_div n 2).symm
      have h2 : n % 2 = 0 ∨ n % 2 = 1 := by omega
      rcases h2 with h2 | h2
      · rw [if_neg (by omega)]
        have e : n = 2 * (n / 2) := by omega
        conv => lhs; rw [e]
        rw [Nat.mul_comm 2, Nat.mul_assoc, Nat.two_mul]; omega
      · rw [if_pos h2]
        have e : n = 2 * (n / 2) + 1 := by omega
        conv => lhs; rw [e]
        rw [Nat.add_mul, Nat.mul_comm 2, Nat.mul_assoc, Nat.two_mul]; omega
    obtain ⟨r1, r2⟩ := pow_facts C D hC hD f (n / 2) _ _ _ _ _ _ hxy hyy (by
      have := key (Q + 10)
      by_cases h1 : 1 < n
      · rw [if_pos h1, show Q + Q + 10 + 10 = Q + 10 + (Q + 10) by omega]
        split <;> simp_all <;> omega
      · rw [if_neg h1, show n / 2 = 0 by omega, Nat.zero_mul]
        split <;> omega) (by
      have := key LY
      by_cases h1 : 1 < n
      · rw [if_pos h1]
        split <;> simp_all <;> omega
      · obtain rfl : n = 1 := by omega
        simp
        omega) (by omega)
    refine ⟨fun _ => ⟨⟨hx.okl (by omega) (by omega), hy.okl (by omega) (by omega)⟩, r1⟩, ?_⟩
    rw [powLoop, if_neg h0]
    exact r2
theorem one_pk : Pk 1 0 [1] := ⟨by intro x hx; rw [List.mem_singleton.mp hx]; show Int.natAbs 1 < 2 ^ 1; decide, rfl, rfl⟩
theorem pow_all {z : List Int} {k d : Nat} (hz : Pk 2 d z) (hd : d ≤ 3) (hk : k ≤ 8) : PowOk k [1] z k ∧ Pk 100 (k * d) (powL z k) := by
  have h1 : k * d ≤ 8 * 3 := Nat.mul_le_mul hk hd
  obtain ⟨a, B, hB, h⟩ := pow_facts 100 (k * d) (by omega) (by omega) k k [1] z 1 2 0 d one_pk hz (by omega) (by omega) (Nat.le_refl _)
  exact ⟨a, h.1.mono hB, h.2⟩
/-- a multiplicative function of rows takes powers to powers -/
theorem pow_hom (N : List Int → Int) (hm : ∀ a b, N (mulL a b) = N a * N b) : ∀ (f n : Nat) (x y : List Int), n ≤ f → N (powLoop f x y n) = N x * N y ^ n
  | 0, n, x, y, h => by
    obtain rfl : n = 0 := by omega
    rw [Int.pow_zero, Int.mul_one]; rfl
  | f + 1, n, x, y, h => by
    by_cases h0 : n = 0
    · subst h0
      rw [powLoop, if_pos rfl, Int.pow_zero, Int.mul_one]
    rw [powLoop, if_neg h0, pow_hom N hm f (n / 2) _ _ (by omega)]
    by_cases h1 : 1 < n
    · rw [if_pos h1, hm y y]
      have e : (N y * N y) ^ (n / 2) = N y ^ (2 * (n / 2)) := by rw [Int.pow_mul, show (2 : Nat) = 1 + 1 from rfl, Int.pow_succ, Int.pow_one]
      rw [e]
      by_cases h2 : n % 2 = 1
      · rw [if_pos h2, hm, Int.mul_assoc]
        congr 1
        rw [Int.mul_comm, ← Int.pow_succ]
        congr 1; omega
      · rw [if_neg h2, show 2 * (n / 2) = n by omega]
    · obtain rfl : n = 1 := by omega
      simp [hm]
      rw [show (1 : Nat) = 0 + 1 from rfl, Int.pow_succ, Int.pow_zero, Int.one_mul]

end
section
noncomputable def tab (T : List Int) (i : Nat) : Int := T.getD (i % T.length) 0
theorem tab_turn (T : List Int) (i : Nat) : tab T (T.length + i) = tab T i := by unfold tab; rw [Nat.add_mod_left]
theorem tab_all (T U V : List Int) (n : Nat) (h1 : T.length = n) (P : Int → Int → Int → Prop) : True := trivial
/-- x^2 + s x + 1 -/
noncomputable def qn (s A B : Int) : Int := A * A - s * (A * B) + B * B
structure Quad (t : Nat) (s : Int) (α β : Nat → Int) : Prop where
  ta : ∀ i, α (t + i) = α i
  tb : ∀ i, β (t + i) = β i
  ra : ∀ i j, α (i + j) = α i * α j + β i * (- β j)
  rb : ∀ i j, β (i + j) = α i * β j + β i * (α j + (-s) * β j)
theorem ev_two {φ α β ψ χ : Nat → Int} (h : ∀ i j, φ (i + j) = α i * ψ j + β i * χ j) (a b : List Int) : ev φ (mulL a b) = ev α a * ev ψ b + ev β a * ev χ b := by
  rw [ev_mul, ← ev_mul_fun', ← ev_mul_fun', ← ev_add_fun]
  refine ev_fun (fun i => ?_) a
  rw [← ev_mul_fun, ← ev_mul_fun, ← ev_add_fun]
  exact ev_fun (h i) b
theorem Quad.mul {t : Nat} {s : Int} {α β : Nat → Int} (q : Quad t s α β) (a b : List Int) :
    qn s (ev α (mulL a b)) (ev β (mulL a b)) = qn s (ev α a) (ev β a) * qn s (ev α b) (ev β b) := by
  have e1 : ev (fun j => - β j) b = - ev β b := by
    rw [ev_fun (ψ := fun j => (-1) * β j) (fun i => by omega), ev_mul_fun]; omega
  have e2 : ev (fun j => α j + (-s) * β j) b = ev α b + (-s) * ev β b := by rw [ev_add_fun, ev_mul_fun]
  rw [ev_two q.ra, ev_two q.rb, e1, e2]
  generalize ev α a = A
  generalize ev β a = B
  generalize ev α b = C
  generalize ev β b = D
  unfold qn
  grind
noncomputable def Ta (t : Nat) : List Int := if t = 3 then [1, 0, -1] else if t = 4 then [1, 0, -1, 0] else [1, 0, -1, -1, 0, 1]
noncomputable def Tb (t : Nat) : List Int := if t = 3 then [0, 1, -1] else if t = 4 then [0, 1, 0, -1] else [0, 1, 1, 0, -1, -1]
noncomputable def sq (t : Nat) : Int := if t = 3 then 1 else if t = 4 then 0 else -1
theorem tab_two {t : Nat} (ht : 0 < t) (T U V W X : List Int) (s : Int) (h1 : T.length = t) (h2 : U.length = t) (h3 : V.length = t)
    (h : ∀ a < t, ∀ b < t, V.getD ((a + b) % t) 0 = T.getD a 0 * W.getD b 0 + U.getD a 0 * X.getD b 0) (hW : W.length = t) (hX : X.length = t) (i j : Nat) :
    tab V (i + j) = tab T i * tab W j + tab U i * tab X j := by
  unfold tab
  rw [h1, h2, h3, hW, hX, Nat.add_mod]
  exact h _ (Nat.mod_lt _ ht) _ (Nat.mod_lt _ ht)
theorem quad_at (t : Nat) (h : t = 3 ∨ t = 4 ∨ t = 6) : Quad t (sq t) (tab (Ta t)) (tab (Tb t)) := by
  have fin : ∀ t, t = 3 ∨ t = 4 ∨ t = 6 → ((Ta t).length = t ∧ (Tb t).length = t ∧
      (∀ a < t, ∀ b < t, (Ta t).getD ((a + b) % t) 0 = (Ta t).getD a 0 * (Ta t).getD b 0 + (Tb t).getD a 0 * (-(Tb t).getD b 0)) ∧
      (∀ a < t, ∀ b < t, (Tb t).getD ((a + b) % t) 0 = (Ta t).getD a 0 * (Tb t).getD b 0 + (Tb t).getD a 0 * ((Ta t).getD b 0 + (-(sq t)) * (Tb t).getD b 0))) := by
    intro t h
    rcases h with rfl | rfl | rfl <;> decide +kernel
  obtain ⟨l1, l2, f1, f2⟩ := fin t h
  have ht : 0 < t := by omega
  refine ⟨fun i => ?_, fun i => ?_, fun i j => ?_, fun i j => ?_⟩
  · have := tab_turn (Ta t) i; rw [l1] at this; exact this
  · have := tab_turn (Tb t) i; rw [l2] at this; exact this
  · unfold tab
    rw [l1, l2, Nat.add_mod]
    exact f1 _ (Nat.mod_lt _ ht) _ (Nat.mod_lt _ ht)
  · unfold tab
    rw [l1, l2, Nat.add_mod]
    exact f2 _ (Nat.mod_lt _ ht) _ (Nat.mod_lt _ ht)
-- the fifth
noncomputable def G5 (w : Nat) : List Int := if w = 0 then [1, 0, 0, 0, -1] else if w = 1 then [0, 1, 0, 0, -1] else if w = 2 then [0, 0, 1, 0, -1] else [0, 0, 0, 1, -1]
noncomputable def u5 (a b c d : Int) : Int := a * a + b * b + c * c + d * d - (a * c + b * d + a * d)
noncomputable def v5 (a b c d : Int) : Int := a * b + b * c + c * d - (a * c + b * d + a * d)
noncomputable def n5 (a b c d : Int) : Int := u5 a b c d * u5 a b c d - u5 a b c d * v5 a b c d - v5 a b c d * v5 a b c d
noncomputable def e5 (w : Nat) (l : List Int) : Int := ev (tab (G5 w)) l
theorem ev_four {φ : Nat → Int} (h : ∀ i j, φ (i + j) = tab (G5 0) i * φ (0 + j) + tab (G5 1) i * φ (1 + j) + (tab (G5 2) i * φ (2 + j) + tab (G5 3) i * φ (3 + j))) (a b : List Int) :
    ev φ (mulL a b) = e5 0 a * ev (fun j => φ (0 + j)) b + e5 1 a * ev (fun j => φ (1 + j)) b + (e5 2 a * ev (fun j => φ (2 + j)) b + e5 3 a * ev (fun j => φ (3 + j)) b) := by
  unfold e5
  rw [ev_mul, ← ev_mul_fun', ← ev_mul_fun', ← ev_mul_fun', ← ev_mul_fun', ← ev_add_fun, ← ev_add_fun, ← ev_add_fun]
  refine ev_fun (fun i => ?_) a
  rw [← ev_mul_fun, ← ev_mul_fun, ← ev_mul_fun, ← ev_mul_fun, ← ev_add_fun, ← ev_add_fun, ← ev_add_fun]
  exact ev_fun (h i) b
theorem g5_len (w : Nat) : (G5 w).length = 5 := by
  unfold G5; repeat' split
  all_goals rfl
theorem g5_rule {w : Nat} (hw : w < 4) (i j : Nat) : tab (G5 w) (i + j) = tab (G5 0) i * tab (G5 w) (0 + j) + tab (G5 1) i * tab (G5 w) (1 + j) + (tab (G5 2) i * tab (G5 w) (2 + j) + tab (G5 3) i * tab (G5 w) (3 + j)) := by
  have fin : ∀ w < 4, ∀ a < 5, ∀ b < 5, (G5 w).getD ((a + b) % 5) 0 = (G5 0).getD a 0 * (G5 w).getD ((0 % 5 + b) % 5) 0 + (G5 1).getD a 0 * (G5 w).getD ((1 % 5 + b) % 5) 0 + ((G5 2).getD a 0 * (G5 w).getD ((2 % 5 + b) % 5) 0 + (G5 3).getD a 0 * (G5 w).getD ((3 % 5 + b) % 5) 0) := by decide +kernel
  unfold tab
  simp only [g5_len]
  rw [Nat.add_mod i, Nat.add_mod 0, Nat.add_mod 1, Nat.add_mod 2, Nat.add_mod 3]
  exact fin w hw _ (Nat.mod_lt _ (by decide)) _ (Nat.mod_lt _ (by decide))
theorem e5_shift {w : Nat} (hw : w < 4) (u : Nat) (b : List Int) : ev (fun j => tab (G5 w) (u + j)) b = tab (G5 w) (u + 0) * e5 0 b + tab (G5 w) (u + 1) * e5 1 b + (tab (G5 w) (u + 2) * e5 2 b + tab (G5 w) (u + 3) * e5 3 b) := by
  unfold e5
  rw [← ev_mul_fun, ← ev_mul_fun, ← ev_mul_fun, ← ev_mul_fun, ← ev_add_fun, ← ev_add_fun, ← ev_add_fun]
  refine ev_fun (fun j => ?_) b
  rw [Nat.add_comm u j, g5_rule hw j u, Nat.add_comm u 0, Nat.add_comm u 1, Nat.add_comm u 2, Nat.add_comm u 3]
  simp only [Int.mul_comm]
theorem e5_mul (a b : List Int) : e5 0 (mulL a b) = e5 0 a * e5 0 b - (e5 1 a * e5 3 b + e5 2 a * e5 2 b + e5 3 a * e5 1 b) + (e5 2 a * e5 3 b + e5 3 a * e5 2 b) ∧
    e5 1 (mulL a b) = e5 0 a * e5 1 b + e5 1 a * e5 0 b - (e5 1 a * e5 3 b + e5 2 a * e5 2 b + e5 3 a * e5 1 b) + e5 3 a * e5 3 b ∧
    e5 2 (mulL a b) = e5 0 a * e5 2 b + e5 1 a * e5 1 b + e5 2 a * e5 0 b - (e5 1 a * e5 3 b + e5 2 a * e5 2 b + e5 3 a * e5 1 b) ∧
    e5 3 (mulL a b) = e5 0 a * e5 3 b + e5 1 a * e5 2 b + e5 2 a * e5 1 b + e5 3 a * e5 0 b - (e5 1 a * e5 3 b + e5 2 a * e5 2 b + e5 3 a * e5 1 b) := by
  have h : ∀ w, w < 4 → e5 w (mulL a b) = _ := fun w hw => (ev_four (g5_rule hw) a b).trans (by rw [e5_shift hw, e5_shift hw, e5_shift hw, e5_shift hw])
  have h0 := h 0 (by decide)
  have h1 := h 1 (by decide)
  have h2 := h 2 (by decide)
  have h3 := h 3 (by decide)
  simp only [tab, G5, List.length_cons, List.length_nil, List.getD_cons_zero, List.getD_cons_succ, Nat.reduceAdd, Nat.reduceMod, if_true, if_false, Nat.reduceEqDiff, reduceCtorEq, Nat.zero_add, List.getD_nil] at h0 h1 h2 h3
  rw [h0, h1, h2, h3]
  generalize e5 0 a = A
  generalize e5 1 a = B
  generalize e5 2 a = C
  generalize e5 3 a = D
  generalize e5 0 b = A'
  generalize e5 1 b = B'
  generalize e5 2 b = C'
  generalize e5 3 b = D'
  refine ⟨?_, ?_, ?_, ?_⟩ <;> grind
theorem uv_mul (a b c d a' b' c' d' : Int) (p q r s : Int) (hp : p = a * a' - (b * d' + c * c' + d * b') + (c * d' + d * c')) (hq : q = a * b' + b * a' - (b * d' + c * c' + d * b') + d * d')
    (hr : r = a * c' + b * b' + c * a' - (b * d' + c * c' + d * b')) (hs : s = a * d' + b * c' + c * b' + d * a' - (b * d' + c * c' + d * b')) :
    u5 p q r s = u5 a b c d * u5 a' b' c' d' + v5 a b c d * v5 a' b' c' d' ∧ v5 p q r s = u5 a b c d * v5 a' b' c' d' + v5 a b c d * u5 a' b' c' d' - v5 a b c d * v5 a' b' c' d' := by
  subst hp hq hr hs
  unfold u5 v5
  constructor <;> grind
theorem n5_mul (a b : List Int) : n5 (e5 0 (mulL a b)) (e5 1 (mulL a b)) (e5 2 (mulL a b)) (e5 3 (mulL a b)) = n5 (e5 0 a) (e5 1 a) (e5 2 a) (e5 3 a) * n5 (e5 0 b) (e5 1 b) (e5 2 b) (e5 3 b) := by
  obtain ⟨h0, h1, h2, h3⟩ := e5_mul a b
  obtain ⟨hu, hv⟩ := uv_mul _ _ _ _ _ _ _ _ _ _ _ _ h0 h1 h2 h3
  unfold n5
  rw [hu, hv]
  generalize u5 (e5 0 a) (e5 1 a) (e5 2 a) (e5 3 a) = A
  generalize v5 (e5 0 a) (e5 1 a) (e5 2 a) (e5 3 a) = B
  generalize u5 (e5 0 b) (e5 1 b) (e5 2 b) (e5 3 b) = C
  generalize v5 (e5 0 b) (e5 1 b) (e5 2 b) (e5 3 b) = D
  grind

end
section
/-- the rest of a division, each turn at its place, nothing trimmed -/
noncomputable def prStep (b : List Int) (f : Int) (n : Nat) (u : List Int) : List Int := (List.range (u.length - 1)).map fun i => co u i * f - (if i < n then 0 else co b (i - n) * co u (u.length - 1))
noncomputable def prU (b : List Int) (f : Int) : Nat → List Int → List Int
  | 0, u => u
  | n + 1, u => prU b f n (prStep b f n u)
theorem prStep_length (b : List Int) (f : Int) (n : Nat) (u : List Int) : (prStep b f n u).length = u.length - 1 := by unfold prStep; rw [List.length_map, List.length_range]
theorem co_prStep (b : List Int) (f : Int) (n : Nat) (u : List Int) (i : Nat) : co (prStep b f n u) i = if i < u.length - 1 then co u i * f - (if i < n then 0 else co b (i - n) * co u (u.length - 1)) else 0 := co_range_map _ _ _
theorem ps_scale {b : List Int} {f k : Int} (hk : k ≠ 0) : ∀ (fu : Nat) (r found found' : List Int) (l l' : Int), Trim r →
    (psLoop b f fu (scaleL r k) found l).1 = scaleL (psLoop b f fu r found' l').1 k ∧ (psLoop b f fu (scaleL r k) found l).2.2 - l = (psLoop b f fu r found' l').2.2 - l'
  | 0, _, _, _, _, _, _ => ⟨rfl, (Int.sub_self _).trans (Int.sub_self _).symm⟩
  | fu + 1, r, found, found', l, l', ht => by
    have el : (scaleL r k).length = r.length := by unfold scaleL; rw [if_pos hk, List.length_map]
    unfold psLoop
    rw [el]
    split
    · have e : psStep b f (scaleL r k) = scaleL (psStep b f r) k := by
        refine trim_ext (sub_trim _ _) ?_ fun i => ?_
        · refine Trim.of_lead ?_
          have h := sub_trim (scaleL r f) (raiseL (scaleL b (leadL r)) (r.length - b.length))
          by_cases h0 : psStep b f r = []
          · rw [h0]; left; unfold scaleL; rw [if_pos hk]; rfl
          · right
            rw [co_scale]
            have e2 : (scaleL (psStep b f r) k).length = (psStep b f r).length := by unfold scaleL; rw [if_pos hk, List.length_map]
            rw [e2]
            exact Int.mul_ne_zero (Trim.lead h h0) hk
        · rw [co_step, co_scale, co_scale, co_step, el, lead_def, lead_def, co_scale, el, Int.sub_mul, Int.mul_assoc, Int.mul_comm k, ← Int.mul_assoc]
          congr 1
          split
          · rw [Int.zero_mul]
          · rw [Int.mul_assoc]
      obtain ⟨h1, h2⟩ := ps_scale hk fu (psStep b f r) (psFound b f (scaleL r k) found) (psFound b f r found') (l - 1) (l' - 1) (sub_trim _ _)
      rw [e]
      exact ⟨h1, by omega⟩
    · exact ⟨rfl, (Int.sub_self l).trans (Int.sub_self l').symm⟩
theorem scale_one_ps {b : List Int} {f : Int} (fu : Nat) (r found found' : List Int) (l l' : Int) (ht : Trim r) :
    (psLoop b f fu r found l).1 = (psLoop b f fu r found' l').1 ∧ (psLoop b f fu r found l).2.2 - l = (psLoop b f fu r found' l').2.2 - l' := by
  have := ps_scale (b := b) (f := f) (k := 1) (by decide) fu r found found' l l' ht
  rw [leadL_one_scale, leadL_one_scale] at this
  exact this
theorem scale_scale (l : List Int) {a : Int} (b : Int) (ha : a ≠ 0) : scaleL (scaleL l a) b = scaleL l (a * b) := by
  by_cases hb : b = 0
  · subst hb; rw [Int.mul_zero]; unfold scaleL; simp
  · unfold scaleL
    rw [if_pos ha, if_pos hb, if_pos (Int.mul_ne_zero ha hb), List.map_map]
    exact List.map_congr_left fun x _ => Int.mul_assoc x a b
theorem ps_left (b : List Int) {f : Int} : ∀ (fu : Nat) (r found : List Int) (l : Int), (r.length : Int) - b.length + 1 ≤ l → 0 ≤ l → leadL b = f → 0 < b.length → 0 ≤ (psLoop b f fu r found l).2.2
  | 0, _, _, _, _, h, _, _ => h
  | fu + 1, r, found, l, h1, h2, hf, hb => by
    unfold psLoop
    split
    · rename_i hc
      have := step_len hb hc
      rw [hf] at this
      exact ps_left b fu _ _ _ (by omega) (by omega) hf hb
    · exact h2
theorem trim_scale (l : List Int) {k : Int} (hk : k ≠ 0) : trimL (scaleL l k) = scaleL (trimL l) k := by
  refine trim_ext (trim_trim _) ?_ fun i => by rw [co_trim, co_scale, co_scale, co_trim]
  refine Trim.of_lead ?_
  by_cases h0 : trimL l = []
  · rw [h0]; left; unfold scaleL; rw [if_pos hk]; rfl
  · right
    rw [co_scale]
    have e2 : (scaleL (trimL l) k).length = (trimL l).length := by unfold scaleL; rw [if_pos hk, List.length_map]
    rw [e2]
    exact Int.mul_ne_zero (Trim.lead (trim_trim l) h0) hk
theorem snoc_of {u : List Int} {n : Nat} (h : u.length = n + 1) : ∃ v c, u = v ++ [c] ∧ v.length = n := by
  have hne : u ≠ [] := by rintro rfl; cases h
  exact ⟨u.dropLast, u.getLast hne, (List.dropLast_concat_getLast hne).symm, by rw [List.length_dropLast]; omega⟩
theorem ps_prU {b : List Int} {f : Int} (hb : 0 < b.length) (hf : leadL b = f) (hf0 : f ≠ 0) : ∀ (n : Nat) (u : List Int) (fu : Nat) (found : List Int), u.length + 1 = n + b.length → (trimL u).length < fu →
    scaleL (psLoop b f fu (trimL u) found n).1 (f ^ (psLoop b f fu (trimL u) found n).2.2.toNat) = trimL (prU b f n u)
  | 0, u, fu, found, hl, hfu => by
    have h1 : ¬ b.length ≤ (trimL u).length := by have := trim_le u; omega
    have e : psLoop b f fu (trimL u) found 0 = (trimL u, found, 0) := by
      cases fu with
      | zero => rfl
      | succ fu => unfold psLoop; exact if_neg h1
    show scaleL (psLoop b f fu (trimL u) found 0).1 (f ^ (psLoop b f fu (trimL u) found 0).2.2.toNat) = trimL (prU b f 0 u)
    rw [e]
    show scaleL (trimL u) (f ^ 0) = _
    rw [Int.pow_zero, leadL_one_scale]; rfl
  | n + 1, u, fu, found, hl, hfu => by
    obtain ⟨v, c, rfl, hv⟩ := snoc_of (u := u) (n := n + b.length - 1) (by omega)
    have hlv : (v ++ [c]).length - 1 = v.length := by rw [List.length_append, List.length_singleton]; omega
    have hlv2 : (v ++ [c]).length = v.length + 1 := by rw [List.length_append, List.length_singleton]
    rw [prU]
    by_cases hc : c = 0
    · subst hc
      rw [trim_snoc_zero] at hfu ⊢
      have e : trimL (prStep b f n (v ++ [0])) = scaleL (trimL v) f := by
        rw [← trim_scale v hf0]
        refine trim_eq fun i => ?_
        rw [co_prStep, hlv, co_scale, co_snoc, co_snoc]
        split
        · rw [if_neg (by omega), if_pos rfl]
          split <;> simp
        · rw [co_out (by omega), Int.zero_mul]
      obtain ⟨s1, s2⟩ := ps_scale (b := b) (f := f) hf0 fu (trimL v) found found (n : Int) ((n + 1 : Nat) : Int) (trim_trim v)
      have hsl : (scaleL (trimL v) f).length = (trimL v).length := by unfold scaleL; rw [if_pos hf0, List.length_map]
      have ih := ps_prU hb hf hf0 n (prStep b f n (v ++ [0])) fu found (by rw [prStep_length]; omega) (by rw [e, hsl]; exact hfu)
      have hlen := trim_le v
      have hleft := ps_left b (f := f) fu (scaleL (trimL v) f) found (n : Int) (by rw [hsl]; omega) (by omega) hf hb
      rw [← ih, e, s1, scale_scale _ _ hf0]
      congr 1
      rw [Int.mul_comm, ← Int.pow_succ]
      congr 1
      omega
    · rw [trim_snoc v hc] at hfu ⊢
      obtain ⟨fu, rfl⟩ : ∃ k, fu = k + 1 := ⟨fu - 1, by omega⟩
      have hle : b.length ≤ (v ++ [c]).length := by omega
      have e : psStep b f (v ++ [c]) = trimL (prStep b f n (v ++ [c])) := by
        refine trim_ext (sub_trim _ _) (trim_trim _) fun i => ?_
        rw [co_step, co_trim, co_prStep, hlv, lead_def, hlv, show (v ++ [c]).length - b.length = n by omega]
        by_cases h1 : i < n
        · rw [if_pos h1, if_pos (by omega)]
        rw [if_neg h1]
        · by_cases hi : i = v.length
          · have e3 : i - n = b.length - 1 := by omega
            rw [if_neg (by omega), e3, hi, ← lead_def b, hf, Int.mul_comm]; omega
          by_cases hi2 : i < v.length
          · rw [if_pos hi2]
          · rw [if_neg hi2, co_out (l := v ++ [c]) (by omega), co_out (l := b) (i := i - n) (by omega)]
            simp
      have ih := ps_prU hb hf hf0 n (prStep b f n (v ++ [c])) fu (psFound b f (v ++ [c]) found) (by rw [prStep_length]; omega) (by
        rw [← e]
        have := step_len hb hle
        rw [hf] at this
        omega)
      rw [← e] at ih
      rw [← ih, psLoop, if_pos hle, show ((n + 1 : Nat) : Int) - 1 = (n : Int) by omega]
theorem pseudo_prU {a b : List Int} (ha : Trim a) (hb : Trim b) (h0 : b ≠ []) (hl : b.length ≤ a.length) : (pseudoL a b).2.1 = trimL (prU b (leadL b) (a.length + 1 - b.length) a) := by
  have hb0 := List.length_pos_iff.mpr h0
  have hf0 : leadL b ≠ 0 := by rw [lead_def]; exact hb.lead h0
  have h := ps_prU hb0 rfl hf0 (a.length + 1 - b.length) a (a.length + 1) [] (by omega) (by have := trim_le a; omega)
  rw [← h]
  have e : psMany a b = ((a.length + 1 - b.length : Nat) : Int) := by rw [(many_facts a b).2.2.2 hl]; omega
  unfold pseudoL
  rw [e, ha]

end
section
theorem par {n : Nat} (h : 0 < n) : (((n : Int) - 1).fmod 2 = 1) = ((n - 1) % 2 = 1) := by
  obtain ⟨k, rfl⟩ : ∃ k, n = k + 1 := ⟨n - 1, (Nat.sub_add_cancel h).symm⟩
  have e : ((k + 1 : Nat) : Int) - 1 = (k : Int) := Int.add_sub_cancel (k : Int) 1
  rw [e, Nat.add_sub_cancel, Int.fmod_eq_emod_of_nonneg _ (by decide)]
  show (((k % 2 : Nat) : Int) = ((1 : Nat) : Int)) = _
  exact propext Int.ofNat_inj
theorem rr_step {f : Nat} {a b : List Int} {sg g h res : Int} (gap Ka Kb : Nat) (d h' sg' : Int) (r : List Int)
    (hl : a.length = b.length + gap) (h1 : 1 < b.length) (hal : a.length ≤ 20) (hA : BdL Ka a) (hB : BdL Kb b) (hKa : Ka ≤ 4000) (hKb : Kb ≤ 4000) (hg : Bd 4000 g) (hh : Bd 4000 h)
    (hd : g * h ^ gap = d) (hd0 : d ≠ 0) (hdb : Bd 8999 d) (hh1 : 0 < gap → h ^ (gap - 1) ≠ 0 ∧ Bd 8999 (h ^ (gap - 1)))
    (hr : (pseudoL a b).2.1.map (fun x => x.fdiv d) = r) (hs : (if (a.length - 1) % 2 = 1 ∧ (b.length - 1) % 2 = 1 then -sg else sg) = sg')
    (hh' : (if 0 < gap then (leadL b ^ gap).fdiv (h ^ (gap - 1)) else h) = h') (next : BdL (Ka + (gap + 1) * (Kb + 1) + 1) r → RrOk f b r sg' (leadL b) h' res) : RrOk (f + 1) a b sg g h res := by
  have e1 : ((a.length : Int) - 1 - ((b.length : Int) - 1)).toNat = gap := by omega
  have e2 : ((a.length : Int) - 1 - ((b.length : Int) - 1) - 1).toNat = gap - 1 := by omega
  have e3 : (0 < (a.length : Int) - 1 - ((b.length : Int) - 1)) = (0 < gap) := propext (by omega)
  have e4 : (((a.length : Int) - 1).fmod 2 = 1 ∧ ((b.length : Int) - 1).fmod 2 = 1) = ((a.length - 1) % 2 = 1 ∧ (b.length - 1) % 2 = 1) := by
    rw [par (by omega), par (by omega)]
  have hrb : BdL (Ka + (gap + 1) * (Kb + 1) + 1) r := by
    have := pseudo_bd (ns := a) (ms := b) (by omega) hA hB
    rw [(many_facts a b).2.2.2 (by omega), show ((a.length : Int) - b.length + 1).toNat = gap + 1 by omega] at this
    rw [← hr]
    intro x hx
    obtain ⟨y, hy, rfl⟩ := List.mem_map.mp hx
    exact bd_fdiv (this y hy)
  have hlead : Bd 4000 (leadL b) := by rw [lead_def]; exact (hB.cof _).mono hKb
  rw [RrOk, if_pos h1]
  unfold rrB rrS rrH
  simp only [e1, e2, e3, e4]
  refine ⟨⟨by omega, hal, ⟨Ka, Kb, hA, hB, ?_⟩, hg, hh, hlead, ⟨by rw [hd]; exact hd0, by rw [hd]; exact hdb⟩, hh1⟩, ?_⟩
  · have : (a.length + 2) * (Kb + 1) ≤ 22 * (Kb + 1) := Nat.mul_le_mul_right _ (by omega)
    omega
  · rw [hd, hr, hs, hh']
    exact next hrb
theorem rr_zero (f : Nat) (a : List Int) (sg g h : Int) : RrOk (f + 1) a [] sg g h 0 := by
  rw [RrOk, if_neg (by simp), if_pos (show ([] : List Int).length = 0 from rfl)]
theorem rr_end {f : Nat} {a : List Int} {c sg g h res : Int} (n : Nat) (hn : a.length = n + 1) (hn2 : 0 < n) (hal : a.length ≤ 20) (hc : Bd 40000 c) (hh : Bd 4000 h) (hs : Bd 1 sg) (hp : h ^ (n - 1) ≠ 0 ∧ Bd 8999 (h ^ (n - 1)))
    (hr : sg * (c ^ n).fdiv (h ^ (n - 1)) = res) : RrOk (f + 1) a [c] sg g h res := by
  have e1 : ((a.length : Int) - 1).toNat = n := by omega
  have e2 : ((a.length : Int) - 1 - 1).toNat = n - 1 := by omega
  rw [RrOk, if_neg (by simp), if_neg (by simp), e1, e2, if_pos (by omega)]
  exact ⟨hal, by omega, hc, hh, hs, fun _ => hp, hr.symm⟩
theorem trim1 (c : Int) : trimL [c] = if c = 0 then [] else [c] := by
  split
  · rename_i h; rw [h]; rfl
  · rename_i h; exact trim_snoc [] h
theorem trim2 (c d : Int) : trimL [c, d] = if d = 0 then trimL [c] else [c, d] := by
  split
  · rename_i h; rw [h]; exact trim_snoc_zero [c]
  · rename_i h; exact trim_snoc [c] h
theorem trim3 (c d e : Int) : trimL [c, d, e] = if e = 0 then trimL [c, d] else [c, d, e] := by
  split
  · rename_i h; rw [h]; exact trim_snoc_zero [c, d]
  · rename_i h; exact trim_snoc [c, d] h
theorem trim4 (c d e x : Int) : trimL [c, d, e, x] = if x = 0 then trimL [c, d, e] else [c, d, e, x] := by
  split
  · rename_i h; rw [h]; exact trim_snoc_zero [c, d, e]
  · rename_i h; exact trim_snoc [c, d, e] h
theorem bd_one (k : Nat) (hk : 0 < k) : Bd k 1 := Nat.one_lt_two_pow (by omega)
theorem bd_m1 (k : Nat) (hk : 0 < k) : Bd k (-1) := Nat.one_lt_two_pow (by omega)
theorem pow0_ok (h : Int) : h ^ 0 ≠ 0 ∧ Bd 8999 (h ^ 0) := by rw [Int.pow_zero]; exact ⟨by decide, bd_one _ (by decide)⟩
theorem rr_fin1 {f : Nat} {a : List Int} {c sg g h res : Int} (hal : a.length = 2) (hc : Bd 40000 c) (hh : Bd 4000 h) (hs : Bd 1 sg) (hr : sg * c = res) : RrOk (f + 1) a (trimL [c]) sg g h res := by
  rw [trim1]
  split
  · rename_i h0
    rw [h0, Int.mul_zero] at hr
    rw [← hr]
    exact rr_zero _ _ _ _ _
  · refine rr_end 1 hal (by decide) (by omega) hc hh hs (pow0_ok h) ?_
    rw [← hr, show h ^ (1 - 1) = 1 from Int.pow_zero h, Int.fdiv_one, Int.pow_succ, Int.pow_zero, Int.one_mul]
theorem map_fdiv_one (l : List Int) : (l.map fun x => x.fdiv 1) = l := (List.map_congr_left fun x _ => Int.fdiv_one x).trans (List.map_id _)
theorem map_fdiv {d : Int} (hd : d ≠ 0) (l : List Int) : (scaleL l d).map (fun x => x.fdiv d) = l := by
  unfold scaleL
  rw [if_pos hd, List.map_map]
  exact (List.map_congr_left fun x _ => Int.mul_fdiv_cancel x hd).trans (List.map_id _)
theorem rest_eq {a b l : List Int} {d : Int} (ha : Trim a) (hb : Trim b) (h0 : b ≠ []) (hl : b.length ≤ a.length) (hd : d ≠ 0) (hp : prU b (leadL b) (a.length + 1 - b.length) a = scaleL l d) : (pseudoL a b).2.1.map (fun x => x.fdiv d) = trimL l := by
  rw [pseudo_prU ha hb h0 hl, hp, trim_scale l hd, map_fdiv hd]
theorem trim_last2 {c d : Int} (h : d ≠ 0) : Trim [c, d] := Trim.of_lead (.inr h)
theorem trim_last3 {c d e : Int} (h : e ≠ 0) : Trim [c, d, e] := Trim.of_lead (.inr h)
theorem trim_last4 {c d e x : Int} (h : x ≠ 0) : Trim [c, d, e, x] := Trim.of_lead (.inr h)
theorem trim_last5 {c d e x y : Int} (h : y ≠ 0) : Trim [c, d, e, x, y] := Trim.of_lead (.inr h)
theorem bd_pow' {k : Nat} {x : Int} (h : Bd k x) (n m : Nat) (hm : k * n + 1 ≤ m) : Bd m (x ^ n) := (bd_pow h n).mono hm
theorem bdl_head {k : Nat} {x : Int} {l : List Int} (h : BdL k (x :: l)) : Bd k x := h x (.head _)
theorem pow_ne {x : Int} (h : x ≠ 0) (n : Nat) : x ^ n ≠ 0 := Int.pow_ne_zero h
-- the quadratic ones
theorem qa_two {s : Int} {K : Nat} (hs : Bd 1 s) (hK : K ≤ 1000) {p q : Int} (hb : BdL K [p, q]) (hq : q ≠ 0) : RrOk 2 [1, s, 1] [p, q] 1 1 1 (qn s p q) := by
  refine rr_step 1 1 K 1 q 1 (trimL [qn s p q]) rfl (by show 1 < 2; decide) (by show 3 ≤ 20; decide) ?_ hb (by decide) (by omega) (bd_one _ (by decide)) (bd_one _ (by decide)) rfl (by decide) (bd_one _ (by decide)) (fun _ => ⟨by decide, bd_one _ (by decide)⟩) ?_ (by simp) ?_ fun hr => ?_
  · intro x hx
    simp only [List.mem_cons, List.not_mem_nil, or_false] at hx
    rcases hx with rfl | rfl | rfl
    · exact bd_one _ (by decide)
    · exact hs
    · exact bd_one _ (by decide)
  · refine rest_eq (trim_last3 (by decide)) (trim_last2 hq) (by simp) (by show 2 ≤ 3; decide) (by decide) ?_
    rw [leadL_one_scale]
    show [_] = [_]
    congr 1
    simp [prStep, co, List.range_succ, leadL, qn]
    grind
  · show (q ^ 1).fdiv (1 ^ 0) = q
    rw [Int.pow_zero, Int.fdiv_one, Int.pow_succ, Int.pow_zero, Int.one_mul]
  · refine rr_fin1 rfl ?_ ((hb q (by simp)).mono (by omega)) (bd_one _ (by decide)) (Int.one_mul _)
    have h1 := hb p (by simp)
    have h2 := hb q (by simp)
    refine Bd.mono (j := 3 * K + 10) ?_ (by omega)
    unfold qn
    refine Bd.mono (j := 2 * K + 3 + 1 + 1) ((Bd.sub ((h1.mul h1).mono (show K + K ≤ 2 * K + 3 by omega)) ((hs.mul (h1.mul h2)).mono (by omega))).add ((h2.mul h2).mono (by omega))) (by omega)

end
section
theorem sgn_bd {s : Int} (h : s = 1 ∨ s = 0 ∨ s = -1) : Bd 1 s := by
  rcases h with rfl | rfl | rfl <;> (show Int.natAbs _ < 2 ^ 1) <;> decide
theorem phi_bd {s : Int} (hs : Bd 1 s) : BdL 1 [1, s, 1] := by
  intro x hx
  simp only [List.mem_cons, List.not_mem_nil, or_false] at hx
  rcases hx with rfl | rfl | rfl
  · exact bd_one _ (by decide)
  · exact hs
  · exact bd_one _ (by decide)
theorem qn_bd {s : Int} {K : Nat} (hs : Bd 1 s) {p q : Int} (h1 : Bd K p) (h2 : Bd K q) : Bd (2 * K + 5) (qn s p q) := by
  unfold qn
  exact Bd.mono (j := 2 * K + 3 + 1 + 1) ((Bd.sub ((h1.mul h1).mono (show K + K ≤ 2 * K + 3 by omega)) ((hs.mul (h1.mul h2)).mono (by omega))).add ((h2.mul h2).mono (by omega))) (by omega)
theorem qn_zero (s p : Int) : qn s p 0 = p * p := by unfold qn; rw [Int.mul_zero, Int.mul_zero, Int.mul_zero, Int.sub_zero, Int.add_zero]
theorem sq_one (p : Int) : (1 : Int) * (p ^ 2).fdiv (1 ^ 1) = p * p := by
  rw [Int.one_pow, Int.fdiv_one, Int.one_mul, Int.pow_succ, Int.pow_succ, Int.pow_zero, Int.one_mul]
/-- a quadratic one with a row of at most two -/
theorem qa {s : Int} {K : Nat} (hs : Bd 1 s) (hK : K ≤ 1000) {p q : Int} (hp : Bd K p) (hq : Bd K q) : RrOk 2 [1, s, 1] (trimL [p, q]) 1 1 1 (qn s p q) := by
  rw [trim2]
  split
  · rename_i h
    subst h
    rw [qn_zero, trim1]
    split
    · rename_i h
      subst h
      exact rr_zero _ _ _ _ _
    · exact rr_end 2 rfl (by decide) (by show 3 ≤ 20; decide) (hp.mono (by omega)) (bd_one _ (by decide)) (bd_one _ (by decide)) ⟨by decide, bd_one _ (by decide)⟩ (sq_one p)
  · rename_i h
    exact qa_two hs hK (by
      intro x hx
      simp only [List.mem_cons, List.not_mem_nil, or_false] at hx
      rcases hx with rfl | rfl
      · exact hp
      · exact hq) h
theorem qa_three {s : Int} {K : Nat} (hs : Bd 1 s) (hK : K ≤ 1000) {p q w : Int} (hb : BdL K [p, q, w]) (hw : w ≠ 0) : RrOk 3 [1, s, 1] [p, q, w] 1 1 1 (qn s (p - w) (q - s * w)) := by
  have hwb := hb w (by simp)
  refine rr_step 0 1 K 1 1 1 (trimL [w - p, s * w - q]) rfl (by show 1 < 3; decide) (by show 3 ≤ 20; decide) (phi_bd hs) hb (by decide) (by omega) (bd_one _ (by decide)) (bd_one _ (by decide)) rfl (by decide) (bd_one _ (by decide)) (fun h => absurd h (by decide)) ?_ (by simp) rfl fun hr => ?_
  · refine rest_eq (trim_last3 (by decide)) (trim_last3 hw) (by simp) (by show 3 ≤ 3; decide) (by decide) ?_
    rw [leadL_one_scale]
    show [_, _] = [_, _]
    congr 1
    · simp [co, leadL]
    · congr 1
      simp [co, leadL]
  · have e : qn s (p - w) (q - s * w) = qn s (w - p) (s * w - q) := by unfold qn; grind
    rw [e]
    show RrOk 2 [p, q, w] _ 1 w 1 _
    rw [trim2] at hr ⊢
    split
    · rename_i h
      rw [if_pos h] at hr
      rw [h, qn_zero]
      rw [trim1] at hr ⊢
      split
      · rename_i h0
        rw [h0]
        exact rr_zero _ _ _ _ _
      · rename_i h0
        rw [if_neg h0] at hr
        exact rr_end 2 rfl (by decide) (by show 3 ≤ 20; decide) ((bdl_head hr).mono (by omega)) (bd_one _ (by decide)) (bd_one _ (by decide)) ⟨by decide, bd_one _ (by decide)⟩ (sq_one _)
    · rename_i h
      rw [if_neg h] at hr
      refine rr_step 1 K _ w (s * w - q) 1 (trimL [qn s (w - p) (s * w - q)]) rfl (by show 1 < 2; decide) (by show 3 ≤ 20; decide) hb hr (by omega) (by omega) (hwb.mono (by omega)) (bd_one _ (by decide)) (by rw [Int.one_pow, Int.mul_one]) hw (hwb.mono (by omega)) (fun _ => ⟨by decide, bd_one _ (by decide)⟩) ?_ (by simp) ?_ fun hr2 => ?_
      · refine rest_eq (trim_last3 hw) (trim_last2 h) (by simp) (by show 2 ≤ 3; decide) hw ?_
        unfold scaleL
        rw [if_pos hw]
        show [_] = [_]
        congr 1
        simp [prStep, co, List.range_succ, leadL, qn]
        grind
      · show ((s * w - q) ^ 1).fdiv (1 ^ 0) = _
        rw [Int.pow_zero, Int.fdiv_one, Int.pow_succ, Int.pow_zero, Int.one_mul]
      · refine rr_fin1 rfl ?_ ((hr _ (by simp)).mono (by omega)) (bd_one _ (by decide)) (Int.one_mul _)
        exact (qn_bd hs (hr _ (by simp)) (hr _ (by simp))).mono (by omega)
theorem phi_lead (s : Int) : leadL [1, s, 1] = 1 := rfl
theorem bdl_two {K : Nat} {p q : Int} (hp : Bd K p) (hq : Bd K q) : BdL K [p, q] := by
  intro x hx
  simp only [List.mem_cons, List.not_mem_nil, or_false] at hx
  rcases hx with rfl | rfl
  · exact hp
  · exact hq
/-- two coefficients by two linear functions -/
theorem two_of {R : List Int} {α β : Nat → Int} (hl : R.length ≤ 2) (ht : Trim R) (a0 : α 0 = 1) (a1 : α 1 = 0) (b0 : β 0 = 0) (b1 : β 1 = 1) : R = trimL [ev α R, ev β R] := by
  have h : ∀ φ : Nat → Int, ev φ R = co R 0 * φ 0 + co R 1 * φ 1 := by
    intro φ
    rw [ev_eq φ R hl]
    show 0 + _ + _ = _
    rw [Int.zero_add]
  refine trim_ext ht (trim_trim _) fun i => ?_
  rw [co_trim, h α, h β, a0, a1, b0, b1]
  match i with
  | 0 => show co R 0 = co R 0 * 1 + co R 1 * 0; omega
  | 1 => show co R 1 = co R 0 * 0 + co R 1 * 1; omega
  | i + 2 => rw [co_out (by omega)]; rfl
theorem phi_ev {t : Nat} {s : Int} {α β : Nat → Int} (q : Quad t s α β) (a0 : α 0 = 1) (a1 : α 1 = 0) (b0 : β 0 = 0) (b1 : β 1 = 1) :
    (∀ d, ev (fun i => α (d + i)) [1, s, 1] = 0) ∧ (∀ d, ev (fun i => β (d + i)) [1, s, 1] = 0) := by
  have h1 : ∀ d, α (d + 1) = - β d := fun d => by rw [q.ra, a1, b1]; omega
  have h2 : ∀ d, β (d + 1) = α d + (-s) * β d := fun d => by rw [q.rb, a1, b1]; grind
  refine ⟨fun d => ?_, fun d => ?_⟩
  · rw [ev_cons, ev_cons, ev_cons, ev_nil]
    show 1 * α d + (s * α (d + 1) + (1 * α (d + 1 + 1) + 0)) = 0
    rw [h1, h1, h2]; grind
  · rw [ev_cons, ev_cons, ev_cons, ev_nil]
    show 1 * β d + (s * β (d + 1) + (1 * β (d + 1 + 1) + 0)) = 0
    rw [h2, h2, h1]; grind
theorem qn_long {t : Nat} {s : Int} {α β : Nat → Int} (q : Quad t s α β) (a0 : α 0 = 1) (a1 : α 1 = 0) (b0 : β 0 = 0) (b1 : β 1 = 1) {K : Nat} (hs : Bd 1 s) (hK : K ≤ 400) {g : List Int} (hg : BdL K g) (ht : Trim g) (h4 : 4 ≤ g.length) (h6 : g.length ≤ 6) :
    RrOk 3 g [1, s, 1] 1 1 1 (qn s (ev α g) (ev β g)) := by
  obtain ⟨z1, z2⟩ := phi_ev q a0 a1 b0 b1
  have hr0 : (pseudoL g [1, s, 1]).2.1 = trimL [ev α g, ev β g] := by
    rw [← pseudo_ev α (phi_lead s) z1 g, ← pseudo_ev β (phi_lead s) z2 g]
    refine two_of ?_ (pseudo_trim (phi_lead s) ht) a0 a1 b0 b1
    have := pseudo_len (b := [1, s, 1]) (by show 0 < 3; decide) g
    show _ ≤ 2
    have : (pseudoL g [1, s, 1]).2.1.length < 3 := this
    omega
  obtain ⟨gap, hgap⟩ : ∃ gap, g.length = 3 + gap := ⟨g.length - 3, by omega⟩
  refine rr_step gap K 1 1 1 1 (trimL [ev α g, ev β g]) hgap (by show 1 < 3; decide) (by omega) hg (phi_bd hs) (by omega) (by omega) (bd_one _ (by decide)) (bd_one _ (by decide)) (by rw [Int.one_pow, Int.mul_one]) (by decide) (bd_one _ (by decide)) (fun _ => by rw [Int.one_pow]; exact ⟨by decide, bd_one _ (by decide)⟩) (by rw [hr0, map_fdiv_one]) (by simp) ?_ fun hr => ?_
  · rw [phi_lead, Int.one_pow, Int.one_pow]
    split <;> rfl
  · rw [phi_lead]
    have hr2 : BdL (K + (gap + 1) * (1 + 1) + 1) [ev α g, ev β g] := by
      refine BdL.of_co fun i => ?_
      rw [← co_trim]
      exact hr.cof i
    exact qa (K := K + (gap + 1) * (1 + 1) + 1) hs (by omega) (hr2 _ (by simp)) (hr2 _ (by simp))

end
section
structure Lin (t : Nat) (ε : Int) (φ : Nat → Int) : Prop where
  ta : ∀ i, φ (t + i) = φ i
  z : φ 0 = 1
  e : φ 1 = ε
  r : ∀ i j, φ (i + j) = φ i * φ j
  b : Bd 1 ε
noncomputable def T1 (t : Nat) : List Int := if t = 1 then [1] else [1, -1]
theorem lin_at (t : Nat) (h : t = 1 ∨ t = 2) : Lin t (if t = 1 then 1 else -1) (tab (T1 t)) := by
  have fin : ∀ t, t = 1 ∨ t = 2 → ((T1 t).length = t ∧ (∀ a < t, ∀ b < t, (T1 t).getD ((a + b) % t) 0 = (T1 t).getD a 0 * (T1 t).getD b 0) ∧ tab (T1 t) 0 = 1 ∧ tab (T1 t) 1 = (if t = 1 then 1 else -1)) := by
    intro t h
    rcases h with rfl | rfl <;> decide +kernel
  obtain ⟨l1, f1, f2, f3⟩ := fin t h
  have ht : 0 < t := by omega
  refine ⟨fun i => ?_, f2, f3, fun i j => ?_, ?_⟩
  · have := tab_turn (T1 t) i; rw [l1] at this; exact this
  · unfold tab
    rw [l1, Nat.add_mod]
    exact f1 _ (Nat.mod_lt _ ht) _ (Nat.mod_lt _ ht)
  · split <;> (show Int.natAbs _ < 2 ^ 1) <;> decide
theorem Lin.mul {t : Nat} {ε : Int} {φ : Nat → Int} (q : Lin t ε φ) (a b : List Int) : ev φ (mulL a b) = ev φ a * ev φ b := by
  rw [ev_mul, ← ev_mul_fun']
  refine ev_fun (fun i => ?_) a
  rw [← ev_mul_fun]
  exact ev_fun (q.r i) b
theorem lphi_bd {s : Int} (hs : Bd 1 s) : BdL 1 [-s, 1] := bdl_two hs.neg (bd_one _ (by decide))
theorem la {ε : Int} {K : Nat} (hK : K ≤ 1000) {c : Int} (hc : Bd K c) {f : Nat} : RrOk (f + 1) [-ε, 1] (trimL [c]) 1 1 1 c :=
  rr_fin1 rfl (hc.mono (by omega)) (bd_one _ (by decide)) (bd_one _ (by decide)) (Int.one_mul _)
theorem la_two {ε : Int} {K : Nat} (hε : Bd 1 ε) (hK : K ≤ 1000) {p q : Int} (hb : BdL K [p, q]) (hq : q ≠ 0) : RrOk 2 [-ε, 1] [p, q] 1 1 1 (p + ε * q) := by
  have hqb := hb q (by simp)
  refine rr_step 0 1 K 1 1 (-1) (trimL [-(p + ε * q)]) rfl (by show 1 < 2; decide) (by show 2 ≤ 20; decide) (lphi_bd hε) hb (by decide) (by omega) (bd_one _ (by decide)) (bd_one _ (by decide)) rfl (by decide) (bd_one _ (by decide)) (fun h => absurd h (by decide)) ?_ (by simp) rfl fun hr => ?_
  · refine rest_eq (trim_last2 (by decide)) (trim_last2 hq) (by simp) (by show 2 ≤ 2; decide) (by decide) ?_
    rw [leadL_one_scale]
    show [_] = [_]
    congr 1
    simp [co, leadL]
    grind
  · refine rr_fin1 rfl ?_ (bd_one _ (by decide)) (bd_m1 _ (by decide)) (by omega)
    exact (((hb p (by simp)).mono (show K ≤ K + 1 by omega)).add ((hε.mul hqb).mono (by omega))).neg.mono (by omega)
theorem one_of {R : List Int} {φ : Nat → Int} (hl : R.length ≤ 1) (ht : Trim R) (a0 : φ 0 = 1) : R = trimL [ev φ R] := by
  have h : ev φ R = co R 0 := by
    rw [ev_eq φ R hl]
    show 0 + _ * _ = _
    rw [Int.zero_add, a0, Int.mul_one]
  refine trim_ext ht (trim_trim _) fun i => ?_
  rw [co_trim, h]
  match i with
  | 0 => rfl
  | i + 1 => rw [co_out (by omega)]; rfl
theorem lin_long {t : Nat} {ε : Int} {φ : Nat → Int} (q : Lin t ε φ) {K : Nat} (hK : K ≤ 400) {g : List Int} (hg : BdL K g) (ht : Trim g) (h3 : 3 ≤ g.length) (h6 : g.length ≤ 6) :
    RrOk 2 g [-ε, 1] (if (g.length - 1) % 2 = 1 then -1 else 1) 1 1 (ev φ g) := by
  have hz : ∀ d, ev (fun i => φ (d + i)) [-ε, 1] = 0 := by
    intro d
    rw [ev_cons, ev_cons, ev_nil]
    show -ε * φ d + (1 * φ (d + 1) + 0) = 0
    rw [q.r d 1, q.e]; grind
  have hlead : leadL [-ε, 1] = 1 := rfl
  have hr0 : (pseudoL g [-ε, 1]).2.1 = trimL [ev φ g] := by
    rw [← pseudo_ev φ hlead hz g]
    refine one_of ?_ (pseudo_trim hlead ht) q.z
    have : (pseudoL g [-ε, 1]).2.1.length < 2 := pseudo_len (b := [-ε, 1]) (by show 0 < 2; decide) g
    omega
  obtain ⟨gap, hgap⟩ : ∃ gap, g.length = 2 + gap := ⟨g.length - 2, by omega⟩
  refine rr_step gap K 1 1 1 1 (trimL [ev φ g]) hgap (by show 1 < 2; decide) (by omega) hg (lphi_bd q.b) (by omega) (by omega) (bd_one _ (by decide)) (bd_one _ (by decide)) (by rw [Int.one_pow, Int.mul_one]) (by decide) (bd_one _ (by decide)) (fun _ => by rw [Int.one_pow]; exact ⟨by decide, bd_one _ (by decide)⟩) (by rw [hr0, map_fdiv_one]) ?_ ?_ fun hr => ?_
  · show (if (g.length - 1) % 2 = 1 ∧ (2 - 1) % 2 = 1 then _ else _) = _
    by_cases h : (g.length - 1) % 2 = 1
    · rw [if_pos ⟨h, rfl⟩, if_pos h]; rfl
    · rw [if_neg (fun x => h x.1), if_neg h]
  · rw [hlead, Int.one_pow, Int.one_pow]
    split <;> rfl
  · rw [hlead]
    have hr2 : BdL (K + (gap + 1) * (1 + 1) + 1) [ev φ g] := by
      refine BdL.of_co fun i => ?_
      rw [← co_trim]
      exact hr.cof i
    exact la (K := K + (gap + 1) * (1 + 1) + 1) (by omega) (bdl_head hr2)

end
section
theorem bd_trim {K : Nat} {l : List Int} (h : BdL K (trimL l)) : BdL K l := BdL.of_co fun i => by rw [← co_trim]; exact h.cof i
theorem pow_one' (x : Int) : x ^ 1 = x := by rw [Int.pow_succ, Int.pow_zero, Int.one_mul]
noncomputable def a20 (p q w : Int) : Int := p*p*w - p*q*q + p*q*w - p*w*w + w*w*w
noncomputable def a21 (p q w : Int) : Int := 2*p*q*w - p*w*w - q*q*q + q*q*w - q*w*w + w*w*w
noncomputable def a30 (b0 b1 b2 b3 : Int) : Int := b0*b2 - b0*b3 + b3*b3
noncomputable def a31 (b0 b1 b2 b3 : Int) : Int := 0 - b0*b3 + b1*b2 - b1*b3 + b3*b3
noncomputable def a32 (b0 b1 b2 b3 : Int) : Int := 0 - b1*b3 + b2*b2 - b2*b3 + b3*b3
noncomputable def k30 (b0 b1 b2 b3 : Int) : Int := 0 - b0*b0*b2 + b0*b0*b3 + b0*b1*b1 - b0*b1*b2 - b0*b1*b3 + b0*b2*b2 - b0*b3*b3 + 2*b1*b2*b3 - b1*b3*b3 - b2*b2*b2 + b2*b2*b3 - b2*b3*b3 + b3*b3*b3
noncomputable def k31 (b0 b1 b2 b3 : Int) : Int := b0*b0*b3 - 2*b0*b1*b2 + b0*b1*b3 + b0*b2*b2 - b0*b2*b3 - b0*b3*b3 + b1*b1*b1 - b1*b1*b2 - b1*b1*b3 + b1*b2*b2 + 2*b1*b2*b3 - b2*b2*b2
theorem i2 (p q w : Int) : p * (a21 p q w * a21 p q w) - q * (a20 p q w * a21 p q w) + w * (a20 p q w * a20 p q w) = w * w * w * n5 p q w 0 := by
  unfold a20 a21 n5 u5 v5; grind
theorem i3 (b0 b1 b2 b3 : Int) : a30 b0 b1 b2 b3 * (k31 b0 b1 b2 b3 * k31 b0 b1 b2 b3) - a31 b0 b1 b2 b3 * (k30 b0 b1 b2 b3 * k31 b0 b1 b2 b3) + a32 b0 b1 b2 b3 * (k30 b0 b1 b2 b3 * k30 b0 b1 b2 b3) = a32 b0 b1 b2 b3 * a32 b0 b1 b2 b3 * n5 b0 b1 b2 b3 := by
  unfold a30 a31 a32 k30 k31 n5 u5 v5; grind
theorem i4 (b0 b1 b2 b3 e0 e1 e2 : Int) (h0 : e0 = a30 b0 b1 b2 b3) (h1 : e1 = a31 b0 b1 b2 b3) (h2 : e2 = a32 b0 b1 b2 b3) :
    (0 - b0*b3*e1*e1*e1 + b1*b3*e0*e1*e1 - b2*b3*e0*e0*e1 + b3*b3*e0*e0*e0) + e2 * (b0*b0*e2*e2 - b0*b1*e1*e2 - 2*b0*b2*e0*e2 + b0*b2*e1*e1 + 3*b0*b3*e0*e1 + b1*b1*e0*e2 - b1*b2*e0*e1 - 2*b1*b3*e0*e0 + b2*b2*e0*e0) = b3*b3*b3*b3 * n5 b0 b1 b2 b3 := by
  subst h0 h1 h2; unfold a30 a31 a32 n5 u5 v5; grind

end
section
theorem mul_cancel {a b c : Int} (ha : a ≠ 0) (h : a * b = a * c) : b = c := Int.eq_of_mul_eq_mul_left ha h
theorem fdiv_of {a b c : Int} (hb : b ≠ 0) (h : a = b * c) : a.fdiv b = c := by rw [h, Int.mul_comm]; exact Int.mul_fdiv_cancel c hb
theorem sq_eq (x : Int) : x ^ 2 = x * x := by rw [Int.pow_succ, pow_one']
theorem cube_eq (x : Int) : x ^ 3 = x * x * x := by rw [Int.pow_succ, sq_eq]
theorem f2 {p q w : Int} {K f : Nat} (hK : K ≤ 251) (hb : BdL K [p, q, w]) (hw : w ≠ 0) (hr : BdL 1100 [a20 p q w, a21 p q w])   : RrOk (f + 3) [p, q, w] (trimL [a20 p q w, a21 p q w]) 1 w (w ^ 2) (n5 p q w 0) := by
  have hwb := hb w (by simp)
  have hw2 : w ^ 2 ≠ 0 := pow_ne hw 2
  have hid := i2 p q w
  generalize a20 p q w = e0 at *
  generalize a21 p q w = e1 at *
  generalize n5 p q w 0 = N at *
  have he0 := hr e0 (by simp)
  have he1 := hr e1 (by simp)
  rw [trim2]
  split
  · rename_i h
    rw [h, Int.mul_zero, Int.mul_zero, Int.mul_zero, Int.mul_zero, Int.sub_self, Int.zero_add, Int.mul_assoc, Int.mul_assoc] at hid
    have hid := mul_cancel hw hid
    rw [trim1]
    split
    · rename_i h0
      rw [h0, Int.mul_zero, ← Int.mul_assoc] at hid
      have : N = 0 := (Int.mul_eq_zero.mp hid.symm).resolve_left (Int.mul_ne_zero hw hw)
      rw [this]
      exact rr_zero _ _ _ _ _
    · refine rr_end 2 rfl (by decide) (by show 3 ≤ 20; decide) (he0.mono (by omega)) (bd_pow' hwb 2 _ (by omega)) (bd_one _ (by decide)) ⟨pow_ne hw2 _, bd_pow' (bd_pow hwb 2) _ _ (by omega)⟩ ?_
      rw [Int.one_mul, pow_one']
      exact fdiv_of hw2 (by rw [sq_eq, sq_eq, hid, Int.mul_assoc])
  · rename_i h
    have hd0 : w * (w ^ 2) ^ 1 ≠ 0 := Int.mul_ne_zero hw (pow_ne hw2 1)
    refine rr_step 1 K 1100 (w * (w ^ 2) ^ 1) (e1.fdiv 1) 1 (trimL [N]) rfl (by show 1 < 2; decide) (by show 3 ≤ 20; decide) hb hr (by omega) (by omega) (hwb.mono (by omega)) (bd_pow' hwb 2 _ (by omega)) rfl hd0 ((hwb.mul (bd_pow (bd_pow hwb 2) 1)).mono (by omega)) (fun _ => pow0_ok _) ?_ (by simp) ?_ fun hr2 => ?_
    · refine rest_eq (trim_last3 hw) (trim_last2 h) (by simp) (by show 2 ≤ 3; decide) hd0 ?_
      unfold scaleL
      rw [if_pos hd0]
      show [_] = [_]
      congr 1
      simp [prStep, co, List.range_succ, leadL]
      rw [pow_one', sq_eq]
      grind
    · show (e1 ^ 1).fdiv ((w ^ 2) ^ 0) = _
      rw [pow_one', Int.pow_zero]
    · rw [Int.fdiv_one]
      exact rr_fin1 rfl ((bdl_head (bd_trim hr2)).mono (by omega)) (he1.mono (by omega)) (bd_one _ (by decide)) (Int.one_mul _)
theorem f3 {b0 b1 b2 b3 : Int} {K f : Nat} (hK : K ≤ 251) (hb : BdL K [b0, b1, b2, b3]) (hw : b3 ≠ 0) (hr : BdL 800 [a30 b0 b1 b2 b3, a31 b0 b1 b2 b3, a32 b0 b1 b2 b3]) :
    RrOk (f + 4) [b0, b1, b2, b3] (trimL [a30 b0 b1 b2 b3, a31 b0 b1 b2 b3, a32 b0 b1 b2 b3]) 1 b3 b3 (n5 b0 b1 b2 b3) := by
  have hwb := hb b3 (by simp)
  have hid := i4 b0 b1 b2 b3 _ _ _ rfl rfl rfl
  have hid3 := i3 b0 b1 b2 b3
  have hdk0 : prU [a30 b0 b1 b2 b3, a31 b0 b1 b2 b3, a32 b0 b1 b2 b3] (a32 b0 b1 b2 b3) 2 [b0, b1, b2, b3] = [(b3 * b3) * k30 b0 b1 b2 b3, (b3 * b3) * k31 b0 b1 b2 b3] := by
    show [_, _] = [_, _]
    simp [prStep, co, List.range_succ]
    unfold a30 a31 a32 k30 k31
    constructor <;> grind
  generalize a30 b0 b1 b2 b3 = e0 at *
  generalize a31 b0 b1 b2 b3 = e1 at *
  generalize a32 b0 b1 b2 b3 = e2 at *
  generalize k30 b0 b1 b2 b3 = k0 at *
  generalize k31 b0 b1 b2 b3 = k1 at *
  generalize n5 b0 b1 b2 b3 = N at *
  have he0 := hr e0 (by simp)
  have he1 := hr e1 (by simp)
  have he2 := hr e2 (by simp)
  rw [trim3]
  split
  · rename_i h
    subst h
    have hid : b3 * (b3 * (e0 * e0 * e0) - b2 * (e0 * e0 * e1) + b1 * (e0 * e1 * e1) - b0 * (e1 * e1 * e1)) = b3 * (b3 * b3 * b3 * N) := by grind
    have hid := mul_cancel hw hid
    rw [trim2]
    split
    · rename_i h
      subst h
      have hid : b3 * (e0 * e0 * e0) = b3 * (b3 * b3 * N) := by grind
      have hid := mul_cancel hw hid
      rw [trim1]
      split
      · rename_i h
        subst h
        have : N = 0 := by
          have h0 : b3 * b3 * N = 0 := by rw [← hid]; rfl
          exact (Int.mul_eq_zero.mp h0).resolve_left (Int.mul_ne_zero hw hw)
        rw [this]
        exact rr_zero _ _ _ _ _
      · refine rr_end 3 rfl (by decide) (by show 4 ≤ 20; decide) (he0.mono (by omega)) (hwb.mono (by omega)) (bd_one _ (by decide)) ⟨pow_ne hw _, bd_pow' hwb _ _ (by omega)⟩ ?_
        rw [Int.one_mul]
        exact fdiv_of (pow_ne hw _) (by rw [cube_eq, hid]; rw [show b3 ^ (3 - 1) = b3 * b3 from sq_eq b3])
    · rename_i h
      have hd0 : b3 * b3 ^ 2 ≠ 0 := Int.mul_ne_zero hw (pow_ne hw 2)
      refine rr_step 2 K 800 (b3 * b3 ^ 2) ((e1 ^ 2).fdiv (b3 ^ 1)) (-1) (trimL [-N]) rfl (by show 1 < 2; decide) (by show 4 ≤ 20; decide) hb (bdl_two he0 he1) (by omega) (by omega) (hwb.mono (by omega)) (hwb.mono (by omega)) rfl hd0 ((hwb.mul (bd_pow hwb 2)).mono (by omega)) (fun _ => ⟨pow_ne hw _, bd_pow' hwb _ _ (by omega)⟩) ?_ (by simp) rfl fun hr2 => ?_
      · refine rest_eq (trim_last4 hw) (trim_last2 h) (by simp) (by show 2 ≤ 4; decide) hd0 ?_
        unfold scaleL
        rw [if_pos hd0]
        show [_] = [_]
        congr 1
        simp [prStep, co, List.range_succ, leadL]
        rw [sq_eq]
        grind
      · exact rr_fin1 rfl ((bdl_head (bd_trim hr2)).mono (by omega)) ((bd_fdiv (bd_pow he1 2)).mono (by omega)) (bd_m1 _ (by decide)) (by omega)
  · rename_i h
    have hd0 : b3 * b3 ^ 1 ≠ 0 := Int.mul_ne_zero hw (pow_ne hw 1)
    refine rr_step 1 K 800 (b3 * b3 ^ 1) e2 1 (trimL [k0, k1]) rfl (by show 1 < 3; decide) (by show 4 ≤ 20; decide) hb hr (by omega) (by omega) (hwb.mono (by omega)) (hwb.mono (by omega)) rfl hd0 ((hwb.mul (bd_pow hwb 1)).mono (by omega)) (fun _ => pow0_ok _) ?_ (by simp) ?_ fun hr2 => ?_
    · refine rest_eq (trim_last4 hw) (trim_last3 h) (by simp) (by show 3 ≤ 4; decide) hd0 ?_
      unfold scaleL
      rw [if_pos hd0, pow_one']
      show prU [e0, e1, e2] e2 2 [b0, b1, b2, b3] = [k0 * (b3 * b3), k1 * (b3 * b3)]
      rw [hdk0, Int.mul_comm k0, Int.mul_comm k1]
    · show (e2 ^ 1).fdiv (b3 ^ 0) = _
      rw [pow_one', Int.pow_zero, Int.fdiv_one]
    · show RrOk (f + 3) [e0, e1, e2] _ 1 e2 e2 _
      have hk := bd_trim hr2
      have hk0 : Bd 1900 k0 := (hk k0 (by simp)).mono (by omega)
      have hk1 : Bd 1900 k1 := (hk k1 (by simp)).mono (by omega)
      rw [trim2]
      split
      · rename_i h1
        subst h1
        have hid3 : e2 * (k0 * k0) = e2 * (e2 * N) := by grind
        have hid3 := mul_cancel h hid3
        rw [trim1]
        split
        · rename_i h1
          subst h1
          have : N = 0 := by
            have h0 : e2 * N = 0 := by rw [← hid3]; rfl
            exact (Int.mul_eq_zero.mp h0).resolve_left h
          rw [this]
          exact rr_zero _ _ _ _ _
        · refine rr_end 2 rfl (by decide) (by show 3 ≤ 20; decide) (hk0.mono (by omega)) (he2.mono (by omega)) (bd_one _ (by decide)) ⟨pow_ne h _, bd_pow' he2 _ _ (by omega)⟩ ?_
          rw [Int.one_mul]
          exact fdiv_of (pow_ne h _) (by rw [sq_eq, hid3, show e2 ^ (2 - 1) = e2 from pow_one' e2])
      · rename_i h1
        have hd0 : e2 * e2 ^ 1 ≠ 0 := Int.mul_ne_zero h (pow_ne h 1)
        refine rr_step 1 800 1900 (e2 * e2 ^ 1) k1 1 (trimL [N]) rfl (by show 1 < 2; decide) (by show 3 ≤ 20; decide) hr (bdl_two hk0 hk1) (by omega) (by omega) (he2.mono (by omega)) (he2.mono (by omega)) rfl hd0 ((he2.mul (bd_pow he2 1)).mono (by omega)) (fun _ => pow0_ok _) ?_ (by simp) ?_ fun hr2 => ?_
        · refine rest_eq (trim_last3 h) (trim_last2 h1) (by simp) (by show 2 ≤ 3; decide) hd0 ?_
          unfold scaleL
          rw [if_pos hd0]
          show [_] = [_]
          congr 1
          simp [prStep, co, List.range_succ, leadL]
          rw [pow_one']
          grind
        · show (k1 ^ 1).fdiv (e2 ^ 0) = _
          rw [pow_one', Int.pow_zero, Int.fdiv_one]
        · exact rr_fin1 rfl ((bdl_head (bd_trim hr2)).mono (by omega)) (hk1.mono (by omega)) (bd_one _ (by decide)) (Int.one_mul _)

end
section
theorem five {y g c0 c1 c2 c3 : Int} (hy : y ≠ 0) (hA : BdL 250 [y - g * c0, y - g * c1, y - g * c2, y - g * c3, y]) (hc : BdL 251 [c0, c1, c2, c3]) :
    RrOk 5 [y - g * c0, y - g * c1, y - g * c2, y - g * c3, y] (trimL [c0, c1, c2, c3]) 1 y 1 (n5 c0 c1 c2 c3) := by
  have hyb := hA y (by simp)
  have one : ∀ n, (1 : Int) ^ n ≠ 0 ∧ Bd 8999 ((1 : Int) ^ n) := fun n => by rw [Int.one_pow]; exact ⟨by decide, bd_one _ (by decide)⟩
  have h0b := hc c0 (by simp)
  have h1b := hc c1 (by simp)
  have h2b := hc c2 (by simp)
  have h3b := hc c3 (by simp)
  rw [trim4]
  split
  · rename_i h
    subst h
    rw [trim3]
    split
    · rename_i h
      subst h
      rw [trim2]
      split
      · rename_i h
        subst h
        have e : n5 c0 0 0 0 = c0 * c0 * c0 * c0 := by unfold n5 u5 v5; grind
        rw [trim1, e]
        split
        · rename_i h
          subst h
          exact rr_zero _ _ _ _ _
        · refine rr_end 4 rfl (by decide) (by show 5 ≤ 20; decide) (h0b.mono (by decide)) (bd_one _ (by decide)) (bd_one _ (by decide)) (one _) ?_
          rw [Int.one_pow, Int.fdiv_one, Int.one_mul, Int.pow_succ, cube_eq]
      · rename_i h
        refine rr_step 3 250 251 y ((c1 ^ 3).fdiv 1) 1 (trimL [n5 c0 c1 0 0]) rfl (by show 1 < 2; decide) (by show 5 ≤ 20; decide) hA (bdl_two h0b h1b) (by decide) (by decide) (hyb.mono (by decide)) (bd_one _ (by decide)) (by rw [Int.one_pow, Int.mul_one]) hy (hyb.mono (by decide)) (fun _ => one _) ?_ (by simp) (by rw [Int.one_pow]; rfl) fun hr => ?_
        · refine rest_eq (trim_last5 hy) (trim_last2 h) (by simp) (by show 2 ≤ 5; decide) hy ?_
          unfold scaleL
          rw [if_pos hy]
          show [_] = [_]
          congr 1
          simp [prStep, co, List.range_succ, leadL]
          unfold n5 u5 v5
          grind
        · rw [Int.fdiv_one]
          exact rr_fin1 rfl ((bdl_head (bd_trim hr)).mono (by decide)) (bd_pow' h1b 3 _ (by decide)) (bd_one _ (by decide)) (Int.one_mul _)
    · rename_i h
      refine rr_step 2 250 251 y ((c2 ^ 2).fdiv 1) 1 (trimL [a20 c0 c1 c2, a21 c0 c1 c2]) rfl (by show 1 < 3; decide) (by show 5 ≤ 20; decide) hA (fun x hx => hc x (by simp only [List.mem_cons, List.not_mem_nil, or_false] at hx ⊢; rcases hx with h | h | h <;> simp [h])) (by decide) (by decide) (hyb.mono (by decide)) (bd_one _ (by decide)) (by rw [Int.one_pow, Int.mul_one]) hy (hyb.mono (by decide)) (fun _ => one _) ?_ (by simp) (by rw [Int.one_pow]; rfl) fun hr => ?_
      · refine rest_eq (trim_last5 hy) (trim_last3 h) (by simp) (by show 3 ≤ 5; decide) hy ?_
        unfold scaleL
        rw [if_pos hy]
        show [_, _] = [_, _]
        simp [prStep, co, List.range_succ, leadL]
        unfold a20 a21
        constructor <;> grind
      · rw [Int.fdiv_one]
        exact f2 (K := 251) (by decide) (fun x hx => hc x (by simp only [List.mem_cons, List.not_mem_nil, or_false] at hx ⊢; rcases hx with h | h | h <;> simp [h])) h ((bd_trim hr).mono (by decide))
  · rename_i h
    refine rr_step 1 250 251 y c3 1 (trimL [a30 c0 c1 c2 c3, a31 c0 c1 c2 c3, a32 c0 c1 c2 c3]) rfl (by show 1 < 4; decide) (by show 5 ≤ 20; decide) hA hc (by decide) (by decide) (hyb.mono (by decide)) (bd_one _ (by decide)) (by rw [Int.one_pow, Int.mul_one]) hy (hyb.mono (by decide)) (fun _ => one _) ?_ (by simp) ?_ fun hr => ?_
    · refine rest_eq (trim_last5 hy) (trim_last4 h) (by simp) (by show 4 ≤ 5; decide) hy ?_
      unfold scaleL
      rw [if_pos hy]
      show [_, _, _] = [_, _, _]
      simp [prStep, co, List.range_succ, leadL]
      unfold a30 a31 a32
      refine ⟨?_, ?_, ?_⟩ <;> grind
    · show (c3 ^ 1).fdiv (1 ^ 0) = _
      rw [pow_one', Int.pow_zero, Int.fdiv_one]
    · exact f3 (K := 251) (by decide) hc h ((bd_trim hr).mono (by decide))
theorem five_low {c0 c1 c2 c3 : Int} (hc : BdL 249 [c0, c1, c2, c3]) : RrOk 5 [1, 1, 1, 1, 1] (trimL [c0, c1, c2, c3]) 1 1 1 (n5 c0 c1 c2 c3) := by
  have h := five (y := 1) (g := 0) (c0 := c0) (c1 := c1) (c2 := c2) (c3 := c3) (by decide) (by simp only [Int.zero_mul, Int.sub_zero]; intro x hx; simp at hx; rw [hx]; exact bd_one _ (by decide)) (hc.mono (by decide))
  simp only [Int.zero_mul, Int.sub_zero] at h
  exact h
theorem five_high {b0 b1 b2 b3 y : Int} (hb : BdL 249 [b0, b1, b2, b3, y]) (hy : y ≠ 0) : RrOk 6 [1, 1, 1, 1, 1] [b0, b1, b2, b3, y] 1 1 1 (n5 (b0 - y) (b1 - y) (b2 - y) (b3 - y)) := by
  have hyb := hb y (by simp)
  have hc : BdL 251 [y - b0, y - b1, y - b2, y - b3] := by
    have h : ∀ x ∈ [b0, b1, b2, b3, y], Bd 251 (y - x) := fun x hx => (Bd.sub hyb (hb x hx)).mono (by decide)
    intro x hx
    simp only [List.mem_cons, List.not_mem_nil, or_false] at hx
    rcases hx with rfl | rfl | rfl | rfl <;> exact h _ (by simp)
  have h := five (y := y) (g := 1) hy (c0 := y - b0) (c1 := y - b1) (c2 := y - b2) (c3 := y - b3) (by
    simp only [Int.one_mul, Int.sub_sub_self]; exact hb.mono (by decide)) hc
  simp only [Int.one_mul, Int.sub_sub_self] at h
  have e : n5 (b0 - y) (b1 - y) (b2 - y) (b3 - y) = n5 (y - b0) (y - b1) (y - b2) (y - b3) := by unfold n5 u5 v5; grind
  rw [e]
  refine rr_step 0 1 249 1 1 1 (trimL [y - b0, y - b1, y - b2, y - b3]) rfl (by show 1 < 5; decide) (by decide) ?_ hb (by decide) (by decide) (bd_one _ (by decide)) (bd_one _ (by decide)) rfl (by decide) (bd_one _ (by decide)) (fun h => absurd h (by decide)) ?_ (by simp) rfl fun hr => h
  · intro x hx
    simp at hx
    rw [hx]; exact bd_one _ (by decide)
  · refine rest_eq (trim_last5 (by decide)) (trim_last5 hy) (by simp) (by show 5 ≤ 5; decide) (by decide) ?_
    rw [leadL_one_scale]
    show [_, _, _, _] = [_, _, _, _]
    simp [co, leadL]

end
section
theorem ev1 (φ : Nat → Int) (a : Int) : ev φ [a] = a * φ 0 := by rw [ev_cons, ev_nil, Int.add_zero]
theorem ev2 (φ : Nat → Int) (a b : Int) : ev φ [a, b] = a * φ 0 + b * φ 1 := by rw [ev_cons, ev1]
theorem ev3 (φ : Nat → Int) (a b c : Int) : ev φ [a, b, c] = a * φ 0 + (b * φ 1 + c * φ 2) := by rw [ev_cons, ev2]
theorem ev4 (φ : Nat → Int) (a b c d : Int) : ev φ [a, b, c, d] = a * φ 0 + (b * φ 1 + (c * φ 2 + d * φ 3)) := by rw [ev_cons, ev3]
theorem ev5 (φ : Nat → Int) (a b c d e : Int) : ev φ [a, b, c, d, e] = a * φ 0 + (b * φ 1 + (c * φ 2 + (d * φ 3 + e * φ 4))) := by rw [ev_cons, ev4]
noncomputable def Row (Φ g : List Int) (N : Int) : Prop := (g.length ≤ Φ.length → ∃ fu, RrOk fu Φ g 1 1 1 N) ∧ (Φ.length < g.length → ∃ fu, RrOk fu g Φ (sgOf g Φ) 1 1 N)
theorem trim_one {c : Int} (h : c ≠ 0) : trimL [c] = [c] := trim_snoc [] h
theorem sg_of (g Φ : List Int) (h : 1 ≤ g.length) (h2 : 1 ≤ Φ.length) : sgOf g Φ = if (g.length - 1) % 2 = 1 ∧ (Φ.length - 1) % 2 = 1 then -1 else 1 := by
  unfold sgOf
  rw [Int.fmod_eq_emod_of_nonneg _ (by decide), Int.fmod_eq_emod_of_nonneg _ (by decide)]
  by_cases h3 : (g.length - 1) % 2 = 1 ∧ (Φ.length - 1) % 2 = 1
  · rw [if_pos h3, if_pos (by omega)]
  · rw [if_neg h3, if_neg (by omega)]
theorem row_lin {t : Nat} {ε : Int} {φ : Nat → Int} (q : Lin t ε φ) {g : List Int} (hg : BdL 200 g) (ht : Trim g) (hne : g ≠ []) (h6 : g.length ≤ 6) : Row [-ε, 1] g (ev φ g) := by
  match g, hne with
  | [c], _ =>
    have hc : c ≠ 0 := ht.lead (by simp)
    refine ⟨fun _ => ⟨1, ?_⟩, fun h => absurd h (by show ¬ 2 < 1; decide)⟩
    have := la (ε := ε) (K := 200) (by decide) (hg c (by simp)) (f := 0)
    rw [trim_one hc] at this
    rw [ev1, q.z, Int.mul_one]
    exact this
  | [a, b], _ =>
    refine ⟨fun _ => ⟨2, ?_⟩, fun h => absurd h (by show ¬ 2 < 2; decide)⟩
    rw [ev2, q.z, q.e, Int.mul_one, Int.mul_comm b]
    exact la_two q.b (by decide) hg (ht.lead (by simp))
  | a :: b :: c :: l, _ =>
    refine ⟨fun h => absurd h (by show ¬ _ + 1 + 1 + 1 ≤ 2; omega), fun _ => ⟨2, ?_⟩⟩
    have := lin_long q (by decide) hg ht (by show 3 ≤ l.length + 1 + 1 + 1; omega) h6
    rw [sg_of _ _ (by show 1 ≤ l.length + 1 + 1 + 1; omega) (by show 1 ≤ 2; decide)]
    by_cases h : ((a :: b :: c :: l).length - 1) % 2 = 1
    · rw [if_pos ⟨h, rfl⟩]
      rw [if_pos h] at this; exact this
    · rw [if_neg (fun x => h x.1)]
      rw [if_neg h] at this; exact this
theorem row_quad {t : Nat} {s : Int} {α β : Nat → Int} (q : Quad t s α β) (a0 : α 0 = 1) (a1 : α 1 = 0) (b0 : β 0 = 0) (b1 : β 1 = 1) (hs : Bd 1 s) {g : List Int} (hg : BdL 200 g) (ht : Trim g) (hne : g ≠ []) (h6 : g.length ≤ 6) :
    Row [1, s, 1] g (qn s (ev α g) (ev β g)) := by
  have a2 : α 2 = -1 := by have := q.ra 1 1; rw [a1, b1] at this; rw [show (2 : Nat) = 1 + 1 from rfl, this]; rfl
  have b2 : β 2 = -s := by have := q.rb 1 1; rw [a1, b1] at this; rw [show (2 : Nat) = 1 + 1 from rfl, this]; omega
  match g, hne with
  | [c], _ =>
    have hc : c ≠ 0 := ht.lead (by simp)
    refine ⟨fun _ => ⟨2, ?_⟩, fun h => absurd h (by show ¬ 3 < 1; decide)⟩
    have := qa (K := 200) hs (by decide) (hg c (by simp)) (Bd.zero 200)
    rw [trim2, if_pos rfl, trim_one hc] at this
    rw [ev1, ev1, a0, b0, Int.mul_one, Int.mul_zero]
    exact this
  | [a, b], _ =>
    have hc : b ≠ 0 := ht.lead (by simp)
    refine ⟨fun _ => ⟨2, ?_⟩, fun h => absurd h (by show ¬ 3 < 2; decide)⟩
    have := qa (K := 200) hs (by decide) (hg a (by simp)) (hg b (by simp))
    rw [trim2, if_neg hc] at this
    rw [ev2, ev2, a0, b0, a1, b1, Int.mul_one, Int.mul_zero, Int.mul_zero, Int.mul_one, Int.add_zero, Int.zero_add]
    exact this
  | [a, b, c], _ =>
    have hc : c ≠ 0 := ht.lead (by simp)
    refine ⟨fun _ => ⟨3, ?_⟩, fun h => absurd h (by show ¬ 3 < 3; decide)⟩
    have := qa_three (K := 200) hs (by decide) hg hc
    rw [ev3, ev3, a0, b0, a1, b1, a2, b2]
    have e1 : a * 1 + (b * 0 + c * -1) = a - c := by omega
    have e2 : a * 0 + (b * 1 + c * -s) = b - s * c := by grind
    rw [e1, e2]
    exact this
  | a :: b :: c :: d :: l, _ =>
    refine ⟨fun h => absurd h (by show ¬ _ + 1 + 1 + 1 + 1 ≤ 3; omega), fun _ => ⟨3, ?_⟩⟩
    have := qn_long q a0 a1 b0 b1 (K := 200) hs (by decide) hg ht (by show 4 ≤ l.length + 1 + 1 + 1 + 1; omega) h6
    rw [sg_of _ _ (by show 1 ≤ l.length + 1 + 1 + 1 + 1; omega) (by show 1 ≤ 3; decide), if_neg (fun x => absurd x.2 (by show ¬ (3 - 1) % 2 = 1; decide))]
    exact this
theorem row_five {g : List Int} (hg : BdL 200 g) (ht : Trim g) (hne : g ≠ []) (h5 : g.length ≤ 5) : Row [1, 1, 1, 1, 1] g (n5 (e5 0 g) (e5 1 g) (e5 2 g) (e5 3 g)) := by
  have v : tab (G5 0) 0 = 1 ∧ tab (G5 0) 1 = 0 ∧ tab (G5 0) 2 = 0 ∧ tab (G5 0) 3 = 0 ∧ tab (G5 0) 4 = -1 ∧ tab (G5 1) 0 = 0 ∧ tab (G5 1) 1 = 1 ∧ tab (G5 1) 2 = 0 ∧ tab (G5 1) 3 = 0 ∧ tab (G5 1) 4 = -1 ∧
      tab (G5 2) 0 = 0 ∧ tab (G5 2) 1 = 0 ∧ tab (G5 2) 2 = 1 ∧ tab (G5 2) 3 = 0 ∧ tab (G5 2) 4 = -1 ∧ tab (G5 3) 0 = 0 ∧ tab (G5 3) 1 = 0 ∧ tab (G5 3) 2 = 0 ∧ tab (G5 3) 3 = 1 ∧ tab (G5 3) 4 = -1 := by decide +kernel
  have low : ∀ c0 c1 c2 c3 : Int, BdL 200 [c0, c1, c2, c3] → ∀ l, trimL [c0, c1, c2, c3] = l → (l.length ≤ 5 → ∃ fu, RrOk fu [1, 1, 1, 1, 1] l 1 1 1 (n5 c0 c1 c2 c3)) := fun c0 c1 c2 c3 h l e _ => ⟨5, by rw [← e]; exact five_low (h.mono (by decide))⟩
  have z : Bd 200 0 := Bd.zero 200
  refine ⟨?_, fun h => absurd h (by show ¬ 5 < _; omega)⟩
  unfold e5
  match g, hne with
  | [a], _ =>
    have hc : a ≠ 0 := ht.lead (by simp)
    simp only [ev1, v, Int.mul_one, Int.mul_zero]
    refine low _ _ _ _ ?_ _ (by rw [trim4, if_pos rfl, trim3, if_pos rfl, trim2, if_pos rfl, trim_one hc])
    intro x hx
    simp only [List.mem_cons, List.not_mem_nil, or_false] at hx
    rcases hx with rfl | rfl | rfl | rfl <;> first | exact z | exact hg _ (by simp)
  | [a, b], _ =>
    have hc : b ≠ 0 := ht.lead (by simp)
    simp only [ev2, v, Int.mul_one, Int.mul_zero, Int.add_zero, Int.zero_add]
    refine low _ _ _ _ ?_ _ (by rw [trim4, if_pos rfl, trim3, if_pos rfl, trim2, if_neg hc])
    intro x hx
    simp only [List.mem_cons, List.not_mem_nil, or_false] at hx
    rcases hx with rfl | rfl | rfl | rfl <;> first | exact z | exact hg _ (by simp)
  | [a, b, c], _ =>
    have hc : c ≠ 0 := ht.lead (by simp)
    simp only [ev3, v, Int.mul_one, Int.mul_zero, Int.add_zero, Int.zero_add]
    refine low _ _ _ _ ?_ _ (by rw [trim4, if_pos rfl, trim3, if_neg hc])
    intro x hx
    simp only [List.mem_cons, List.not_mem_nil, or_false] at hx
    rcases hx with rfl | rfl | rfl | rfl <;> first | exact z | exact hg _ (by simp)
  | [a, b, c, d], _ =>
    have hc : d ≠ 0 := ht.lead (by simp)
    simp only [ev4, v, Int.mul_one, Int.mul_zero, Int.add_zero, Int.zero_add]
    exact low _ _ _ _ hg _ (by rw [trim4, if_neg hc])
  | [a, b, c, d, e], _ =>
    have hc : e ≠ 0 := ht.lead (by simp)
    intro _
    refine ⟨6, ?_⟩
    have := five_high (hg.mono (by decide)) hc
    rw [ev5, ev5, ev5, ev5]
    simp only [v]
    have h0 : a * 1 + (b * 0 + (c * 0 + (d * 0 + e * -1))) = a - e := by omega
    have h1 : a * 0 + (b * 1 + (c * 0 + (d * 0 + e * -1))) = b - e := by omega
    have h2 : a * 0 + (b * 0 + (c * 1 + (d * 0 + e * -1))) = c - e := by omega
    have h3 : a * 0 + (b * 0 + (c * 0 + (d * 1 + e * -1))) = d - e := by omega
    rw [h0, h1, h2, h3]
    exact this
  | a :: b :: c :: d :: e :: f :: l, _ => exact absurd h5 (by show ¬ _ + 1 + 1 + 1 + 1 + 1 + 1 ≤ 5; omega)

end
section
/-- the resultant of the polynomial of the roots of just order t with a row -/
noncomputable def Nt (t : Nat) (g : List Int) : Int := if t = 1 ∨ t = 2 then ev (tab (T1 t)) g else if t = 5 then n5 (e5 0 g) (e5 1 g) (e5 2 g) (e5 3 g) else qn (sq t) (ev (tab (Ta t)) g) (ev (tab (Tb t)) g)
theorem Nt_mul {t : Nat} (h1 : 1 ≤ t) (h6 : t ≤ 6) (a b : List Int) : Nt t (mulL a b) = Nt t a * Nt t b := by
  unfold Nt
  by_cases c1 : t = 1 ∨ t = 2
  · rw [if_pos c1, if_pos c1, if_pos c1]
    exact (lin_at t c1).mul a b
  rw [if_neg c1, if_neg c1, if_neg c1]
  by_cases c2 : t = 5
  · rw [if_pos c2, if_pos c2, if_pos c2]
    exact n5_mul a b
  rw [if_neg c2, if_neg c2, if_neg c2]
  exact (quad_at t (by omega)).mul a b
theorem Nt_one {t : Nat} (h1 : 1 ≤ t) (h6 : t ≤ 6) : Nt t [1] = 1 := by
  have fin : ∀ t ≤ 6, 1 ≤ t → Nt t [1] = 1 := by decide +kernel
  exact fin t h6 h1
theorem Nt_nil (t : Nat) : Nt t [] = 0 := by unfold Nt; split; rfl; split; rfl; unfold qn; show 0 * 0 - sq t * (0 * 0) + 0 * 0 = 0; simp
/-- rows with the same sums have the same resultants -/
theorem Nt_congr {t : Nat} {a b : List Int} (h1 : 1 ≤ t) (h6 : t ≤ 6) (h : ∀ φ : Nat → Int, (∀ i, φ (t + i) = φ i) → ev φ a = ev φ b) : Nt t a = Nt t b := by
  unfold Nt
  by_cases c1 : t = 1 ∨ t = 2
  · rw [if_pos c1, if_pos c1]
    exact h _ (lin_at t c1).ta
  rw [if_neg c1, if_neg c1]
  by_cases c2 : t = 5
  · subst c2
    rw [if_pos rfl, if_pos rfl]
    unfold e5
    have g : ∀ w, ev (tab (G5 w)) a = ev (tab (G5 w)) b := fun w => h _ fun i => by
      have := tab_turn (G5 w) i
      rw [g5_len] at this
      exact this
    rw [g, g, g, g]
  rw [if_neg c2, if_neg c2]
  have q := quad_at t (by omega)
  rw [h _ q.ta, h _ q.tb]
theorem Nt_pow {t : Nat} (h1 : 1 ≤ t) (h6 : t ≤ 6) (z : List Int) (k : Nat) : Nt t (powL z k) = Nt t z ^ k := by
  unfold powL
  rw [pow_hom (Nt t) (Nt_mul h1 h6) k k _ _ (Nat.le_refl _), Nt_one h1 h6, Int.one_mul]
theorem turn_mul {t : Nat} {φ : Nat → Int} (h : ∀ i, φ (t + i) = φ i) : ∀ k i, φ (t * k + i) = φ i
  | 0, i => by rw [Nat.mul_zero, Nat.zero_add]
  | k + 1, i => by rw [Nat.mul_succ, Nat.add_assoc, turn_mul h k, h]
/-- what x^m - 1 leaves has the same resultants -/
theorem Nt_rest {t m : Nat} (h1 : 1 ≤ t) (h6 : t ≤ 6) (hm : 1 ≤ m) (hd : m % t = 0) (W : List Int) : Nt t (pseudoL W (lessL m)).2.1 = Nt t W := by
  obtain ⟨k, rfl⟩ := Nat.dvd_of_mod_eq_zero hd
  exact Nt_congr h1 h6 fun φ h => less_fold hm (turn_mul h k) W
/-- the degree of the polynomial -/
noncomputable def dgt (t : Nat) : Nat := if t = 1 ∨ t = 2 then 1 else if t = 5 then 4 else 2
theorem Nt_scale {t : Nat} (g : List Int) (d : Int) : Nt t (scaleL g d) = d ^ dgt t * Nt t g := by
  unfold Nt dgt
  by_cases c1 : t = 1 ∨ t = 2
  · rw [if_pos c1, if_pos c1, if_pos c1, ev_scale, pow_one']
  rw [if_neg c1, if_neg c1, if_neg c1]
  by_cases c2 : t = 5
  · rw [if_pos c2, if_pos c2, if_pos c2]
    unfold e5
    rw [ev_scale, ev_scale, ev_scale, ev_scale, Int.pow_succ, cube_eq]
    generalize ev (tab (G5 0)) g = A
    generalize ev (tab (G5 1)) g = B
    generalize ev (tab (G5 2)) g = C
    generalize ev (tab (G5 3)) g = D
    unfold n5 u5 v5
    grind
  rw [if_neg c2, if_neg c2, if_neg c2, ev_scale, ev_scale, sq_eq]
  unfold qn
  grind
theorem order_at {t : Nat} (h1 : 1 ≤ t) (h6 : t ≤ 6) : (t = 1 → orderL t = [-1, 1]) ∧ (t = 2 → orderL t = [-(-1), 1]) ∧ (t = 5 → orderL t = [1, 1, 1, 1, 1]) ∧ (t = 3 ∨ t = 4 ∨ t = 6 → orderL t = [1, sq t, 1]) ∧ (orderL t).length = dgt t + 1 ∧ gcdL (orderL t) = 1 ∧ orderL t ≠ [] ∧ (orderL t).all (fun x => decide (x.natAbs < 2)) = true := by
  have f1 : ∀ t ≤ 6, 1 ≤ t → (t = 1 → orderL t = [-1, 1]) ∧ (t = 2 → orderL t = [-(-1), 1]) ∧ (t = 5 → orderL t = [1, 1, 1, 1, 1]) := by decide +kernel
  have f2 : ∀ t ≤ 6, 1 ≤ t → (t = 3 ∨ t = 4 ∨ t = 6 → orderL t = [1, sq t, 1]) ∧ (orderL t).length = dgt t + 1 ∧ gcdL (orderL t) = 1 := by decide +kernel
  have f3 : ∀ t ≤ 6, 1 ≤ t → orderL t ≠ [] ∧ (orderL t).all (fun x => decide (x.natAbs < 2)) = true := by decide +kernel
  obtain ⟨a1, a2, a3⟩ := f1 t h6 h1
  obtain ⟨b1, b2, b3⟩ := f2 t h6 h1
  obtain ⟨c1, c2⟩ := f3 t h6 h1
  exact ⟨a1, a2, a3, b1, b2, b3, c1, c2⟩
theorem row_at {t : Nat} (h1 : 1 ≤ t) (h6 : t ≤ 6) {g : List Int} (hg : BdL 200 g) (ht : Trim g) (hne : g ≠ []) (hl : g.length ≤ 6) (h5 : t = 5 → g.length ≤ 5) : Row (orderL t) g (Nt t g) := by
  obtain ⟨o1, o2, o5, oq, _⟩ := order_at h1 h6
  unfold Nt
  by_cases c1 : t = 1 ∨ t = 2
  · rw [if_pos c1]
    have q := lin_at t c1
    rcases c1 with rfl | rfl
    · rw [o1 rfl]; exact row_lin q hg ht hne hl
    · rw [o2 rfl]; exact row_lin q hg ht hne hl
  rw [if_neg c1]
  by_cases c2 : t = 5
  · subst c2
    rw [if_pos rfl, o5 rfl]
    exact row_five hg ht hne (h5 rfl)
  rw [if_neg c2]
  have c3 : t = 3 ∨ t = 4 ∨ t = 6 := by omega
  rw [oq c3]
  have fin : ∀ t, t = 3 ∨ t = 4 ∨ t = 6 → tab (Ta t) 0 = 1 ∧ tab (Ta t) 1 = 0 ∧ tab (Tb t) 0 = 0 ∧ tab (Tb t) 1 = 1 ∧ (sq t = 1 ∨ sq t = 0 ∨ sq t = -1) := by
    intro t h
    rcases h with rfl | rfl | rfl <;> decide +kernel
  obtain ⟨v0, v1, v2, v3, v4⟩ := fin t c3
  exact row_quad (quad_at t c3) v0 v1 v2 v3 (sgn_bd v4) hg ht hne hl
-- the content
theorem gcd_foldl (l : List Int) : ∀ a : Int, (∃ n : Nat, l.foldl (fun f n => (Int.gcd f n : Int)) a = if l = [] then a else (n : Int)) ∧ l.foldl (fun f n => (Int.gcd f n : Int)) a ∣ a ∧ ∀ x ∈ l, l.foldl (fun f n => (Int.gcd f n : Int)) a ∣ x := by
  induction l with
  | nil => intro a; exact ⟨⟨0, rfl⟩, Int.dvd_refl a, fun _ h => nomatch h⟩
  | cons y l ih =>
    intro a
    obtain ⟨⟨n, i1⟩, i2, i3⟩ := ih (Int.gcd a y : Int)
    rw [List.foldl_cons]
    refine ⟨?_, Int.dvd_trans i2 (Int.gcd_dvd_left ..), fun x hx => ?_⟩
    · rw [i1]
      split
      · exact ⟨Int.gcd a y, by simp⟩
      · exact ⟨n, by simp⟩
    · rcases List.mem_cons.mp hx with rfl | hx
      · exact Int.dvd_trans i2 (Int.gcd_dvd_right ..)
      · exact i3 x hx
theorem gcdL_facts {g : List Int} {K : Nat} (hg : BdL K g) (ht : Trim g) (hne : g ≠ []) : gcdL g ≠ 0 ∧ Bd K (gcdL g) ∧ scaleL (g.map fun x => x.fdiv (gcdL g)) (gcdL g) = g := by
  obtain ⟨-, -, h⟩ := gcd_foldl g 0
  have hd : ∀ x ∈ g, gcdL g ∣ x := h
  have hlead := ht.lead hne
  have hmem : co g (g.length - 1) ∈ g := by
    have hp := List.length_pos_iff.mpr hne
    rw [co_def, List.getElem?_eq_getElem (show g.length - 1 < g.length by omega)]
    exact List.getElem_mem _
  have h0 : gcdL g ≠ 0 := by
    intro e
    have := hd _ hmem
    rw [e] at this
    exact hlead (Int.zero_dvd.mp this)
  refine ⟨h0, ?_, ?_⟩
  · refine (hg _ hmem).of_le ?_
    exact Nat.le_of_dvd (Int.natAbs_pos.mpr hlead) (Int.natAbs_dvd_natAbs.mpr (hd _ hmem))
  · unfold scaleL
    rw [if_pos h0, List.map_map]
    refine (List.map_congr_left fun x hx => ?_).trans (List.map_id _)
    show x.fdiv (gcdL g) * gcdL g = x
    exact Int.fdiv_mul_cancel (hd x hx)
theorem ev_bd {φ : Nat → Int} (h : ∀ i, (φ i).natAbs ≤ 1) {K : Nat} {g : List Int} (hg : BdL K g) (hl : g.length ≤ 8) : Bd (K + 4) (ev φ g) := by
  have : ∀ n, (sumR n (fun i => co g i * φ i)).natAbs ≤ n * 2 ^ K := by
    intro n
    induction n with
    | zero => exact Nat.zero_le _
    | succ n ih =>
      rw [sumR, Nat.add_mul, Nat.one_mul]
      refine Nat.le_trans (Int.natAbs_add_le _ _) (Nat.add_le_add ih ?_)
      rw [Int.natAbs_mul]
      have h1 := Nat.mul_le_mul (Nat.le_of_lt (hg.cof n)) (h n)
      rw [Nat.mul_one] at h1
      exact h1
  unfold Bd
  have h1 := this g.length
  have h2 : g.length * 2 ^ K ≤ 8 * 2 ^ K := Nat.mul_le_mul_right _ hl
  have h3 : 0 < 2 ^ K := Nat.two_pow_pos K
  rw [Nat.pow_add]
  show _ < 2 ^ K * 16
  unfold ev
  omega
theorem tab_abs {T : List Int} (h : T.all (fun x => decide (x.natAbs ≤ 1)) = true) (i : Nat) : (tab T i).natAbs ≤ 1 := by
  unfold tab
  rw [List.getD_eq_getElem?_getD]
  cases q : T[i % T.length]? with
  | none => decide
  | some x =>
    have := List.all_eq_true.mp h x (List.mem_of_getElem? q)
    simpa using this
theorem bd_u5 {K : Nat} {a b c d : Int} (ha : Bd K a) (hb : Bd K b) (hc : Bd K c) (hd : Bd K d) : Bd (2 * K + 5) (u5 a b c d) ∧ Bd (2 * K + 5) (v5 a b c d) := by
  have m : ∀ {x y : Int}, Bd K x → Bd K y → Bd (2 * K) (x * y) := fun hx hy => by rw [Nat.two_mul]; exact hx.mul hy
  have s := (((m ha hc).add (m hb hd)).add ((m ha hd).mono (show 2 * K ≤ 2 * K + 1 by omega)))
  unfold u5 v5
  refine ⟨(Bd.sub (k := 2 * K + 3) ?_ (s.mono (by omega))).mono (by omega), (Bd.sub (k := 2 * K + 3) ?_ (s.mono (by omega))).mono (by omega)⟩
  · exact (((m ha ha).add (m hb hb)).add ((m hc hc).mono (show 2 * K ≤ 2 * K + 1 by omega))).add ((m hd hd).mono (by omega))
  · exact (((m ha hb).add (m hb hc)).add ((m hc hd).mono (show 2 * K ≤ 2 * K + 1 by omega))).mono (by omega)
theorem Nt_bd {t : Nat} (h1 : 1 ≤ t) (h6 : t ≤ 6) {K : Nat} {g : List Int} (hg : BdL K g) (hl : g.length ≤ 8) : Bd (4 * K + 40) (Nt t g) := by
  have fin : ∀ t ≤ 6, (T1 t).all (fun x => decide (x.natAbs ≤ 1)) = true ∧ (Ta t).all (fun x => decide (x.natAbs ≤ 1)) = true ∧ (Tb t).all (fun x => decide (x.natAbs ≤ 1)) = true ∧ (sq t).natAbs < 2 ∧ (G5 t).all (fun x => decide (x.natAbs ≤ 1)) = true := by decide +kernel
  obtain ⟨f1, f2, f3, f4, -⟩ := fin t h6
  unfold Nt
  split
  · exact (ev_bd (tab_abs f1) hg hl).mono (by omega)
  split
  · have e : ∀ w ≤ 6, Bd (K + 4) (e5 w g) := fun w hw => ev_bd (tab_abs (fin w hw).2.2.2.2) hg hl
    obtain ⟨bu, bv⟩ := bd_u5 (e 0 (by decide)) (e 1 (by decide)) (e 2 (by decide)) (e 3 (by decide))
    unfold n5
    exact ((Bd.sub (bu.mul bu) (bu.mul bv)).sub ((bv.mul bv).mono (by omega))).mono (by omega)
  · exact (qn_bd (show Bd 1 (sq t) from f4) (ev_bd (tab_abs f2) hg hl) (ev_bd (tab_abs f3) hg hl)).mono (by omega)
theorem rs_all {t : Nat} (h1 : 1 ≤ t) (h6 : t ≤ 6) {g : List Int} (hg : BdL 200 g) (ht : Trim g) (hl : g.length ≤ 6) (h5 : t = 5 → g.length ≤ 5) : RsAll (orderL t) g (Nt t g) := by
  obtain ⟨-, -, -, -, ol, og, on, ob⟩ := order_at h1 h6
  by_cases hne : g = []
  · subst hne
    exact .inl ⟨.inr rfl, Nt_nil t⟩
  obtain ⟨g0, gb, gs⟩ := gcdL_facts hg ht hne
  have hob : BdL 1 (orderL t) := fun x hx => @of_decide_eq_true (x.natAbs < 2) _ (List.all_eq_true.mp ob x hx)
  have hgl := List.length_pos_iff.mpr hne
  have e1 : ((orderL t).map fun x => x.fdiv (gcdL (orderL t))) = orderL t := by rw [og]; exact map_fdiv_one _
  generalize hg' : (g.map fun x => x.fdiv (gcdL g)) = g' at gs
  have hlen : g'.length = g.length := by rw [← hg', List.length_map]
  have hb' : BdL 200 g' := by
    intro x hx
    rw [← hg'] at hx
    obtain ⟨y, hy, rfl⟩ := List.mem_map.mp hx
    exact bd_fdiv (hg y hy)
  have hne' : g' ≠ [] := by intro e; rw [e] at hlen; exact absurd hlen (by show ¬ 0 = _; omega)
  have ht' : Trim g' := by
    refine Trim.of_lead (.inr fun e => ?_)
    have := ht.lead hne
    rw [← gs] at this
    rw [co_scale, gs, ← hlen, e, Int.zero_mul] at this
    exact this rfl
  obtain ⟨r1, r2⟩ := row_at h1 h6 hb' ht' hne' (by omega) (fun h => by have := h5 h; omega)
  have hN : Nt t g = gcdL g ^ dgt t * Nt t g' := by rw [← Nt_scale, gs]
  have hNb := Nt_bd h1 h6 hb' (by omega)
  refine .inr ⟨on, hne, ?_⟩
  have c1 : Nz (gcdL (orderL t)) := by rw [og]; exact (by decide : (1 : Int) ≠ 0)
  have c2 : Bd 4000 (gcdL (orderL t)) := by rw [og]; exact bd_one _ (by decide)
  have e2 : (((orderL t).length : Int) - 1).toNat = dgt t := by omega
  have hdg : dgt t ≤ 4 := by
    unfold dgt
    split
    · decide
    · split <;> decide
  by_cases hc : g.length ≤ (orderL t).length
  · refine .inl ⟨hc, c1, g0, hob.mono (by decide), hg.mono (by decide), c2, gb.mono (by decide), by omega, hgl, hc, ?_⟩
    obtain ⟨fu, hfu⟩ := r1 (by omega)
    refine ⟨fu, _, by rw [e1, hg']; exact hfu, hNb.mono (by decide), ?_⟩
    rw [hN, og, Int.one_pow, Int.one_mul, e2]
  · refine .inr ⟨by omega, g0, c1, hg.mono (by decide), hob.mono (by decide), gb.mono (by decide), c2, by omega, by omega, by omega, ?_⟩
    obtain ⟨fu, hfu⟩ := r2 (by omega)
    refine ⟨fu, _, by rw [e1, hg']; rw [show sgOf g (orderL t) = sgOf g' (orderL t) from by unfold sgOf; rw [hlen]]; exact hfu, hNb.mono (by decide), ?_⟩
    rw [hN, og, Int.one_pow, Int.mul_one, e2]

end
section
/-- all that the walk of the law's first half wants -/
structure Law1 (z : List Int) (k m : Nat) : Prop where
  pow : PowOk k [1] z k
  Wb : BdL 200 (powL z k)
  Wl : (powL z k).length ≤ 25
  Mb : BdL 2 (lessL m)
  Ml : (lessL m).length = m + 1
  R1 : (pseudoL (powL z k) (lessL m)).2.1 = trimL (restsU (powL z k) (m : Int))
  zb : BdL 200 z
  Rb : BdL 200 (pseudoL (powL z k) (lessL m)).2.1
  Rl : (pseudoL (powL z k) (lessL m)).2.1.length ≤ 6
  Zb : BdL 300 (mulL z (pseudoL (powL z k) (lessL m)).2.1)
  Zl : (mulL z (pseudoL (powL z k) (lessL m)).2.1).length < 1000
  Yl : (mulL z (powL z k)).length < 1000
  R2 : (pseudoL (mulL z (pseudoL (powL z k) (lessL m)).2.1) (lessL m)).2.1 = trimL (restsU (mulL z (powL z k)) (m : Int))
  res : ∀ t, 1 ≤ t → t ≤ 6 → m % t = 0 → ∃ r, RsAll (orderL t) z r ∧ RsAll (orderL t) (pseudoL (powL z k) (lessL m)).2.1 (r ^ k) ∧ Bd 1000 r
theorem less_bd (m : Nat) : BdL 1 (lessL m) := by
  unfold lessL
  intro x hx
  simp only [List.mem_append, List.mem_cons, List.not_mem_nil, or_false, List.mem_replicate] at hx
  rcases hx with rfl | ⟨-, rfl⟩ | rfl
  · exact bd_m1 _ (by decide)
  · exact Bd.zero _
  · exact bd_one _ (by decide)
theorem law1 {z : List Int} {k m : Nat} (hz : ∀ x ∈ z, -3 ≤ x ∧ x ≤ 3) (hl2 : 2 ≤ z.length) (hl4 : z.length ≤ 4) (hlast : ∃ l r, z = l ++ [r] ∧ r ≠ 0) (hk : k ≤ 8) (hm1 : 1 ≤ m) (hm6 : m ≤ 6) : Law1 z k m := by
  have hzt : Trim z := by
    obtain ⟨l, r, rfl, hr⟩ := hlast
    exact trim_snoc l hr
  have hzb : BdL 2 z := by
    intro x hx
    have := hz x hx
    show x.natAbs < 4
    omega
  obtain ⟨hpow, hW⟩ := pow_all (z := z) (k := k) (d := z.length - 1) ⟨hzb, by omega, hzt⟩ (by omega) hk
  have hWl : (powL z k).length ≤ 25 := by
    rw [hW.2.1]
    have : k * (z.length - 1) ≤ 8 * 3 := Nat.mul_le_mul hk (by omega)
    omega
  have hWt := hW.2.2
  have hMl := less_length hm1
  have hM0 : 0 < (lessL m).length := by omega
  have hRt := pseudo_trim (less_lead m) hWt
  have hRl : (pseudoL (powL z k) (lessL m)).2.1.length ≤ m := by
    have := pseudo_len hM0 (powL z k)
    omega
  have hRb : BdL 160 (pseudoL (powL z k) (lessL m)).2.1 := by
    have h := (many_facts (powL z k) (lessL m)).2.2.1
    refine (pseudo_bd hM0 hW.1 (less_bd m)).mono ?_
    omega
  have hl : ∀ a b : List Int, a.length ≤ 100 → b.length ≤ 100 → (mulL a b).length < 1000 := fun a b ha hb => by have := mul_len_le a b; omega
  refine ⟨hpow, hW.1.mono (by decide), hWl, (less_bd m).mono (by decide), hMl, rests_of hm1 hWt (fun r hr => rfl), hzb.mono (by decide), hRb.mono (by decide), by omega, (mul_bd hzb hRb (by omega)).mono (by decide), hl _ _ (by omega) (by omega), hl _ _ (by omega) (by omega), rests_mul hm1 (mul_trim hzt hRt), ?_⟩
  intro t h1 h6 hd
  refine ⟨Nt t z, rs_all h1 h6 (hzb.mono (by decide)) hzt (by omega) (by omega), ?_, (Nt_bd h1 h6 hzb (by omega)).mono (by decide)⟩
  rw [← Nt_pow h1 h6, ← Nt_rest h1 h6 hm1 hd]
  refine rs_all h1 h6 (hRb.mono (by decide)) hRt (by omega) ?_
  rintro rfl
  have : m = 5 := by omega
  omega

end
section
theorem mpow_row (c1 c2 f0 f1 : Int) (n : Nat) : ∀ k, (mpow (c1, c2, 1, 0) k).1 * recX c1 c2 f0 f1 (n + 1) + (mpow (c1, c2, 1, 0) k).2.1 * recX c1 c2 f0 f1 n = recX c1 c2 f0 f1 (n + k + 1) ∧
    (mpow (c1, c2, 1, 0) k).2.2.1 * recX c1 c2 f0 f1 (n + 1) + (mpow (c1, c2, 1, 0) k).2.2.2 * recX c1 c2 f0 f1 n = recX c1 c2 f0 f1 (n + k)
  | 0 => by
    show (1 : Int) * _ + 0 * _ = _ ∧ (0 : Int) * _ + 1 * _ = _
    simp
  | k + 1 => by
    obtain ⟨h1, h2⟩ := mpow_row c1 c2 f0 f1 n k
    have e : mpow (c1, c2, 1, 0) (k + 1) = mm (c1, c2, 1, 0) (mpow (c1, c2, 1, 0) k) := (mpow_comm _ _).symm
    rw [e]
    generalize mpow (c1, c2, 1, 0) k = M at h1 h2
    obtain ⟨p, q, u, v⟩ := M
    unfold mm
    dsimp only at h1 h2 ⊢
    rw [show n + (k + 1) + 1 = (n + k) + 2 by omega, recX_step, show n + (k + 1) = n + k + 1 by omega, ← h1, ← h2]
    constructor <;> grind
theorem rec_turn (c1 c2 f0 f1 : Int) (n m : Nat) {p q u v : Int} (h : (p, q, u, v) = mpow (c1, c2, 1, 0) m) :
    (p + v) * recX c1 c2 f0 f1 (n + m) + (q * u - p * v) * recX c1 c2 f0 f1 n = recX c1 c2 f0 f1 (n + m + m) := by
  obtain ⟨h1, h2⟩ := mpow_row c1 c2 f0 f1 n m
  obtain ⟨h3, h4⟩ := mpow_row c1 c2 f0 f1 (n + m) m
  rw [← h] at h1 h2 h3 h4
  dsimp only at h1 h2 h3 h4
  rw [← h4, ← h1, ← h2]
  grind
theorem rec_at (c1 c2 f0 f1 : Int) {n : Nat} (h : 1 ≤ n) : (mpow (c1, c2, 1, 0) (n - 1)).1 * f1 + (mpow (c1, c2, 1, 0) (n - 1)).2.1 * f0 = recX c1 c2 f0 f1 n := by
  obtain ⟨h1, -⟩ := mpow_row c1 c2 f0 f1 0 (n - 1)
  rw [show 0 + (n - 1) + 1 = n by omega] at h1
  exact h1
theorem mpow_bd {c1 c2 : Int} (h1 : Bd 2 c1) (h2 : Bd 2 c2) : ∀ n, Bd (3 * n + 2) (mpow (c1, c2, 1, 0) n).1 ∧ Bd (3 * n + 2) (mpow (c1, c2, 1, 0) n).2.1 ∧ Bd (3 * n + 2) (mpow (c1, c2, 1, 0) n).2.2.1 ∧ Bd (3 * n + 2) (mpow (c1, c2, 1, 0) n).2.2.2
  | 0 => ⟨bd_one _ (by decide), Bd.zero _, Bd.zero _, bd_one _ (by decide)⟩
  | n + 1 => by
    obtain ⟨a, b, c, d⟩ := mpow_bd h1 h2 n
    have e : mpow (c1, c2, 1, 0) (n + 1) = mm (c1, c2, 1, 0) (mpow (c1, c2, 1, 0) n) := (mpow_comm _ _).symm
    rw [e]
    unfold mm
    dsimp only
    refine ⟨bd_rec h1 h2 a c, bd_rec h1 h2 b d, ?_, ?_⟩
    · rw [Int.one_mul, Int.zero_mul, Int.add_zero]; exact a.mono (by omega)
    · rw [Int.one_mul, Int.zero_mul, Int.add_zero]; exact b.mono (by omega)
theorem mat_bds {g1 g2 p q u v : Int} {m : Nat} (h1 : Bd 2 g1) (h2 : Bd 2 g2) (hm : m ≤ 6) (h : (p, q, u, v) = mpow (g1, g2, 1, 0) m) : Bd 100 p ∧ Bd 100 q ∧ Bd 100 u ∧ Bd 100 v ∧ Bd 3000 (p + v) ∧ Bd 3000 (q * u - p * v) := by
  obtain ⟨a, b, c, d⟩ := mpow_bd h1 h2 m
  rw [← h] at a b c d
  have a : Bd 100 p := a.mono (by omega)
  have b : Bd 100 q := b.mono (by omega)
  have c : Bd 100 u := c.mono (by omega)
  have d : Bd 100 v := d.mono (by omega)
  exact ⟨a, b, c, d, (a.add d).mono (by decide), (Bd.sub (b.mul c) (a.mul d)).mono (by decide)⟩

end
section
theorem unitrows_c (w : World) (mean mg mb) (t : Tok) :
    PCall w mean mg mb 2 145 [.int 2 t] (fun h => True) (fun h h' r => MX h h' r 1 0 0 1) := by
  unfold PCall; k_fill
  intro dp un gd cn cs a ccd cl outer A₀ base h₀ L m sh gg dd tk oo Q E B F X T hk hdp hun hpre hret
  refine wpAny_call ?_
  k_dflt walk_at "M.enter"
  walk_at "M.steps"
  rename Fr _ _ _ _ => lF₀
  refine lc_cell (cl := ?cl) lF₀ ?a1 ?a2 ?a3 ?a4 ?a5 ?a6 ?_
  case a1 => with_unfolding_all rfl
  case a2 => exact fun _ _ => rfl
  case a3 => exact fun _ => rfl
  case a4 => exact rfl
  case a5 => decide
  case a6 => exact rfl
  walk_at "M.steps"
  rename IsRange _ _ _ _ _ _ _ _ => rgX
  rename Fr _ _ _ _ => lF
  rename News _ _ _ _ => lN
  refine SrcC.mkR rgX rfl lF lN ?b1 (n := 2) ?b2 ?b3 fun g => ?_
  case b1 => decide
  case b2 => decide
  case b3 => decide
  intro v I oI C D Cc h tk E' ⟨t, ev⟩ F1 N1 off ne
  have ev : v = .int 0 t := ev
  subst ev
  refine LCg.ListComp_U (cl := [("row", Cc)]) (F₀ := F1) ?c1 ?c2 ?c3 ?c4 ?c5 ?_
  case c1 => with_unfolding_all rfl
  case c2 => decide
  case c3 => rfl
  case c4 => decide
  case c5 => rfl
  iterate 7 walk1
  refine LCg.CompSrc.range (by rfl) (by k_asm) (by k_asm) (by assumption) (small_one (by decide) (by decide) (by decide) (by decide)) (rangeSize_nat _ _) (by decide) ?_
  intro g'
  refine kcf_range (fun k => if (0 : Int) = k then 1 else 0) (fun k' t' I' oI' C' oC' D' m' ys' h' tk' E' hlo' hhi' hC' hx' F' N' off' ne' hMark' => ?_) ?_
  all_goals (try (simp only [LCg.Off3, and_true] at off'))
  repeat' (first | (k_unfold; (try dsimp only)) | ((with_reducible show KCfEl _ _ _ _); refine kcf_el ?kce (by with_unfolding_all rfl) (by with_unfolding_all rfl); (case kce => first | exact if_pos (by assumption) | exact if_neg (by assumption))) | walk1)
  refine CEnd.of (by assumption) (by assumption) (And.left (by assumption)) (And.left (And.right (by assumption))) (And.left (And.right (And.right (by assumption)))) (And.left (And.right (And.right (And.right (by assumption))))) off trivial ?_
  clear off ne
  intro v I oI C D Cc h tk E' ⟨t, ev⟩ F1 N1 off ne
  have ev : v = .int 1 t := ev
  subst ev
  refine LCg.ListComp_U (cl := [("row", Cc)]) (F₀ := F1) ?c1 ?c2 ?c3 ?c4 ?c5 ?_
  case c1 => with_unfolding_all rfl
  case c2 => decide
  case c3 => rfl
  case c4 => decide
  case c5 => rfl
  iterate 7 walk1
  refine LCg.CompSrc.range (by rfl) (by k_asm) (by k_asm) (by assumption) (small_one (by decide) (by decide) (by decide) (by decide)) (rangeSize_nat _ _) (by decide) ?_
  intro g'
  refine kcf_range (fun k => if (1 : Int) = k then 1 else 0) (fun k' t' I' oI' C' oC' D' m' ys' h' tk' E' hlo' hhi' hC' hx' F' N' off' ne' hMark' => ?_) ?_
  all_goals (try (simp only [LCg.Off3, and_true] at off'))
  repeat' (first | (k_unfold; (try dsimp only)) | ((with_reducible show KCfEl _ _ _ _); refine kcf_el ?kce (by with_unfolding_all rfl) (by with_unfolding_all rfl); (case kce => first | exact if_pos (by assumption) | exact if_neg (by assumption))) | walk1)
  refine CEnd.of (by assumption) (by assumption) (And.left (by assumption)) (And.left (And.right (by assumption))) (And.left (And.right (And.right (by assumption)))) (And.left (And.right (And.right (And.right (by assumption))))) off trivial ?_
  clear off ne
  intro D h tk F1 N1 ne
  repeat' (first | (k_unfold; (try dsimp only)) | walk1)
  exact hret _ _ _ (Fr.keep (by assumption)) (MX.of (by assumption) (by k_mem) (by k_mem) (by k_mem) (by assumption) (by assumption))

end
theorem rows_unitrows : True := by
  k_with "M.call" => ((with_reducible show wpAny _ _ (call (Value.ref 145) _) _ _ _); k_dflt (refine' pc_useM (unitrows_c _ _ _ _ _) ?qqk1 ?qqk2 ?qqk3 ?qqk4 ?qqk5 ?qqkK ?qqkd ?qqku ?qqkp ?_; (walk_at "M.use"); (case qqkp => exact trivial); k_whole; intro _ _ _ _ _ _ _ _ _ _ _ _ _ _; (try k_sweep)))
  trivial
section
theorem rows2_wholemul : True := by
  k_with "subscriptTail Name Name ref int" => (k_here; (with_reducible show wpAny _ _ (subscriptTail _ _ (Value.ref _) (Value.int (OfNat.ofNat _) _)) _ _ _); (with_unfolding_all refine' item_litK ?qqk1 ?qqk2 ?qqk3 ?qqk4 ?_ ?qqk6; (case qqk1 => is_list); (case qqk2 => decide); (case qqk3 => decide); (case qqk4 => rfl); (case qqk6 => with_unfolding_all rfl); k_whole))
  trivial
theorem wholemul_c (w : World) (mean mg mb) (la lb : Addr) (p q u v p' q' u' v' : Int) :
    PCall w mean mg mb 3 150 [.ref la, .ref lb] (fun h => AM h la p q u v ∧ AM h lb p' q' u' v' ∧ (Bd 500000 p ∧ Bd 500000 q ∧ Bd 500000 u ∧ Bd 500000 v) ∧ (Bd 500000 p' ∧ Bd 500000 q' ∧ Bd 500000 u' ∧ Bd 500000 v')) (fun h h' r => MX h h' r (p * p' + q * u') (p * q' + q * v') (u * p' + v * u') (u * q' + v * v')) := by
  unfold PCall; k_fill
  intro dp un gd cn cs a ccd cl outer A₀ base h₀ L m sh gg dd tk oo Q E B F X T hk hdp hun hpre hret
  obtain ⟨⟨a1, a2, na, na1, na2, ta1, ta2, ta3, ta4, ga, ga1, ga2⟩, ⟨b1, b2, nb, nb1, nb2, tb1, tb2, tb3, tb4, gb, gb1, gb2⟩, ⟨bp, bq, bu, bv⟩, bp', bq', bu', bv'⟩ := hpre
  have hLa : sh.IsList la #[.ref a1, .ref a2] := ⟨_, ga, rfl, na, rfl⟩
  have hLb : sh.IsList lb #[.ref b1, .ref b2] := ⟨_, gb, rfl, nb, rfl⟩
  have hL1 : sh.IsList a1 ([.int p ta1, .int q ta2] : List Value).toArray := ⟨_, ga1, rfl, na1, rfl⟩
  have hL2 : sh.IsList a2 ([.int u ta3, .int v ta4] : List Value).toArray := ⟨_, ga2, rfl, na2, rfl⟩
  have hM1 : sh.IsList b1 ([.int p' tb1, .int q' tb2] : List Value).toArray := ⟨_, gb1, rfl, nb1, rfl⟩
  have hM2 : sh.IsList b2 ([.int u' tb3, .int v' tb4] : List Value).toArray := ⟨_, gb2, rfl, nb2, rfl⟩
  refine wpAny_call ?_
  k_dflt walk_at "M.enter"
  repeat' (first | (k_unfold; (try dsimp only)) | walk1)
  · rename Fr _ _ _ _ => lF₀
    refine lc_cell (cl := ?cl) lF₀ ?a1 ?a2 ?a3 ?a4 ?a5 ?a6 ?_
    case a1 => with_unfolding_all rfl
    case a2 => exact fun _ _ => rfl
    case a3 => exact fun _ => rfl
    case a4 => exact rfl
    case a5 => decide
    case a6 => exact rfl
    repeat' (first | (k_unfold; (try dsimp only)) | walk1)
    rename Fr _ _ _ _ => lF
    rename News _ _ _ _ => lN
    refine SrcC.mkL hLa rfl lF lN (by show 2 ≤ sizeLine; decide) fun g => ?_
    refine CRc.two (R := fun i o => ∃ (ys : List Value) (n : Nat), o = listOf ys.toArray n ∧ IntsAre ys (if i = 0 then [p * p' + q * u', p * q' + q * v'] else [u * p' + v * u', u * q' + v * v'])) (fun _ => .inl hLa) ?_ ?_
    · intro i rv De oe I oI C D Cc ys h tk E' hi2 hPi F1 N1 off ne
      have hrow : ∃ (ra : Addr) (x0 x1 : Int) (tx0 tx1 : Tok), rv = .ref ra ∧ sh.IsList ra ([.int x0 tx0, .int x1 tx1] : List Value).toArray ∧ Bd 500000 x0 ∧ Bd 500000 x1 ∧ (if i = 0 then [p * p' + q * u', p * q' + q * v'] else [u * p' + v * u', u * q' + v * v']) = [x0 * p' + x1 * u', x0 * q' + x1 * v'] := by
        rcases i with _ | _ | i
        · exact ⟨a1, p, q, ta1, ta2, (Option.some.inj hPi).symm, hL1, bp, bq, rfl⟩
        · exact ⟨a2, u, v, ta3, ta4, (Option.some.inj hPi).symm, hL2, bu, bv, rfl⟩
        · omega
      obtain ⟨ra, x0, x1, tx0, tx1, rfl, hR, bx0, bx1, hres⟩ := hrow
      rw [hres]
      clear hres hPi hi2
      refine lc_cell (cl := [("row", Cc), ("b", ?cb)]) F1 ?a1 ?a2 ?a3 ?a4 ?a5 ?a6 ?_
      case a1 => with_unfolding_all rfl
      case a2 => exact fun _ _ => rfl
      case a3 => exact fun _ => rfl
      case a4 => exact rfl
      case a5 => decide
      case a6 => exact rfl
      repeat' (first | (k_unfold; (try dsimp only)) | walk1)
      rename IsRange _ _ _ _ _ _ _ _ => rgX
      rename Fr _ _ _ _ => lF
      rename News _ _ _ _ => lN
      have rgX : IsRange _ _ 0 2 1 _ _ _ := rgX
      refine SrcC.mkR rgX rfl lF lN (by decide) (n := 2) (by decide) (by decide) fun g => ?_
      clear rgX lN
      refine CRc.ints (fun i => x0 * [p', q'].getD i 0 + x1 * [u', v'].getD i 0) 2 trivial ?_ ?_
      · intro j cv I2 oI2 C2 D2 Cc2 ys2 h tk E' hj2 ⟨tc, hcv⟩ F2 N2 off2 ne2
        have hcv : cv = .int (j : Int) tc := by rw [hcv, Int.zero_add]
        subst hcv
        have hj0 : 0 ≤ (j : Int) := by omega
        have hl1 : (j : Int) < ([p', q'] : List Int).length := by show (j : Int) < 2; omega
        have hl2 : (j : Int) < ([u', v'] : List Int).length := by show (j : Int) < 2; omega
        have hx0 : Bd 500000 ([x0, x1].getD (Int.toNat 0) 0) := bx0
        have hx1 : Bd 500000 ([x0, x1].getD (Int.toNat 1) 0) := bx1
        have hm1 : Bd 500000 ([p', q'].getD (j : Int).toNat 0) := by rcases j with _ | _ | j <;> first | exact bp' | exact bq' | omega
        have hm2 : Bd 500000 ([u', v'].getD (j : Int).toNat 0) := by rcases j with _ | _ | j <;> first | exact bu' | exact bv' | omega
        repeat' (first | (k_unfold; (try dsimp only)) | ((fail_if_success (with_reducible show LCg.CompSrc _ _ _ _ _ _ _ _ _ _ _ _ _ _)); walk1))
        rename IsRange _ _ _ _ _ _ _ _ => rgX
        have rgX : IsRange _ _ 0 2 1 _ _ _ := rgX
        refine LCg.CompSrc.range (by rfl) (by k_asm) (by k_asm) rgX (by decide) (n := 2) (by decide) (by decide) ?_
        clear rgX
        intro g'
        refine kcf_range (fun k => if k = 0 then x0 * [p', q'].getD (j : Int).toNat 0 else x1 * [u', v'].getD (j : Int).toNat 0) (fun k' t' I' oI' C' oC' D' m' ys' h' tk' E' hlo' hhi' hC' hx' F' N' off' ne' hMark' => ?_) ?_
        · have hk2 : k' = 0 ∨ k' = 1 := by omega
          rcases hk2 with rfl | rfl
          all_goals repeat' (first | (k_unfold; (try dsimp only)) | ((fail_if_success (with_reducible show KCfEl _ _ _ _)); walk1))
          all_goals exact ⟨rfl, _, rfl⟩
        all_goals repeat' (first | (k_unfold; (try dsimp only)) | walk1)
        have hsum : (List.map (fun k => if k = 0 then x0 * [p', q'].getD (j : Int).toNat 0 else x1 * [u', v'].getD (j : Int).toNat 0) (rangeKs 0 2)).sum = x0 * [p', q'].getD j 0 + x1 * [u', v'].getD j 0 := by
          rw [Int.toNat_natCast]
          show x0 * _ + (x1 * _ + 0) = _
          rw [Int.add_zero]
        exact ⟨_, _, _, rfl, congrArg (fun z => Value.int z _) hsum, by assumption, kst_newsOf (by assumption) fun p hp => .tail _ hp⟩
      · intro ys hys D2 h tk F2 N2 ne2
        exact ⟨_, _, D2, _, rfl, rfl, F2, N2, ne2 _ (.head _), ne2 _ (.tail _ (.head _)), ne2 _ (.tail _ (.tail _ (.head _))), ne2 _ (.tail _ (.tail _ (.tail _ (.head _)))), ys, _, rfl, hys⟩
    · rintro D0 o0 D1 o1 ⟨ys0, n0, rfl, h0⟩ ⟨ys1, n1, rfl, h1⟩ D h tk F2 N2 ne2
      repeat' (first | (k_unfold; (try dsimp only)) | walk1)
      exact hret _ _ _ (Fr.keep (by assumption)) (MX.of2 (by assumption) (by k_mem) (by k_mem) (by k_mem) rfl h0 h1)
  all_goals exact absurd (show (0 : Int) < 2 by decide) (by assumption)

end
theorem rows_wholemul : True := by
  k_with "M.call" => ((with_reducible show wpAny _ _ (call (Value.ref 150) _) _ _ _); k_dflt (refine' pc_useM (wholemul_c _ _ _ _ _ _ _ _ _ _ _ _ _ _) ?qqk1 ?qqk2 ?qqk3 ?qqk4 ?qqk5 ?qqkK ?qqkd ?qqku ?qqkp ?_; (walk_at "M.use"); (case qqkp => exact ⟨AM.news (by assumption) (by k_mem) (by k_mem) (by k_mem), AM.news (by assumption) (by k_mem) (by k_mem) (by k_mem), ⟨by assumption, by assumption, by assumption, by assumption⟩, by assumption, by assumption, by assumption, by assumption⟩); k_whole; intro _ _ _ _ _ _ _ _ _ _ _ _ _ _; (try k_sweep)))
  trivial
section
structure MrS where
  (led : List (Addr × Obj)) (F S : MatR) (n : Int) (tn : Tok)
theorem mem3 {α : Type} {x a b c : α} {l : List α} (h : x ∈ l) : x ∈ a :: b :: c :: l := .tail _ (.tail _ (.tail _ h))
theorem mem6 {α : Type} {x a b c d e f : α} {l : List α} (h : x ∈ l) : x ∈ a :: b :: c :: d :: e :: f :: l := mem3 (mem3 h)
theorem half_bd {k : Int} {b : Nat} (hd : (k.fdiv 2).toNat = k.toNat / 2) (h : (b + 1) * k.toNat ≤ 192) : (2 * b + 1 + 1) * (k.fdiv 2).toNat ≤ 192 := by
  rw [hd]
  refine Nat.le_trans ?_ h
  rw [show 2 * b + 1 + 1 = (b + 1) * 2 by omega, Nat.mul_assoc]
  exact Nat.mul_le_mul_left _ (by omega)
theorem matraised_c (w : World) (mean : ExcName → Option Value) (mg mb : Str → Option Value) (R : MatR) (n : Nat) (t : Tok) (news : List (Addr × Obj))
    (dp un : Nat) (gd : Option (List Code)) (cn : Str) (cs : Scope) (a : Addr) (ccd : Value) (cl : List (Str × Addr)) (outer : List Env) (A₀ : Around) (base h₀ : Heap) (L : Addr) (m : Str → Option Value) (sh : Heap) (gg : Array GenState) (dd : Drawn) (tk : Nat) (oo : OsState) (Q E : Value → Shared → Prop)
    (B : Below A₀ base outer h₀) (F : Fr h₀ L sh m) (X : (hd.heap_1 w.params).In h₀) (N : News h₀ L sh news) (T : Top hd.view_1 (looseW hd.view_1 []) mean mg mb h₀) (hk : cs.kind = .function) (hdp : dp + 4 < recursionLimit) (hun : un + 8 * 4 + 100 < cLine)
    (hR : R.In news) (hB : R.Bds 2) (hn : n ≤ 60)
    (hret : ∀ (R' : MatR) h' tk', R'.m = mpow R.m n → Fr h₀ L h' m → News h₀ L h' ((R'.l, listOf #[.ref R'.l1, .ref R'.l2] R'.n) :: (R'.l1, listOf #[.int R'.p R'.t1, .int R'.q R'.t2] R'.n1) :: (R'.l2, listOf #[.int R'.u R'.t3, .int R'.v R'.t4] R'.n2) :: news) → Q (.ref R'.l) ⟨h', gg, dd, tk', oo⟩) :
    wpAny (model Challenge.rw_xm0142_01.row.prog w) (ktrTop dp un gd cn cs L a ccd cl outer) (call (.ref 196) [.ref R.l, .int (n : Int) t]) Q E ⟨sh, gg, dd, tk, oo⟩ := by
  revert X; k_fill; intro X
  refine wpAny_noRaise ?_
  refine wpAny_call ?_
  k_dflt walk_at "M.enterE"
  have hR0 : ((R.l, listOf #[.ref R.l1, .ref R.l2] R.n) : Addr × Obj) ∈ news := hR.1
  walk_at "M.steps"
  rename News _ _ _ _ => NN
  refine m_whileO (σ := MrS) (fun c => c.led) (fun c => [(Str.ofString "found", .ref c.F.l), (Str.ofString "square", .ref c.S.l), (Str.ofString "n", .int c.n c.tn)])
    (fun c => (∀ p ∈ news, p ∈ c.led) ∧ c.F.In c.led ∧ c.S.In c.led ∧ 0 ≤ c.n ∧ c.n < 100 ∧ mm c.F.m (mpow c.S.m c.n.toNat) = mpow R.m n ∧ ∃ k, (k + 1) * c.n.toNat ≤ 192 ∧ c.F.Bds k ∧ c.S.Bds k) (fun c => c.n.toNat) (by assumption) NN
    ⟨⟨_, ⟨_, _, _, _, _, _, _, _, _, _, 1, 0, 0, 1⟩, R, (n : Int), t⟩, by with_unfolding_all kst_all, fun _ h => .tail _ h, fun _ h => .tail _ (.tail _ (.tail _ h)), ⟨.head _, .tail _ (.head _), .tail _ (.tail _ (.head _))⟩, ⟨.tail _ (.tail _ (.tail _ hR.1)), .tail _ (.tail _ (.tail _ hR.2.1)), .tail _ (.tail _ (.tail _ hR.2.2))⟩, by dsimp only; omega, by dsimp only; omega, one_mm _, 2, by dsimp only; omega, ⟨by show Int.natAbs 1 < 4; decide, by show Int.natAbs 0 < 4; decide, by show Int.natAbs 0 < 4; decide, by show Int.natAbs 1 < 4; decide⟩, hB⟩ ?_ PassesOwn.never
  rintro ⟨led, F, S, k, tk⟩ u hh tk' gg dd oo Qb Qn hEnd hRt hNx ⟨hsub, hF, hS, hk0, hk1, heq, b, hb, hbF, hbS⟩ F1 N1
  dsimp only at hsub hF hS hk0 hk1 heq hb hbF hbS F1 N1 ⊢
  simp only [kstB] at F1
  obtain ⟨fl, fl1, fl2, fn, fn1, fn2, ft1, ft2, ft3, ft4, fp, fq, fu, fv⟩ := F
  obtain ⟨sl, sl1, sl2, sn, sn1, sn2, st1, st2, st3, st4, sp, sq, su, sv⟩ := S
  obtain ⟨hf0, hf1, hf2⟩ := hF
  obtain ⟨hs0, hs1, hs2⟩ := hS
  obtain ⟨bf1, bf2, bf3, bf4⟩ := hbF
  obtain ⟨bs1, bs2, bs3, bs4⟩ := hbS
  dsimp only at hf0 hf1 hf2 hs0 hs1 hs2 bf1 bf2 bf3 bf4 bs1 bs2 bs3 bs4 heq F1
  by_cases hpos : 0 < k
  · obtain ⟨hd0, hd1, hd, hm2⟩ := half_facts hk0
    have hbk : b ≤ 500000 := by
      have : (b + 1) * 1 ≤ (b + 1) * k.toNat := Nat.mul_le_mul_left _ (by omega)
      omega
    have c1 := bf1.mono hbk
    have c2 := bf2.mono hbk
    have c3 := bf3.mono hbk
    have c4 := bf4.mono hbk
    have d1 := bs1.mono hbk
    have d2 := bs2.mono hbk
    have d3 := bs3.mono hbk
    have d4 := bs4.mono hbk
    walk_at "M.steps"
    · have ho : k.toNat % 2 = 1 := by omega
      rw [mpow_odd _ _ ho, ← hd] at heq
      refine hEnd ⟨_, ⟨_, _, _, _, _, _, _, _, _, _, _, _, _, _⟩, ⟨_, _, _, _, _, _, _, _, _, _, _, _, _, _⟩, k.fdiv 2, _⟩ (by assumption) (by assumption) (by with_unfolding_all kst_all) (fun _ h => h) ⟨fun p h => mem6 (hsub p h), ⟨.tail _ (.tail _ (.tail _ (.head _))), .tail _ (.tail _ (.tail _ (.tail _ (.head _)))), .tail _ (.tail _ (.tail _ (.tail _ (.tail _ (.head _)))))⟩, ⟨.head _, .tail _ (.head _), .tail _ (.tail _ (.head _))⟩, hd0, by dsimp only; omega, heq, 2 * b + 1, half_bd hd hb, ⟨bd_mm bf1 bs1 bf2 bs3, bd_mm bf1 bs2 bf2 bs4, bd_mm bf3 bs1 bf4 bs3, bd_mm bf3 bs2 bf4 bs4⟩, ⟨bd_mm bs1 bs1 bs2 bs3, bd_mm bs1 bs2 bs2 bs4, bd_mm bs3 bs1 bs4 bs3, bd_mm bs3 bs2 bs4 bs4⟩⟩ ?_
      dsimp only; omega
    · have ho : k.toNat % 2 = 1 := by omega
      have hz : k.toNat / 2 = 0 := by omega
      rw [mpow_odd _ _ ho, hz, mpow, mm_one] at heq
      refine hEnd ⟨_, ⟨_, _, _, _, _, _, _, _, _, _, _, _, _, _⟩, ⟨sl, sl1, sl2, sn, sn1, sn2, st1, st2, st3, st4, sp, sq, su, sv⟩, k.fdiv 2, _⟩ (by assumption) (by assumption) (by with_unfolding_all kst_all) (fun _ h => h) ⟨fun p h => mem3 (hsub p h), ⟨.head _, .tail _ (.head _), .tail _ (.tail _ (.head _))⟩, ⟨mem3 hs0, mem3 hs1, mem3 hs2⟩, hd0, by dsimp only; omega, by dsimp only; rw [hd, hz, mpow, mm_one]; exact heq, 2 * b + 1, half_bd hd hb, ⟨bd_mm bf1 bs1 bf2 bs3, bd_mm bf1 bs2 bf2 bs4, bd_mm bf3 bs1 bf4 bs3, bd_mm bf3 bs2 bf4 bs4⟩, ⟨bs1.mono (by omega), bs2.mono (by omega), bs3.mono (by omega), bs4.mono (by omega)⟩⟩ ?_
      dsimp only; omega
    · have ho : ¬ k.toNat % 2 = 1 := by omega
      rw [mpow_even _ _ ho, ← hd] at heq
      refine hEnd ⟨_, ⟨fl, fl1, fl2, fn, fn1, fn2, ft1, ft2, ft3, ft4, fp, fq, fu, fv⟩, ⟨_, _, _, _, _, _, _, _, _, _, _, _, _, _⟩, k.fdiv 2, _⟩ (by assumption) (by assumption) (by with_unfolding_all kst_all) (fun _ h => h) ⟨fun p h => mem3 (hsub p h), ⟨mem3 hf0, mem3 hf1, mem3 hf2⟩, ⟨.head _, .tail _ (.head _), .tail _ (.tail _ (.head _))⟩, hd0, by dsimp only; omega, heq, 2 * b + 1, half_bd hd hb, ⟨bf1.mono (by omega), bf2.mono (by omega), bf3.mono (by omega), bf4.mono (by omega)⟩, ⟨bd_mm bs1 bs1 bs2 bs3, bd_mm bs1 bs2 bs2 bs4, bd_mm bs3 bs1 bs4 bs3, bd_mm bs3 bs2 bs4 bs4⟩⟩ ?_
      dsimp only; omega
  · have e0 : k.toNat = 0 := by omega
    rw [e0, mpow, mm_one] at heq
    walk_at "M.steps"
    refine hNx _ _ ?_
    clear hEnd hRt hNx
    walk_at "M.steps"
    exact hret ⟨fl, fl1, fl2, fn, fn1, fn2, ft1, ft2, ft3, ft4, fp, fq, fu, fv⟩ _ _ heq (by assumption) (kst_newsOf (by assumption) fun p hp => by
      rcases List.mem_cons.mp hp with rfl | hp
      · exact hf0
      rcases List.mem_cons.mp hp with rfl | hp
      · exact hf1
      rcases List.mem_cons.mp hp with rfl | hp
      · exact hf2
      · exact hsub p hp)
theorem matraised_u (w : World) (mean : ExcName → Option Value) (mg mb : Str → Option Value) (l l1 l2 : Addr) (k k1 k2 : Nat) (t1 t2 t3 t4 : Tok) (p q u v : Int) (n : Nat) (t : Tok) (news : List (Addr × Obj))
    (dp un : Nat) (gd : Option (List Code)) (cn : Str) (cs : Scope) (a : Addr) (ccd : Value) (cl : List (Str × Addr)) (outer : List Env) (A₀ : Around) (base h₀ : Heap) (L : Addr) (m : Str → Option Value) (sh : Heap) (gg : Array GenState) (dd : Drawn) (tk : Nat) (oo : OsState) (Q E : Value → Shared → Prop)
    (B : Below A₀ base outer h₀) (F : Fr h₀ L sh m) (X : (hd.heap_1 w.params).In h₀) (N : News h₀ L sh news) (T : Top hd.view_1 (looseW hd.view_1 []) mean mg mb h₀) (hk : cs.kind = .function) (hdp : dp + 4 < recursionLimit) (hun : un + 8 * 4 + 100 < cLine)
    (hm0 : (l, listOf #[.ref l1, .ref l2] k) ∈ news) (hm1 : (l1, listOf #[.int p t1, .int q t2] k1) ∈ news) (hm2 : (l2, listOf #[.int u t3, .int v t4] k2) ∈ news) (hB : Bd 2 p ∧ Bd 2 q ∧ Bd 2 u ∧ Bd 2 v) (hn : n ≤ 60)
    (hret : ∀ (R' : MatR) h' tk', R'.m = mpow (p, q, u, v) n → Fr h₀ L h' m → News h₀ L h' ((R'.l, listOf #[.ref R'.l1, .ref R'.l2] R'.n) :: (R'.l1, listOf #[.int R'.p R'.t1, .int R'.q R'.t2] R'.n1) :: (R'.l2, listOf #[.int R'.u R'.t3, .int R'.v R'.t4] R'.n2) :: news) → Q (.ref R'.l) ⟨h', gg, dd, tk', oo⟩) :
    wpAny (model Challenge.rw_xm0142_01.row.prog w) (ktrTop dp un gd cn cs L a ccd cl outer) (call (.ref 196) [.ref l, .int (n : Int) t]) Q E ⟨sh, gg, dd, tk, oo⟩ :=
  matraised_c w mean mg mb ⟨l, l1, l2, k, k1, k2, t1, t2, t3, t4, p, q, u, v⟩ n t news dp un gd cn cs a ccd cl outer A₀ base h₀ L m sh gg dd tk oo Q E B F X N T hk hdp hun ⟨hm0, hm1, hm2⟩ hB hn hret

end
section
theorem numat_c (w : World) (mean mg mb) (la lb : Addr) (n : Nat) (t : Tok) (c1 c2 f0 f1 : Int) :
    PCall w mean mg mb 5 201 [.ref la, .ref lb, .int (n : Int) t] (fun h => AL h la [c1, c2] ∧ AL h lb [f0, f1] ∧ 2 ≤ n ∧ n ≤ 60 ∧ Bd 2 c1 ∧ Bd 2 c2 ∧ Bd 500000 f0 ∧ Bd 500000 f1 ∧ Bd 500000 (mpow (c1, c2, 1, 0) (n - 1)).1 ∧ Bd 500000 (mpow (c1, c2, 1, 0) (n - 1)).2.1) (fun h h' r => ∃ t, r = .int ((mpow (c1, c2, 1, 0) (n - 1)).1 * f1 + (mpow (c1, c2, 1, 0) (n - 1)).2.1 * f0) t) := by
  unfold PCall; k_fill
  intro dp un gd cn cs a ccd cl outer A₀ base h₀ L m sh gg dd tk oo Q E B F X T hk hdp hun hpre hret
  obtain ⟨⟨vs, hl, hi, hlen⟩, ⟨us, gl, gi, glen⟩, hn2, hn6, hb1, hb2, hb3, hb4, hb5, hb6⟩ := hpre
  refine wpAny_call ?_
  k_dflt walk_at "M.enter"
  repeat' (first | (k_unfold; (try dsimp only)) | ((fail_if_success (with_reducible show wpAny _ _ (call (Value.ref 196) _) _ _ _)); walk1))
  · have h : (n : Int) < (([c1, c2] : List Int).length : Int) := by assumption
    exact absurd h (by show ¬ (n : Int) < 2; omega)
  · have h : (([c1, c2] : List Int).length : Int) = 0 := by assumption
    exact absurd (show (2 : Int) = 0 from h) (by decide)
  rw [show ((n : Int) - (([c1, c2] : List Int).length : Int) + 1) = ((n - 1 : Nat) : Int) from by show (n : Int) - 2 + 1 = _; omega]
  k_dflt (refine' matraised_u _ _ _ _ _ _ _ _ _ _ _ _ _ _ _ _ _ _ (n - 1) _ _ _ _ _ _ _ _ _ _ _ _ _ _ _ _ _ _ _ _ _ _ _ ?qqk1 ?qqk2 ?qqk3 ?qqk4 ?qqk5 ?qqkK ?qqkd ?qqku ?p1 ?p2 ?p3 ?p4 ?p5 ?_; (walk_at "M.use"); (case p1 => k_mem); (case p2 => k_mem); (case p3 => k_mem); (case p4 => exact ⟨hb1, hb2, by show Int.natAbs 1 < 4; decide, by show Int.natAbs 0 < 4; decide⟩); (case p5 => omega))
  rintro ⟨rl, rl1, rl2, rn, rn1, rn2, rt1, rt2, rt3, rt4, rp, rq, ru, rv⟩ h' tk' hm F1 N1
  dsimp only at N1 ⊢
  have hm1 : rp = (mpow (c1, c2, 1, 0) (n - 1)).1 := congrArg (fun z : M4 => z.1) hm
  have hm2 : rq = (mpow (c1, c2, 1, 0) (n - 1)).2.1 := congrArg (fun z : M4 => z.2.1) hm
  rw [← hm1, ← hm2] at hret
  rw [← hm1] at hb5
  rw [← hm2] at hb6
  repeat' (first | (k_unfold; (try dsimp only)) | ((fail_if_success (with_reducible show wpAny _ _ (eval (Expr.ListComp _ _ _ _) _) _ _ _)); walk1))
  refine ListComp_T (cl := ?cl) ?a1 ?a2 ?a3 ?_
  case a1 => with_unfolding_all rfl
  case a2 => exact rfl
  case a3 => decide
  repeat' (first | (k_unfold; (try dsimp only)) | ((fail_if_success (with_reducible show wpAny _ _ (call (Value.type "zip") _) _ _ _)); walk1))
  rename Fr _ _ _ _ => lF
  rename News _ _ _ _ => lN
  rename IntsAre _ [f0, f1].reverse => hI
  have hI : IntsAre _ [f1, f0] := hI
  obtain ⟨t1, t2, rfl⟩ := ints_two hI
  refine lct_zip (fun i => [rp, rq].getD i 0 * [f1, f0].getD i 0) (xs := [.int rp rt1, .int rq rt2]) (ys₀ := [.int f1 t1, .int f0 t2]) lF lN (.tail _ (.tail _ (.head _))) rfl rfl (.head _) rfl rfl rfl ?b1 ?b2 ?b3 ?b4 ?b5 ?b6 ?b7 ?_ ?_
  case b1 => exact (by decide : 2 ≤ sizeLine)
  case b2 => decide
  case b3 => exact rfl
  case b4 => exact rfl
  case b5 => exact rfl
  case b6 => decide
  case b7 => exact rfl
  · rintro s₂ ⟨h2, rfl⟩ i v v' C oC D m₂ ys own h tk' E' hv hv' hC hx hx2 F1 N1 off hCD
    have hi2 : i < 2 := (List.getElem?_eq_some_iff.mp hv).1
    obtain ⟨tv, tv', hcv, hcv', hbc, hbc'⟩ : ∃ t t', v = .int ([rp, rq].getD i 0) t ∧ v' = .int ([f1, f0].getD i 0) t' ∧ Bd 500000 ([rp, rq].getD i 0) ∧ Bd 500000 ([f1, f0].getD i 0) := by
      rcases i with _ | _ | i
      · exact ⟨rt1, t1, (Option.some.inj hv).symm, (Option.some.inj hv').symm, hb5, hb4⟩
      · exact ⟨rt2, t2, (Option.some.inj hv).symm, (Option.some.inj hv').symm, hb6, hb3⟩
      · omega
    subst hcv hcv'
    repeat' (first | (k_unfold; (try dsimp only)) | walk1)
    exact ⟨_, _, _, rfl, rfl, by assumption, by assumption⟩
  · rintro s₂ ⟨h2, rfl⟩ D h tk' ys F1 N1 ne hys
    have hsum : ((List.range ([.int rp rt1, .int rq rt2] : List Value).length).map fun i => [rp, rq].getD i 0 * [f1, f0].getD i 0).sum = rp * f1 + rq * f0 := by
      show rp * f1 + (rq * f0 + 0) = _
      rw [Int.add_zero]
    repeat' (first | (k_unfold; (try dsimp only)) | walk1)
    rw [hsum]
    exact hret _ _ _ (Fr.keep (by assumption)) ⟨_, rfl⟩

end
section
abbrev tupO (x y : Int) (t1 t2 : Tok) (n : Nat) : Obj := { cls := .type "tuple", data := .seq #[.int x t1, .int y t2] n }
/-- a tuple (x, 1) stands at l -/
noncomputable def AT1 (h : Heap) (l : Addr) (x : Int) : Prop := ∃ (t1 t2 : Tok) (n : Nat), h.get? l = some (tupO x 1 t1 t2 n)
noncomputable def NT1 (h h' : Heap) (r : Value) (x : Int) : Prop := ∃ (l : Addr) (t1 t2 : Tok) (n : Nat), r = .ref l ∧ h.get? l = none ∧ h'.get? l = some (tupO x 1 t1 t2 n)
theorem NT1.of {g h : Heap} {L l : Addr} {news : List (Addr × Obj)} {x x' y' : Int} {t1 t2 : Tok} {n : Nat} (N : News g L h news) (hm : (l, tupO x' y' t1 t2 n) ∈ news) (hx : x' = x) (hy : y' = 1) : NT1 g h (.ref l) x := by
  subst hx hy
  exact ⟨l, t1, t2, n, rfl, (N _ hm).2.2, (N _ hm).1⟩
theorem AT1.news {g h : Heap} {L l : Addr} {news : List (Addr × Obj)} {x : Int} {t1 t2 : Tok} {n : Nat} (N : News g L h news) (hm : (l, tupO x 1 t1 t2 n) ∈ news) : AT1 h l x := ⟨t1, t2, n, (N _ hm).1⟩
theorem rat_c (w : World) (mean mg mb) (x : Int) (t t2 : Tok) :
    PCall w mean mg mb 2 158 [.int x t, .int 1 t2] (fun _ => Bd 8999 x) (fun h h' r => NT1 h h' r x) := by
  unfold PCall; k_fill
  intro dp un gd cn cs a ccd cl outer A₀ base h₀ L m sh gg dd tk oo Q E B F X T hk hdp hun hpre hret
  have h1 : Bd 8999 1 := Nat.one_lt_two_pow (by decide)
  have hg : ((Int.gcd x 1 : Nat) : Int) = 1 := by simp
  have hz : Nz ((Int.gcd x 1 : Nat) : Int) := by rw [hg]; exact Int.one_ne_zero
  have hb : Bd 8999 ((Int.gcd x 1 : Nat) : Int) := by rw [hg]; exact h1
  have hpre : Bd 8999 x := hpre
  refine wpAny_call ?_
  k_dflt walk_at "M.enter"
  walk_at "M.steps"
  exact hret _ _ _ (Fr.keep (by assumption)) (NT1.of (by assumption) (by k_mem) (by rw [hg, Int.fdiv_one]) (by rw [hg, Int.fdiv_one]))
section
variable {w : World} {mean : ExcName → Option Value} {mg mb : Str → Option Value} {sz : Nat} {f : Addr} {vs : List Value} {Pre : Heap → Prop}
  {dp un : Nat} {gd : Option (List Code)} {cn : Str} {cs : Scope} {a : Addr} {ccd : Value} {cl : List (Str × Addr)} {outer : List Env} {A₀ : Around} {base h₀ : Heap} {L : Addr} {m : Str → Option Value} {sh : Heap} {gg : Array GenState} {dd : Drawn} {tk : Nat} {oo : OsState} {Q E : Value → Shared → Prop} {news : List (Addr × Obj)}
theorem pc_useR {x : Int} (C : PCall w mean mg mb sz f vs Pre (fun h h' r => NT1 h h' r x)) (B : Below A₀ base outer h₀) (F : Fr h₀ L sh m) (X : (hd.heap_1 w.params).In h₀) (N : News h₀ L sh news) (T : Top hd.view_1 (looseW hd.view_1 []) mean mg mb h₀) (hk : cs.kind = .function)
    (hd : dp + sz < recursionLimit) (hu : un + 8 * sz + 100 < cLine) (hp : Pre sh)
    (ret : ∀ (l : Addr) (t1 t2 : Tok) (n : Nat) h' tk', Fr h₀ L h' m → News h₀ L h' ((l, tupO x 1 t1 t2 n) :: news) → Q (.ref l) ⟨h', gg, dd, tk', oo⟩) :
    wpAny (model Challenge.rw_xm0142_01.row.prog w) (ktrTop dp un gd cn cs L a ccd cl outer) (call (.ref f) vs) Q E ⟨sh, gg, dd, tk, oo⟩ :=
  pc_use C B F X N T hk hd hu hp fun r h' tk' st F' N' po => by
    obtain ⟨l, t1, t2, n, rfl, e0, g0⟩ := po
    obtain ⟨oL, _, _, hL, _⟩ := F.ns
    refine ret l t1 t2 n h' tk' F' fun p hp => ?_
    rcases List.mem_cons.mp hp with rfl | hp
    · refine ⟨g0, fun e => ?_, ?_⟩
      · have e : l = L := e
        rw [e, hL] at e0; cases e0
      · cases q : h₀.get? l with
        | none => rfl
        | some o => rw [F.keep _ _ q] at e0; cases e0
    · exact N' p hp
end

end
theorem rows_rat : True := by
  k_with "M.call" => ((with_reducible show wpAny _ _ (call (Value.ref 158) _) _ _ _); (try simp only [Int.mul_one, Int.one_mul]); k_dflt (refine' pc_useR (rat_c _ _ _ _ _ _ _) ?qqk1 ?qqk2 ?qqk3 ?qqk4 ?qqk5 ?qqkK ?qqkd ?qqku ?qqkp ?_; (walk_at "M.use"); (case qqkp => walk_at "M.hyp"); k_whole; intro _ _ _ _ _ _ _ _; (try k_sweep)))
  trivial
section
theorem radd_c (w : World) (mean mg mb) (la lb : Addr) (x y : Int) :
    PCall w mean mg mb 3 165 [.ref la, .ref lb] (fun h => AT1 h la x ∧ AT1 h lb y ∧ Bd 8000 x ∧ Bd 8000 y ∧ Bd 8999 (x + y)) (fun h h' r => NT1 h h' r (x + y)) := by
  unfold PCall; k_fill
  intro dp un gd cn cs a ccd cl outer A₀ base h₀ L m sh gg dd tk oo Q E B F X T hk hdp hun hpre hret
  obtain ⟨⟨t1, t2, n, ga⟩, ⟨t3, t4, k, gb⟩, hx, hy, hxy⟩ := hpre
  have hTa : IsTup sh la #[.int x t1, .int 1 t2] := ⟨_, ga, rfl, n, rfl⟩
  have hTb : IsTup sh lb #[.int y t3, .int 1 t4] := ⟨_, gb, rfl, k, rfl⟩
  have hx : Bd 500000 x := hx.mono (by decide)
  have hy : Bd 500000 y := hy.mono (by decide)
  have h1 : Bd 500000 1 := Nat.one_lt_two_pow (by decide)
  refine wpAny_call ?_
  k_dflt walk_at "M.enter"
  repeat' (first | (k_unfold; (try dsimp only)) | walk1)
  exact hret _ _ _ (Fr.keep (by assumption)) (NT1.of (by assumption) (by k_mem) rfl rfl)
theorem rmul_c (w : World) (mean mg mb) (la lb : Addr) (x y : Int) :
    PCall w mean mg mb 3 172 [.ref la, .ref lb] (fun h => AT1 h la x ∧ AT1 h lb y ∧ Bd 8000 x ∧ Bd 8000 y ∧ Bd 8999 (x * y)) (fun h h' r => NT1 h h' r (x * y)) := by
  unfold PCall; k_fill
  intro dp un gd cn cs a ccd cl outer A₀ base h₀ L m sh gg dd tk oo Q E B F X T hk hdp hun hpre hret
  obtain ⟨⟨t1, t2, n, ga⟩, ⟨t3, t4, k, gb⟩, hx, hy, hxy⟩ := hpre
  have hTa : IsTup sh la #[.int x t1, .int 1 t2] := ⟨_, ga, rfl, n, rfl⟩
  have hTb : IsTup sh lb #[.int y t3, .int 1 t4] := ⟨_, gb, rfl, k, rfl⟩
  have hx : Bd 500000 x := hx.mono (by decide)
  have hy : Bd 500000 y := hy.mono (by decide)
  have h1 : Bd 500000 1 := Nat.one_lt_two_pow (by decide)
  refine wpAny_call ?_
  k_dflt walk_at "M.enter"
  repeat' (first | (k_unfold; (try dsimp only)) | walk1)
  exact hret _ _ _ (Fr.keep (by assumption)) (NT1.of (by assumption) (by k_mem) rfl rfl)

end
theorem rows_radd : True := by
  k_with "M.tup" => first | with_reducible assumption | exact AT1.news (by assumption) (by k_mem) | assumption
  k_with "M.call" => ((with_reducible show wpAny _ _ (call (Value.ref 165) _) _ _ _); k_dflt (refine' pc_useR (radd_c _ _ _ _ _ _ _ _) ?qqk1 ?qqk2 ?qqk3 ?qqk4 ?qqk5 ?qqkK ?qqkd ?qqku ?qqkp ?_; (walk_at "M.use"); (case qqkp => exact ⟨by walk_at "M.tup", by walk_at "M.tup", by walk_at "M.hyp", by walk_at "M.hyp", by walk_at "M.hyp"⟩); k_whole; intro _ _ _ _ _ _ _ _; (try k_sweep)))
  k_with "M.call" => ((with_reducible show wpAny _ _ (call (Value.ref 172) _) _ _ _); k_dflt (refine' pc_useR (rmul_c _ _ _ _ _ _ _ _) ?qqk1 ?qqk2 ?qqk3 ?qqk4 ?qqk5 ?qqkK ?qqkd ?qqku ?qqkp ?_; (walk_at "M.use"); (case qqkp => exact ⟨by walk_at "M.tup", by walk_at "M.tup", by walk_at "M.hyp", by walk_at "M.hyp", by walk_at "M.hyp"⟩); k_whole; intro _ _ _ _ _ _ _ _; (try k_sweep)))
  trivial
section
theorem bd_mul1 {k : Nat} {a b : Int} (ha : Bd k a) (hb : Bd k b) : Bd (2 * k) (a * b) := by
  unfold Bd
  rw [Int.natAbs_mul, Nat.two_mul, Nat.pow_add]
  exact Nat.mul_lt_mul'' ha hb
theorem rows2_obeys : True := by
  k_with "M.memx" => first | assumption | exact .head _ | (refine .tail _ ?_; walk_at "M.memx") | (refine List.mem_append_right _ ?_; walk_at "M.memx") | (refine List.mem_append_left _ ?_; walk_at "M.memx")
  k_with "M.tup" => first | with_reducible assumption | exact AT1.news (by assumption) (by walk_at "M.memx") | assumption
  trivial
theorem item_tl {prog : Program} {w : World} {A : Around} {E : Value → Shared → Prop} {s : Shared} {h₀ : Heap} {L : Addr} {news : List (Addr × Obj)} {value slice : PySem.Expr} {l : Addr} {vs : List Value} {nn : Nat} {k : Int} {u : Tok} {Q : Value → Shared → Prop} (N : News h₀ L s.heap news) (hl : (l, listOf vs.toArray nn) ∈ news)
    (h0 : 0 ≤ k) (h1 : k < vs.length) (hfit : k < 2 ^ 63) (h : ∀ v, vs[k.toNat]? = some v → Q v s)
    (hs : subscripted slice false (.ref l) (.int k u) = operate [.ref l, .int k u] (getItem (.ref l) (.int k u)) := by with_unfolding_all rfl) :
    wpAny (model prog w) A (subscriptTail value slice (.ref l) (.int k u)) Q E s := by
  have hl' : s.heap.IsList l vs.toArray := N.isList hl
  have hlt : k.toNat < vs.length := by omega
  exact tail_any hl'.typeIs slot_list_getitem.lookup (wpAny_getItem_list hl' h0 hfit (x := vs[k.toNat]) (by simp [hlt]) (h _ (by simp [hlt]))) hs
theorem AT1.ofK {K : Frag} {h₀ h : Heap} {L a : Addr} {m : Str → Option Value} {x : Int} {t1 t2 : Tok} {n : Nat} (F : Fr h₀ L h m) (X : K.In h₀) (e : K.lookup a = some (tupO x 1 t1 t2 n)) : AT1 h a x := ⟨t1, t2, n, F.keep _ _ (X _ _ e)⟩
theorem unr_end2 {h₀ : Heap} {L I : Addr} {rest : (Str → Option Value) → List (Addr × Obj) → Prop} {s₁ : Shared} {h' : Heap} {tk : Nat} {m' : Str → Option Value} {Q : Flow → Shared → Prop} {l2 : Addr} {o2 oe oi : Obj} {x : Addr × Obj} {base : List (Addr × Obj)}
    (F : Fr h₀ L h' m') (N : News h₀ L h' ((l2, o2) :: x :: ((I + 1, oe) :: (I, oi) :: base))) (h2 : o2.cls = .type "tuple") (hoe : oe.cls = .type "enumerate") (hoi : oi.cls = .type "list_iterator") (hI : ∀ p ∈ base, @LT.lt Nat _ p.1 I ∨ p.2.cls = .type "tuple") (r : rest m' ((l2, o2) :: base)) :
    UnrPostW h₀ L s₁ [(I + 1, oe), (I, oi)] rest Q .next { s₁ with heap := h', toks := tk } := by
  show UnrEndW _ _ _ _ _ _
  refine ⟨h', tk, m', (l2, o2) :: base, rfl, F, kst_newsOf N fun p hp => ?_, fun p hp q hq e => ?_, r⟩
  · simp only [List.mem_append, List.mem_cons, List.not_mem_nil, or_false] at hp ⊢
    rcases hp with (h | h) | h | h <;> simp [h]
  · have hp' : p ∈ (l2, o2) :: x :: ((I + 1, oe) :: (I, oi) :: base) := by
      rcases List.mem_cons.mp hp with rfl | hp
      · exact .head _
      · exact .tail _ (.tail _ (.tail _ (.tail _ hp)))
    have hc : @LT.lt Nat _ p.1 I ∨ p.2.cls = .type "tuple" := by
      rcases List.mem_cons.mp hp with rfl | hp
      · exact .inr h2
      · exact hI p hp
    rcases List.mem_cons.mp hq with rfl | hq
    · rcases hc with hlt | hc
      · exact absurd (show p.1 = I + 1 from e) (Nat.ne_of_lt (Nat.lt_succ_of_lt hlt))
      · have g1 := (N _ (.tail _ (.tail _ (.head _)))).1
        rw [← e, (N p hp').1] at g1
        have := congrArg Obj.cls (Option.some.inj g1)
        rw [hc, hoe] at this
        exact absurd this (by decide)
    · rw [List.mem_singleton.mp hq] at e
      rcases hc with hlt | hc
      · exact absurd (show p.1 = I from e) (Nat.ne_of_lt hlt)
      · have g1 := (N _ (.tail _ (.tail _ (.tail _ (.head _))))).1
        rw [← e, (N p hp').1] at g1
        have := congrArg Obj.cls (Option.some.inj g1)
        rw [hc, hoi] at this
        exact absurd this (by decide)
theorem obeys_c (w : World) (mean : ExcName → Option Value) (mg mb : Str → Option Value) (la lb p q : Addr) (c1 c2 : Int) (zs : List Int) (vs : List Value) (na nb np nq : Nat) (tp tp' tq tq' : Tok) (news : List (Addr × Obj))
    (dp un : Nat) (gd : Option (List Code)) (cn : Str) (cs : Scope) (a : Addr) (ccd : Value) (cl : List (Str × Addr)) (outer : List Env) (A₀ : Around) (base h₀ : Heap) (L : Addr) (m : Str → Option Value) (sh : Heap) (gg : Array GenState) (dd : Drawn) (tk : Nat) (oo : OsState) (Q E : Value → Shared → Prop)
    (B : Below A₀ base outer h₀) (F : Fr h₀ L sh m) (X : (hd.heap_1 w.params).In h₀) (N : News h₀ L sh news) (T : Top hd.view_1 (looseW hd.view_1 []) mean mg mb h₀) (hk : cs.kind = .function) (hdp : dp + 5 < recursionLimit) (hun : un + 8 * 5 + 100 < cLine)
    (hma : (la, listOf vs.toArray na) ∈ news) (hmb : (lb, listOf #[.ref p, .ref q] nb) ∈ news) (hmp : (p, tupO c1 1 tp tp' np) ∈ news) (hmq : (q, tupO c2 1 tq tq' nq) ∈ news)
    (hlv : vs.length = zs.length) (hz20 : zs.length ≤ 20) (hvs : ∀ i v, vs[i]? = some v → ∃ a t1 t2 n, v = .ref a ∧ (a, tupO (zs.getD i 0) 1 t1 t2 n) ∈ news) (hbz : BdL 3000 zs) (hb1 : Bd 3000 c1) (hb2 : Bd 3000 c2) (hrec : ∀ i, i + 2 < zs.length → c1 * zs.getD (i + 1) 0 + c2 * zs.getD i 0 = zs.getD (i + 2) 0)
    (hret : ∀ h' tk', Fr h₀ L h' m → News h₀ L h' news → Q (.bool true) ⟨h', gg, dd, tk', oo⟩) :
    wpAny (model Challenge.rw_xm0142_01.row.prog w) (ktrTop dp un gd cn cs L a ccd cl outer) (call (.ref 208) [.ref la, .ref lb]) Q E ⟨sh, gg, dd, tk, oo⟩ := by
  revert X; k_fill; intro X
  refine wpAny_noRaise ?_
  refine wpAny_call ?_
  k_dflt walk_at "M.enterE"
  repeat' (first | (k_unfold; (try dsimp only)) | ((walk_at "M.guard"); walk1))
  refine len_list (items := vs.toArray) (News.isList (by assumption) hma) (by rw [List.size_toArray, hlv]; omega) ?_
  rw [List.size_toArray, hlv]
  repeat' (first | (k_unfold; (try dsimp only)) | ((walk_at "M.guard"); walk1))
  rename IsRange _ _ _ _ _ _ _ _ => rgX
  rename Fr _ _ _ _ => lF'
  rename News _ _ _ _ => lN'
  have hsm : Builtin.Range.small 2 (zs.length : Int) 1 = true := small_one (by omega) (by omega) (by omega) (by omega)
  have hrs : Builtin.Range.rangeSize 2 (zs.length : Int) 1 = ((zs.length - 2 : Nat) : Int) := by rw [rangeSize_nat]; omega
  refine m_rangeF (σ := Unit) (fun _ => news) (fun _ => [(Str.ofString "row", .ref la), (Str.ofString "steps", .ref lb)]) (fun _ _ => True) () rfl rgX hsm hrs lF' lN' (fun _ h => h) (fun _ p hp => .inl hp) (by with_unfolding_all kst_all) trivial ?_ ?_
  · rintro i ⟨⟩ tk u h tk' own Qb hEnd hRt hi - - F1 N1
    dsimp only at F1 N1 ⊢
    clear hsm hrs
    have hi2 : i + 2 < zs.length := by omega
    repeat' (first | (k_unfold; (try dsimp only)) | ((fail_if_success (with_reducible show wpAny _ _ (exec (Stmt.For _ _ _ _ _) _) _ _ _)); (walk_at "M.guard"); walk1))
    rename Fr _ _ _ _ => lF
    refine For_turns lF ?_
    repeat' (first | (k_unfold; (try dsimp only)) | ((fail_if_success (with_reducible show wpAny _ _ (call (Value.type "enumerate") _) _ _ _)); walk1))
    rename Fr _ _ _ _ => lF
    rename News _ _ _ _ => lN
    refine ktu_enum (vs := [.ref p, .ref q]) rfl lF lN (List.mem_append_left _ hmb) rfl rfl rfl fun I hI => ?_
    refine ItemsRest.pair fun T t h tk hT F1 => ?_
    refine AllObj.cons fun oe hoe => AllObj.cons fun oi hoi => AllObj.nil fun N1 => ?_
    have e1 : (2 + (i : Int) - 1 - ((0 : Nat) : Int)).toNat = i + 1 := by omega
    have e2 : (2 + (i : Int) - 1 - ((1 : Nat) : Int)).toNat = i := by omega
    have q1 : Bd 3000 (zs.getD (i + 1) 0) := hbz.getD0 _
    have q0 : Bd 3000 (zs.getD i 0) := hbz.getD0 _
    have z0 : Bd 8000 0 := Nat.pow_pos (by decide)
    have m1 : Bd 7000 (c1 * zs.getD (i + 1) 0) := (bd_mul1 hb1 q1).mono (by decide)
    have m0 : Bd 7000 (c2 * zs.getD i 0) := (bd_mul1 hb2 q0).mono (by decide)
    have s1 : Bd 7001 (c1 * zs.getD (i + 1) 0 + c2 * zs.getD i 0) := (bd_mm hb1 q1 hb2 q0).mono (by decide)
    have u1 : Bd 8000 c1 := hb1.mono (by decide)
    have u2 : Bd 8000 c2 := hb2.mono (by decide)
    have u3 : Bd 8000 (zs.getD (i + 1) 0) := q1.mono (by decide)
    have u4 : Bd 8000 (zs.getD i 0) := q0.mono (by decide)
    have u5 : Bd 8999 (c1 * zs.getD (i + 1) 0) := m1.mono (by decide)
    have u6 : Bd 8000 (c1 * zs.getD (i + 1) 0) := m1.mono (by decide)
    have u7 : Bd 8999 (c2 * zs.getD i 0) := m0.mono (by decide)
    have u8 : Bd 8000 (c2 * zs.getD i 0) := m0.mono (by decide)
    have u9 : Bd 8999 (0 + c1 * zs.getD (i + 1) 0) := by rw [Int.zero_add]; exact u5
    have u10 : Bd 8000 (0 + c1 * zs.getD (i + 1) 0) := by rw [Int.zero_add]; exact u6
    have u11 : Bd 8999 (0 + c1 * zs.getD (i + 1) 0 + c2 * zs.getD i 0) := by rw [Int.zero_add]; exact s1.mono (by decide)
    repeat' (first | (k_unfold; (try dsimp only)) | ((fail_if_success (with_reducible show wpAny _ _ (PyProof.Rows.subscriptTail _ _ _ _) _ _ _)); walk1))
    refine item_tl (by assumption) (by walk_at "M.memx") (by omega) (by rw [hlv]; omega) (by omega) fun rv hrv => ?_
    obtain ⟨ra, r1, r2, rk, rfl, hrm⟩ := hvs _ _ hrv
    rw [e1] at hrm
    repeat' (first | (k_unfold; (try dsimp only)) | ((fail_if_success (with_reducible show wpAny _ _ (call (Value.ref 165) _) _ _ _)); walk1))
    have hR0 := AT1.ofK (a := 151) (x := 0) (by assumption) (by assumption) (by k_is)
    repeat' (first | (k_unfold; (try dsimp only)) | ((fail_if_success (with_reducible show UnrPostW _ _ _ _ _ _ _ _)); walk1))
    refine unr_end2 (by assumption) (by assumption) rfl hoe hoi (fun p hp => .inl (hI p hp)) ⟨⟨.tail _ (List.mem_append_left _ hmb), trivial⟩, ?_⟩
    clear hrm hrv hR0 hoe hoi
    refine ItemsRest.pair fun T t h tk hT F1 => ?_
    refine AllObj.cons fun oe hoe => AllObj.cons fun oi hoi => AllObj.nil fun N1 => ?_
    repeat' (first | (k_unfold; (try dsimp only)) | ((fail_if_success (with_reducible show wpAny _ _ (PyProof.Rows.subscriptTail _ _ _ _) _ _ _)); walk1))
    refine item_tl (by assumption) (by walk_at "M.memx") (by omega) (by rw [hlv]; omega) (by omega) fun rv hrv => ?_
    obtain ⟨ra, r1, r2, rk, rfl, hrm⟩ := hvs _ _ hrv
    rw [e2] at hrm
    repeat' (first | (k_unfold; (try dsimp only)) | ((fail_if_success (with_reducible show UnrPostW _ _ _ _ _ _ _ _)); walk1))
    refine unr_end2 (by assumption) (by assumption) rfl hoe hoi (fun p hp => (List.mem_cons.mp hp).elim (fun h => .inr (h ▸ rfl)) fun h => .inl (hI p h)) ⟨⟨.tail _ (.tail _ (List.mem_append_left _ hmb)), trivial⟩, ?_⟩
    clear hrm hrv hoe hoi
    refine ItemsRest.zero fun h tk F1 N1 => ?_
    repeat' (first | (k_unfold; (try dsimp only)) | ((fail_if_success (with_reducible show wpAny _ _ (PyProof.Rows.subscriptTail _ _ _ _) _ _ _)); walk1))
    refine item_tl (by assumption) (by walk_at "M.memx") (by omega) (by rw [hlv]; omega) (by omega) fun rv hrv => ?_
    obtain ⟨ra, r1, r2, rk, rfl, hrm⟩ := hvs _ _ hrv
    have e3 : (2 + (i : Int)).toNat = i + 2 := by omega
    rw [e3, ← hrec i hi2] at hrm
    clear hrv
    repeat' (first | (k_unfold; (try dsimp only)) | ((fail_if_success (with_reducible show wpAny _ _ (compareOp _ (Value.ref _) (Value.ref _)) _ _ _)); (walk_at "M.guard"); walk1))
    refine ne_dataH (reads_tuple_at (News.get (by assumption) (by walk_at "M.memx")) rfl rfl (ReadsAll.cons (Reads.int _ _) (ReadsAll.cons (Reads.int _ _) ReadsAll.nil))) (reads_tuple_at (News.get (by assumption) (by walk_at "M.memx")) rfl rfl (ReadsAll.cons (Reads.int _ _) (ReadsAll.cons (Reads.int _ _) ReadsAll.nil))) (by ke_shaped) (by ke_shaped) (by ke_room) ?_
    rw [Int.zero_add]
    ke_norm
    repeat' (first | (k_unfold; (try dsimp only)) | ((walk_at "M.guard"); walk1))
    exact hEnd () (by assumption) (by assumption) (by with_unfolding_all kst_all) (fun p hp => .tail _ (.tail _ (List.mem_append_left _ hp))) (fun p hp => .tail _ (.tail _ (List.mem_append_right _ hp))) trivial
  · rintro ⟨⟩ u h tk - F1 N1
    repeat' (first | (k_unfold; (try dsimp only)) | ((walk_at "M.guard"); walk1))
    exact hret _ _ (by assumption) (by assumption)

end
section
theorem recrow_i (w : World) (mean mg mb) (l1 l2 : Addr) (x : Int) (N : Nat) (t : Tok) (c1 c2 f0 f1 : Int) (hx : x = (N : Int)) :
    PCall w mean mg mb 3 184 [.ref l1, .ref l2, .int x t] (fun h => AL h l1 [c1, c2] ∧ AL h l2 [f0, f1] ∧ 2 ≤ N ∧ N ≤ 60 ∧ Bd 2 c1 ∧ Bd 2 c2 ∧ Bd 2 f0 ∧ Bd 2 f1) (fun h h' r => NL h h' r (rowL c1 c2 f0 f1 N)) := by
  subst hx; exact recrow_c w mean mg mb l1 l2 N t c1 c2 f0 f1
section
variable {prog : Program} {w : World} {A : Around} {E : Value → Shared → Prop} {s : Shared} {h₀ : Heap} {L : Addr} {m : Str → Option Value} {env : Env}
theorem asg_step {elt iter : Expr} {x y : Str} {px py : Pos} {scope : Scope} {cl : List (Str × Addr)} {pos spos : Pos} {Q : Flow → Shared → Prop} (F₀ : Fr h₀ L s.heap m) (hLe : env.locals = L)
    (hsw : swapsWith (.ListComp elt [⟨.Name x px, iter, [], 0⟩] scope pos) (some (.Name y py)) spos.line env = pure true)
    (hclos : closureFor scope env = pure cl) (hcell : ∀ z ∈ scope.names, z.2 ≠ .cell) (hkind : scope.kind = .function)
    (hnames : ∀ z ∈ scope.names, z.2 = .local → scope.names.lookup z.1 = some .local) (hx : scope.names.lookup x = some .local)
    (hy : env.kindOf y = some .local) (hp : (env.scope.kind == .class || (env.scope.kind == .module && env.locals != env.globals)) = false)
    (h : wpAny (model prog w) A (eval iter env) (SrcS prog w A h₀ L m env elt x scope cl (fun s₂ => LCg.FinA h₀ L m s₂ y Q)) E s)
    (hs : ∀ x, foldedSetIterable iter env x = pure x := by intro _; rfl) :
    wpAny (model prog w) A (exec (.Assign [.Name y py] (.ListComp elt [⟨.Name x px, iter, [], 0⟩] scope pos) spos) env) Q E s := by
  subst hLe
  rw [exec_Assign_Name_used _ _ _ _ hsw]
  refine wpAny_bind (wpAny_standAt (wpAny_bind ?_))
  show wpAny _ A (do let _ ← comprehension (.ListComp elt [⟨.Name x px, iter, [], 0⟩] scope pos) scope env _ (newList []) false (eval iter env) (some (assign (.Name y py) env))) _ _ s
  refine wpAny_bind (wpAny_mono (wpAny_comprehension_free (use := some (assign (.Name y py) env)) (Q := fun _ s' => Q .next s') rfl hs hclos hkind hnames
    (wpAny_mono h (fun xv s₁ h₁ => ?_) fun _ _ e => e)) (fun _ s' hq => wpAny_pure (wpAny_pure hq)) fun _ _ e => e)
  obtain ⟨r, a, b, c, t, u, v, n, news, rfl, hh, F, N, hr, hsm, hn, hsz, R⟩ := h₁
  refine wpAny_pyIter_range hr hsm ?_
  refine LCg.block_U (step_walks hh a c n) hsz (fun i h st => ⟨_, st⟩) step_st hcell hkind hx (by show IsRangeIter _ _ _ _ _; rw [hn]; simpa using Heap.get?_push_size _ rfl) (fun b hb => ?_)
    (F.keeps fun _ _ e => Heap.get?_push_of_some _ e) (N.grown fun _ _ e => Heap.get?_push_of_some _ e) (Nat.ne_of_lt F.ns.lt) (next_is_new F) (fun p hp => Nat.ne_of_lt (Heap.lt_size (N p hp).1)) trivial (R _ ⟨_, rfl⟩) ?_
  · rw [List.mem_singleton.mp hb]
    show s₁.heap.objs.size < (s₁.heap.push _).objs.size
    rw [Heap.size_push]; exact Nat.lt_succ_self _
  · intro D C h' tk m' ys news' F' N' o1 hn hC₀ hD₀ hCL hDL hCD offC fin
    show wpAny _ A (assign (.Name y py) env (.ref D)) _ _ _
    refine wpAny_assign_Name (wpAny_storeName_local hy F'.ns (fun h₂ hn₂ hs₂ => ?_) hp)
    have hL₀ : h₀.get? env.locals = none := Heap.get?_none_of_le F'.above
    have F₂ : Fr h₀ env.locals h₂ (fun z => if z = y then some (.ref D) else m z) := ⟨hn₂, fun b o e => hs₂.extBut b o (fun q => by rw [q, hL₀] at e; cases e) (F'.keep b o e), F'.above⟩
    refine ⟨m', hn.sameBut hs₂ hCL, fun h'' hs'' => fin D h'' _ (F₂.change hs'' hCL hC₀) (fun p hp => ?_) o1⟩
    have z : h₂.get? p.1 = some p.2 := hs₂.extBut _ _ (N' p hp).2.1 (N' p hp).1
    refine ⟨hs''.extBut _ _ ?_ z, (N' p hp).2⟩
    rcases List.mem_cons.mp hp with rfl | hp
    · exact Ne.symm hCD
    · exact offC p hp
end
theorem taken_eq (c1 c2 f0 f1 : Int) (b m : Nat) (hm : 1 ≤ m) : List.map (fun k' : Int => (rowL c1 c2 f0 f1 (b + 4 * m + 1)).getD k'.toNat 0) (stepKs (b : Int) (m : Int) (if (b : Int) < ((rowL c1 c2 f0 f1 (b + 4 * m + 1)).length : Int) then (((rowL c1 c2 f0 f1 (b + 4 * m + 1)).length : Int) - (b : Int) - 1) / (m : Int) + 1 else 0).toNat)
    = [recX c1 c2 f0 f1 b, recX c1 c2 f0 f1 (b + m), recX c1 c2 f0 f1 (b + m + m), recX c1 c2 f0 f1 (b + m + m + m), recX c1 c2 f0 f1 (b + m + m + m + m)] := by
  have e : (if (b : Int) < ((rowL c1 c2 f0 f1 (b + 4 * m + 1)).length : Int) then (((rowL c1 c2 f0 f1 (b + 4 * m + 1)).length : Int) - (b : Int) - 1) / (m : Int) + 1 else 0).toNat = 5 := by
    rw [rowL_length, if_pos (by omega), show ((b + 4 * m + 1 : Nat) : Int) - (b : Int) - 1 = 4 * (m : Int) by omega, Int.mul_ediv_cancel _ (by omega)]
    rfl
  rw [e]
  have g : ∀ i : Nat, i ≤ 4 → (rowL c1 c2 f0 f1 (b + 4 * m + 1)).getD ((b : Int) + (i : Int) * (m : Int)).toNat 0 = recX c1 c2 f0 f1 (b + i * m) := by
    intro i hi
    have h1 : i * m ≤ 4 * m := Nat.mul_le_mul_right _ hi
    rw [← Int.natCast_mul, ← Int.natCast_add, Int.toNat_natCast, rowL_get _ _ _ _ (by omega)]
  unfold stepKs
  rw [List.map_map]
  refine (List.map_congr_left (g := fun i : Nat => recX c1 c2 f0 f1 (b + i * m)) fun i hi => g i (by have := List.mem_range.mp hi; omega)).trans ?_
  show [recX c1 c2 f0 f1 (b + 0 * m), recX c1 c2 f0 f1 (b + 1 * m), recX c1 c2 f0 f1 (b + 2 * m), recX c1 c2 f0 f1 (b + 3 * m), recX c1 c2 f0 f1 (b + 4 * m)] = _
  rw [Nat.zero_mul, Nat.one_mul, Nat.add_zero, show b + 2 * m = b + m + m by omega, show b + 3 * m = b + m + m + m by omega, show b + 4 * m = b + m + m + m + m by omega]
theorem law_true (args : List WData) : Challenge.rw_xm0142_01.row.claim.post args (.bool true) args = true := by
  first
    | exact postW_of rfl rfl rfl
    | (with_unfolding_all exact postW_of rfl rfl rfl)
    | exact postW_of (by wrow_shape) (by wtm_val) (by w_fin)
theorem hvs5 {news : List (Addr × Obj)} {a0 a1 a2 a3 a4 : Addr} {w0 w1 w2 w3 w4 : Int} {s0 s1 s2 s3 s4 r0 r1 r2 r3 r4 : Tok} {n0 n1 n2 n3 n4 : Nat}
    (h0 : (a0, tupO w0 1 s0 r0 n0) ∈ news) (h1 : (a1, tupO w1 1 s1 r1 n1) ∈ news) (h2 : (a2, tupO w2 1 s2 r2 n2) ∈ news) (h3 : (a3, tupO w3 1 s3 r3 n3) ∈ news) (h4 : (a4, tupO w4 1 s4 r4 n4) ∈ news) :
    ∀ i v, ([.ref a0, .ref a1, .ref a2, .ref a3, .ref a4] : List Value)[i]? = some v → ∃ a t1 t2 n, v = .ref a ∧ (a, tupO (([w0, w1, w2, w3, w4] : List Int).getD i 0) 1 t1 t2 n) ∈ news
  | 0, _, h => ⟨_, _, _, _, (Option.some.inj h).symm, h0⟩
  | 1, _, h => ⟨_, _, _, _, (Option.some.inj h).symm, h1⟩
  | 2, _, h => ⟨_, _, _, _, (Option.some.inj h).symm, h2⟩
  | 3, _, h => ⟨_, _, _, _, (Option.some.inj h).symm, h3⟩
  | 4, _, h => ⟨_, _, _, _, (Option.some.inj h).symm, h4⟩
  | i + 5, _, h => absurd h (by simp)
theorem ints_five {ys : List Value} {a b c d e : Int} (h : IntsAre ys [a, b, c, d, e]) : ∃ t1 t2 t3 t4 t5 : Tok, ys = [.int a t1, .int b t2, .int c t3, .int d t4, .int e t5] := by
  cases h with | cons _ t1 h => cases h with | cons _ t2 h => cases h with | cons _ t3 h => cases h with | cons _ t4 h => cases h with | cons _ t5 h => cases h with | nil => exact ⟨t1, t2, t3, t4, t5, rfl⟩
theorem numat_i (w : World) (mean mg mb) (la lb : Addr) (x : Int) (n : Nat) (t : Tok) (c1 c2 f0 f1 y : Int) (hx : x = (n : Int)) (hy : (mpow (c1, c2, 1, 0) (n - 1)).1 * f1 + (mpow (c1, c2, 1, 0) (n - 1)).2.1 * f0 = y) :
    PCall w mean mg mb 5 201 [.ref la, .ref lb, .int x t] (fun h => AL h la [c1, c2] ∧ AL h lb [f0, f1] ∧ 2 ≤ n ∧ n ≤ 60 ∧ Bd 2 c1 ∧ Bd 2 c2 ∧ Bd 500000 f0 ∧ Bd 500000 f1 ∧ Bd 500000 (mpow (c1, c2, 1, 0) (n - 1)).1 ∧ Bd 500000 (mpow (c1, c2, 1, 0) (n - 1)).2.1) (fun h h' r => ∃ t, r = .int y t) := by
  subst hx hy; exact numat_c w mean mg mb la lb n t c1 c2 f0 f1
/-- forget all names but some -/
theorem fr_forget {h₀ h : Heap} {L : Addr} {m : Str → Option Value} (ps : List (Str × Value)) (F : Fr h₀ L h m) (hp : ∀ p ∈ ps, m p.1 = some p.2) : ∃ u, Fr h₀ L h (kstB u ps) :=
  ⟨m, by rw [show kstB m ps = m from funext fun z => kstB_eq hp fun _ => rfl]; exact F⟩
/-- one conjunct of a chain of orders gives the two addresses apart -/
theorem ng1 {x y : Nat} {R : Prop} (h : x < y ∧ R) : @Ne Addr y x := Nat.ne_of_gt (h.1)
theorem ng1e {x y : Nat} (h : x < y) : @Ne Addr y x := Nat.ne_of_gt (h)
theorem ng2 {x y : Nat} {P1 R : Prop} (h : P1 ∧ x < y ∧ R) : @Ne Addr y x := Nat.ne_of_gt (h.2.1)
theorem ng2e {x y : Nat} {P1 : Prop} (h : P1 ∧ x < y) : @Ne Addr y x := Nat.ne_of_gt (h.2)
theorem ng3 {x y : Nat} {P1 P2 R : Prop} (h : P1 ∧ P2 ∧ x < y ∧ R) : @Ne Addr y x := Nat.ne_of_gt (h.2.2.1)
theorem ng3e {x y : Nat} {P1 P2 : Prop} (h : P1 ∧ P2 ∧ x < y) : @Ne Addr y x := Nat.ne_of_gt (h.2.2)
theorem ng4 {x y : Nat} {P1 P2 P3 R : Prop} (h : P1 ∧ P2 ∧ P3 ∧ x < y ∧ R) : @Ne Addr y x := Nat.ne_of_gt (h.2.2.2.1)
theorem ng4e {x y : Nat} {P1 P2 P3 : Prop} (h : P1 ∧ P2 ∧ P3 ∧ x < y) : @Ne Addr y x := Nat.ne_of_gt (h.2.2.2)
theorem ng5 {x y : Nat} {P1 P2 P3 P4 R : Prop} (h : P1 ∧ P2 ∧ P3 ∧ P4 ∧ x < y ∧ R) : @Ne Addr y x := Nat.ne_of_gt (h.2.2.2.2.1)
theorem ng5e {x y : Nat} {P1 P2 P3 P4 : Prop} (h : P1 ∧ P2 ∧ P3 ∧ P4 ∧ x < y) : @Ne Addr y x := Nat.ne_of_gt (h.2.2.2.2)
theorem ng6 {x y : Nat} {P1 P2 P3 P4 P5 R : Prop} (h : P1 ∧ P2 ∧ P3 ∧ P4 ∧ P5 ∧ x < y ∧ R) : @Ne Addr y x := Nat.ne_of_gt (h.2.2.2.2.2.1)
theorem ng6e {x y : Nat} {P1 P2 P3 P4 P5 : Prop} (h : P1 ∧ P2 ∧ P3 ∧ P4 ∧ P5 ∧ x < y) : @Ne Addr y x := Nat.ne_of_gt (h.2.2.2.2.2)
theorem ng7 {x y : Nat} {P1 P2 P3 P4 P5 P6 R : Prop} (h : P1 ∧ P2 ∧ P3 ∧ P4 ∧ P5 ∧ P6 ∧ x < y ∧ R) : @Ne Addr y x := Nat.ne_of_gt (h.2.2.2.2.2.2.1)
theorem ng7e {x y : Nat} {P1 P2 P3 P4 P5 P6 : Prop} (h : P1 ∧ P2 ∧ P3 ∧ P4 ∧ P5 ∧ P6 ∧ x < y) : @Ne Addr y x := Nat.ne_of_gt (h.2.2.2.2.2.2)
theorem ng8 {x y : Nat} {P1 P2 P3 P4 P5 P6 P7 R : Prop} (h : P1 ∧ P2 ∧ P3 ∧ P4 ∧ P5 ∧ P6 ∧ P7 ∧ x < y ∧ R) : @Ne Addr y x := Nat.ne_of_gt (h.2.2.2.2.2.2.2.1)
theorem ng8e {x y : Nat} {P1 P2 P3 P4 P5 P6 P7 : Prop} (h : P1 ∧ P2 ∧ P3 ∧ P4 ∧ P5 ∧ P6 ∧ P7 ∧ x < y) : @Ne Addr y x := Nat.ne_of_gt (h.2.2.2.2.2.2.2)
theorem rows2_law : True := by
  k_with "M.ne" => first | with_reducible assumption | exact ng1 (by with_reducible assumption) | exact ng1e (by with_reducible assumption) | exact ng2 (by with_reducible assumption) | exact ng2e (by with_reducible assumption) | exact ng3 (by with_reducible assumption) | exact ng3e (by with_reducible assumption) | exact ng4 (by with_reducible assumption) | exact ng4e (by with_reducible assumption) | exact ng5 (by with_reducible assumption) | exact ng5e (by with_reducible assumption) | exact ng6 (by with_reducible assumption) | exact ng6e (by with_reducible assumption) | exact ng7 (by with_reducible assumption) | exact ng7e (by with_reducible assumption) | exact ng8 (by with_reducible assumption) | exact ng8e (by with_reducible assumption) | exact Ne.symm (ng1 (by with_reducible assumption)) | exact Ne.symm (ng1e (by with_reducible assumption)) | exact Ne.symm (ng2 (by with_reducible assumption)) | exact Ne.symm (ng2e (by with_reducible assumption)) | exact Ne.symm (ng3 (by with_reducible assumption)) | exact Ne.symm (ng3e (by with_reducible assumption)) | exact Ne.symm (ng4 (by with_reducible assumption)) | exact Ne.symm (ng4e (by with_reducible assumption)) | exact Ne.symm (ng5 (by with_reducible assumption)) | exact Ne.symm (ng5e (by with_reducible assumption)) | exact Ne.symm (ng6 (by with_reducible assumption)) | exact Ne.symm (ng6e (by with_reducible assumption)) | exact Ne.symm (ng7 (by with_reducible assumption)) | exact Ne.symm (ng7e (by with_reducible assumption)) | exact Ne.symm (ng8 (by with_reducible assumption)) | exact Ne.symm (ng8e (by with_reducible assumption)) | exact neN (by omega)
  k_with "M.upd" => first
    | (refine' UpdF.head ?_; (repeat (first | exact List.forall_mem_nil _ | with_reducible assumption | (refine' List.forall_mem_cons.mpr ⟨?qqne, ?_⟩; (case qqne => dsimp only; walk_at "M.ne")))); done)
    | (refine' UpdF.tail ?qqne ?_; (case qqne => dsimp only; walk_at "M.ne"); walk_at "M.upd")
  trivial
local macro_rules | `(tactic| k_updF) => `(tactic| walk_at "M.upd")
/-- the state of the first loop of the law -/
structure LwS where
  (lf : Addr) (uf : List Value) (nf : Nat) (z : List Int) (sp : Int) (ts : Tok)
theorem lead_facts {k : Nat} (h : k < 5) : -3 ≤ ([1, -1, 2, -2, 3] : List Int).getD k 0 ∧ ([1, -1, 2, -2, 3] : List Int).getD k 0 ≤ 3 ∧ ([1, -1, 2, -2, 3] : List Int).getD k 0 ≠ 0 := by
  have : ∀ k < 5, -3 ≤ ([1, -1, 2, -2, 3] : List Int).getD k 0 ∧ ([1, -1, 2, -2, 3] : List Int).getD k 0 ≤ 3 ∧ ([1, -1, 2, -2, 3] : List Int).getD k 0 ≠ 0 := by decide
  exact this k h
theorem ce_one {h₀ h' : Heap} {L I C D T : Addr} {m : Str → Option Value} {s₁ : Shared} {oI oC oD o : Obj} {S : List (Addr × Obj) → Prop} {rest : Value → List (Addr × Obj) → Prop} {y : Value} {tk : Nat} {news : List (Addr × Obj)}
    (F : Fr h₀ L h' m) (N : News h₀ L h' ((T, o) :: (I, oI) :: (C, oC) :: (D, oD) :: news)) (off : LCg.Off3 I C D news) (lt : @LT.lt Nat _ I T ∧ @LT.lt Nat _ C T ∧ @LT.lt Nat _ D T) (hS : S ((T, o) :: news)) (r : rest y ((T, o) :: news)) :
    LCg.CompEnd h₀ L m s₁ I oI C oC D oD S rest y { s₁ with heap := h', toks := tk } :=
  .intro F N ((T, o) :: news) (fun p hp => by
    rcases List.mem_cons.mp hp with rfl | hp
    · exact .tail _ (.head _)
    rcases List.mem_cons.mp hp with rfl | hp
    · exact .tail _ (.tail _ (.head _))
    rcases List.mem_cons.mp hp with rfl | hp
    · exact .tail _ (.tail _ (.tail _ (.head _)))
    rcases List.mem_cons.mp hp with rfl | hp
    · exact .head _
    · exact .tail _ (.tail _ (.tail _ (.tail _ hp)))) ⟨⟨Nat.ne_of_gt lt.1, Nat.ne_of_gt lt.2.1, Nat.ne_of_gt lt.2.2⟩, off⟩ hS r
local macro_rules | `(tactic| k_all) => `(tactic| assumption)
theorem rows3_law : True := by
  k_with "M.memx" => first | exact .head _ | (refine .tail _ ?_; walk_at "M.memx")
  k_with "subscriptTail" => (k_here; (with_reducible show wpAny _ _ (subscriptTail _ _ (Value.ref _) (Value.int (OfNat.ofNat _) _)) _ _ _); first
    | kim_at
    | (with_unfolding_all refine' item_litK ?qqk1 ?qqk2 ?qqk3 ?qqk4 ?_ ?qqk6; (case qqk1 => is_list); (case qqk2 => decide); (case qqk3 => decide); (case qqk4 => rfl); (case qqk6 => with_unfolding_all rfl); k_whole)
    | (k_dflt (refine' item_tupleT ?qqt ?qqa ?qqb ?qqc ?qqd ?_; (case qqt => exact News.isTup (by k_asm) (by k_mem)); (case qqa => decide); (case qqb => decide); (case qqc => rfl); (case qqd => rfl); k_whole)))
  k_with "subscriptTail Name Constant ref int" => k_extra "subscriptTail"
  k_with "subscriptTail Subscript Constant ref int" => k_extra "subscriptTail"
  k_with "subscriptTail Call Constant ref int" => k_extra "subscriptTail"
  k_with "CompRest" => (with_unfolding_all (refine LCg.CompRest.succ ?_; intro v' I' oI' C' oC' D' m' h' tk' E' hv' hC' hx' F' N' off' ne'; lcg_open hv'))
  k_with "CompEnd" => (k_dflt (refine' ce_one ?qqc1 ?qqc2 ?qqc3 ?qqc4 ?qqc5 ?_; (case qqc1 => k_asm); (case qqc2 => k_asm); (case qqc3 => with_reducible assumption); (case qqc4 => exact ⟨by omega, by omega, by omega⟩); (case qqc5 => (refine' Or.inr ⟨_, ?qqd1, ?qqd2⟩; (case qqd1 => walk_at "M.memx"); (case qqd2 => exact ⟨rfl, _, rfl⟩)))))
  trivial
theorem lawx : PySem.Challenge.rw_xm0142_01.Holds := by
  refine hd ?_
  k_go0
  all_goals try k_fold
  repeat' (first | (k_unfold; (try dsimp only)) | ((walk_at "M.guard"); walk1))
  rename_i orow dcell b15 sl b12 b11 b10 b9 b8 b7 b6 b5 b4 hys hys2 lb b3 b2 b1 lp a1 a2 a3 a4 a5 a6 a7 a8 a9 xl a10 a11 a12 a13 hxl0 hxl1 a14 lf a15 a16 a17 a17b xd a18 tsp a19 a20 hxd0 hxd1 a21 a22 a23 a24 t₁ u₁ v₁ rgX lF lN a25
  have hsm : Builtin.Range.small 0 (1 + xd) 1 = true := small_one (by omega) (by omega) (by omega) (by omega)
  have hrs : Builtin.Range.rangeSize 0 (1 + xd) 1 = (((1 + xd).toNat : Nat) : Int) := by rw [rangeSize_nat]; omega
  refine m_rangeF (σ := LwS) (fun c => [(c.lf, listOf c.uf.toArray c.nf), (lp, listOf #[.ref lb, .int c.sp c.ts] 0), (lb, LCg.lst ys), (_, orow)]) (fun c => [(Str.ofString "f", .ref c.lf), (Str.ofString "pool", .ref lp)])
    (fun i c => @Ne Nat c.lf lp ∧ IntsAre c.uf c.z ∧ c.sp = 2 + (i : Int) ∧ c.z.length = i + 1 ∧ (∀ x ∈ c.z, -3 ≤ x ∧ x ≤ 3) ∧ ∃ l r, c.z = l ++ [r] ∧ r ≠ 0) ⟨_, _, _, [[1, -1, 2, -2, 3].getD xl.toNat 0], 0 + 1 + 1, _⟩ rfl rgX hsm hrs lF lN (by dsimp only; kst_allIn) ?_ (by with_unfolding_all kst_all) ?_ ?_ ?_
  · intro c p hp
    simp only [List.mem_cons, List.not_mem_nil, or_false] at hp
    rcases hp with rfl | rfl | rfl | rfl
    · exact .inr ⟨_, _, rfl⟩
    · exact .inr ⟨_, _, rfl⟩
    · exact .inr ⟨_, _, rfl⟩
    · exact .inl (.tail _ (.tail _ (.tail _ (.tail _ (.tail _ (.head _))))))
  · obtain ⟨h1, h2, h3⟩ := lead_facts (k := xl.toNat) (by omega)
    refine ⟨?_, .cons _ _ .nil, rfl, rfl, fun x hx => ?_, [], _, rfl, h3⟩
    · dsimp only
      exact neN (by omega)
    · rw [List.mem_singleton.mp hx]
      exact ⟨h1, h2⟩
  · rintro i ⟨l, u, n, z, sp, ts⟩ tk u' h tk' own Qb hEnd hRt hi ⟨hllp, hz, hsp, hlen, hbz, hlast⟩ hown F1 N1
    dsimp only at hllp hz hsp hlen hbz hlast F1 N1 ⊢
    have hown1 : ∀ p ∈ own, @Ne Nat p.1 lp := fun p hp => hown p hp _ (.tail _ (.tail _ (.head _)))
    simp only [List.cons_append, List.nil_append] at N1
    clear hsm hrs
    have hi3 : i < 3 := by omega
    repeat' (first | (k_unfold; (try dsimp only)) | ((walk_at "M.guard"); walk1))
    refine hEnd ⟨_, _, _, [_ - 2] ++ z, sp + 1, _⟩ (by assumption) (by assumption) (by with_unfolding_all kst_all) (by dsimp only; kst_allIn) (fun p hp => by repeat (first | exact hp | refine .tail _ ?_)) ⟨?_, by assumption, ?_, ?_, ?_, ?_⟩
    · dsimp only
      exact neN (by omega)
    · dsimp only
      omega
    · dsimp only
      rw [List.length_append, hlen]
      show 1 + (i + 1) = _
      omega
    · intro y hy
      rcases List.mem_append.mp hy with hy | hy
      · rw [List.mem_singleton.mp hy]
        omega
      · exact hbz y hy
    · obtain ⟨l0, r0, e, hr⟩ := hlast
      exact ⟨[_] ++ l0, r0, by rw [e, List.append_assoc], hr⟩
  · rintro ⟨l, u, n, z, sp, ts⟩ u' h tk' ⟨hllp, hz, hsp, hlen, hbz, hlast⟩ F1 N1
    dsimp only at hllp hz hsp hlen hbz hlast F1 N1 ⊢
    clear hsm hrs
    have hz4 : z.length ≤ 4 := by omega
    have hz2 : 2 ≤ z.length := by omega
    have hsp5 : 2 ≤ sp ∧ sp ≤ 6 := by omega
    clear hlen hsp hxd0 hxd1
    have q1 : lb ≠ lp := neN (Nat.ne_of_lt a2.1)
    have q2 := neN (Nat.ne_of_lt a2.2.2)
    repeat' (first | (k_unfold; (try dsimp only)) | ((fail_if_success (with_reducible show wpAny _ _ (call (Value.ref 112) _) _ _ _)); (walk_at "M.guard"); walk1))
    rename_i xn c1 c2 c3 c4 hn0 hn1 xm c5 tsp2 c7 c8 hm0 hm1 tD c9 c10 c11 c12 c12b c13 c13b lF lN
    obtain ⟨k, rfl⟩ : ∃ k : Nat, xn = (k : Int) := ⟨xn.toNat, by omega⟩
    obtain ⟨m, hm⟩ : ∃ m : Nat, 1 + xm = (m : Int) := ⟨(1 + xm).toNat, by omega⟩
    rw [hm] at lF
    obtain ⟨u1, lF1⟩ := fr_forget [(Str.ofString "pool", .ref lp), (Str.ofString "f", .ref l), (Str.ofString "n", .int (k : Int) _), (Str.ofString "m", .int (m : Int) _)] lF (by with_unfolding_all kst_all)
    have lN1 := kst_newsOf (l' := [(l, listOf u.toArray n), (lp, listOf #[.ref lb, .int (sp + 1 + 1) tsp2] 0), (lb, LCg.lst ys), (_, orow)]) lN (by kst_allIn)
    clear lF lN c10
    have hm1 : 1 ≤ m ∧ m ≤ 6 := by omega
    have hk9 : k < 9 := by omega
    clear hm0 hn0 hn1
    have hk100 : k < 100 := by omega
    have hL := law1 hbz hz2 hz4 hlast (show k ≤ 8 by omega) hm1.1 hm1.2
    have hpow : PowOk k [1] z k := hL.pow
    have hWb : BdL 200 (powL z k) := hL.Wb
    have hWl : (powL z k).length ≤ 25 := hL.Wl
    have hMb : BdL 2 (lessL (m : Int).toNat) := by rw [Int.toNat_natCast]; exact hL.Mb
    have hMl : (lessL (m : Int).toNat).length = m + 1 := by rw [Int.toNat_natCast]; exact hL.Ml
    have hM0 : 0 < (lessL (m : Int).toNat).length := by omega
    have hMl' : (lessL (m : Int).toNat).length < 1000 := by omega
    have hWl' : (powL z k).length < 1000 := by omega
    have hWm : 200 + ((powL z k).length + 2) * (2 + 1) ≤ 1000000 := by omega
    have hR1 : (pseudoL (powL z k) (lessL (m : Int).toNat)).2.1 = trimL (restsW (powL z k) (m : Int)) := by rw [Int.toNat_natCast]; exact hL.R1
    have hzb : BdL 1048576 z := hL.zb.mono (by decide)
    have hz19 : z.length < 2 ^ 19 := by omega
    have hRb : BdL 1048576 (pseudoL (powL z k) (lessL (m : Int).toNat)).2.1 := by rw [Int.toNat_natCast]; exact hL.Rb.mono (by decide)
    have hRl : (pseudoL (powL z k) (lessL (m : Int).toNat)).2.1.length < 2 ^ 19 := by rw [Int.toNat_natCast]; exact Nat.lt_of_le_of_lt hL.Rl (by decide)
    have hPl : (powL z k).length < 2 ^ 19 := by omega
    have hZb : BdL 300 (mulL z (pseudoL (powL z k) (lessL (m : Int).toNat)).2.1) := by rw [Int.toNat_natCast]; exact hL.Zb
    have hZl : (mulL z (pseudoL (powL z k) (lessL (m : Int).toNat)).2.1).length < 1000 := by rw [Int.toNat_natCast]; exact hL.Zl
    have hZm : 300 + ((mulL z (pseudoL (powL z k) (lessL (m : Int).toNat)).2.1).length + 2) * (2 + 1) ≤ 1000000 := by omega
    have hYl : (mulL z (powL z k)).length < 1000 := hL.Yl
    have hR2 : (pseudoL (mulL z (pseudoL (powL z k) (lessL (m : Int).toNat)).2.1) (lessL (m : Int).toNat)).2.1 = trimL (restsW (mulL z (powL z k)) (m : Int)) := by rw [Int.toNat_natCast]; exact hL.R2
    have hm6 : 1 ≤ (m : Int) ∧ (m : Int) ≤ 6 := by omega
    have hm1000 : 1 ≤ (m : Int) ∧ (m : Int) ≤ 1000 := by omega
    repeat' (first | (k_unfold; (try dsimp only)) | ((fail_if_success (with_reducible show wpAny _ _ (execs (Stmt.If _ _ _ _ :: _) _) _ _ _)); (walk_at "M.guard"); walk1))
    rename_i aw uw nw b1 b2 b3 iW b4 b5 b6 al ul nl b7 b8 b9 il b10 tT t1 ar ut ur nt nr tt b11 b12 b13 it iR b14 b15 b16 b17 lF lN
    obtain ⟨u2, lF2⟩ := fr_forget [(Str.ofString "pool", .ref lp), (Str.ofString "f", .ref l), (Str.ofString "n", .int (k : Int) _), (Str.ofString "m", .int (m : Int) _), (Str.ofString "whole", .ref aw), (Str.ofString "rest", .ref ar)] lF (by with_unfolding_all kst_all)
    have lN2 := kst_newsOf (l' := [(ar, listOf ur.toArray nr), (aw, listOf uw.toArray nw), (l, listOf u.toArray n), (lp, listOf #[.ref lb, .int (sp + 1 + 1) tsp2] 0), (lb, LCg.lst ys), (_, orow)]) lN (by kst_allIn)
    clear lF lN b3 b9 b13 b4 b10 b14 il it
    walk1
    repeat' (first | (k_unfold; (try dsimp only)) | ((fail_if_success (with_reducible show wpAny _ _ (execs (Stmt.If _ _ _ _ :: _) _) _ _ _)); (walk_at "M.guard"); walk1))
    dsimp only
    rename News _ _ _ _ => lN
    have lN3 := kst_newsOf (l' := [(ar, listOf ur.toArray nr), (aw, listOf uw.toArray nw), (l, listOf u.toArray n), (lp, listOf #[.ref lb, .int (sp + 1 + 1) tsp2] 0), (lb, LCg.lst ys), (_, orow)]) lN (by kst_allIn)
    clear lN
    repeat (rename And (Ne _ _) (Ne _ _ ∧ _) => hx; clear hx)
    repeat (rename And (And (Ne _ _) _) _ => hx; clear hx)
    repeat (rename IntsAre _ (trimL _) => hx; clear hx)
    repeat (rename IntsAre _ (restsW _ _) => hx; clear hx)
    repeat' (first | (k_unfold; (try dsimp only)) | ((fail_if_success (with_reducible show wpAny _ _ (call (Value.ref 105) _) _ _ _)); (walk_at "M.guard"); walk1))
    have hPb : BdL 1048576 (powL z k) := hL.Wb.mono (by decide)
    repeat' (first | (k_unfold; (try dsimp only)) | ((fail_if_success (with_reducible show wpAny _ _ (execs (Stmt.For _ _ _ _ _ :: _) _) _ _ _)); (walk_at "M.guard"); walk1))
    dsimp only
    rename News _ _ _ _ => lN
    have lN4 := kst_newsOf (l' := [(ar, listOf ur.toArray nr), (aw, listOf uw.toArray nw), (l, listOf u.toArray n), (lp, listOf #[.ref lb, .int (sp + 1 + 1) tsp2] 0), (lb, LCg.lst ys), (_, orow)]) lN (by kst_allIn)
    clear lN
    repeat (rename And (Ne _ _) (Ne _ _ ∧ _) => hx; clear hx)
    repeat (rename And (And (Ne _ _) _) _ => hx; clear hx)
    repeat (rename IntsAre _ (trimL _) => hx; clear hx)
    repeat (rename IntsAre _ (restsW _ _) => hx; clear hx)
    repeat (rename IntsAre _ (lessL _) => hx; clear hx)
    repeat (rename IntsAre _ (mulL _ _) => hx; clear hx)
    repeat' (first | (k_unfold; (try dsimp only)) | ((walk_at "M.guard"); walk1))
    rename IsRange _ _ _ _ _ _ _ _ => rgX
    rename Fr _ _ _ _ => lF'
    rename News _ _ _ _ => lN'
    have hsm : Builtin.Range.small 1 ((m : Int) + 1) 1 = true := small_one (by omega) (by omega) (by omega) (by omega)
    have hrs : Builtin.Range.rangeSize 1 ((m : Int) + 1) 1 = ((m : Nat) : Int) := by rw [rangeSize_nat]; omega
    refine m_rangeF (σ := Unit) (fun _ => _) (fun _ => [(Str.ofString "pool", .ref lp), (Str.ofString "f", .ref l), (Str.ofString "n", .int (k : Int) c1), (Str.ofString "m", .int (m : Int) c8), (Str.ofString "rest", .ref ar)]) (fun _ _ => True) () rfl rgX hsm hrs lF' lN' (fun _ h => h) (fun _ p hp => .inl hp) (by with_unfolding_all kst_all) trivial ?_ ?_
    · rintro i ⟨⟩ tk u h tk' own Qb hEnd hRt hi - - F1 N1
      dsimp only at F1 N1 ⊢
      clear hsm hrs
      have e1 : (1 : Int) + (i : Int) = ((i + 1 : Nat) : Int) := by omega
      rw [e1] at F1
      have hi6 : 1 ≤ i + 1 ∧ i + 1 ≤ 6 := by omega
      have hnz : ((i + 1 : Nat) : Int) ≠ 0 := by omega
      have hb9 : Bd 8999 ((i + 1 : Nat) : Int) := Bd.mono (j := 3) (by show (i + 1 : Nat) < 8; omega) (by decide)
      have hk0 : 0 ≤ (k : Int) := by omega
      have hka : ((1000 : Nat) : Int) * (k : Int) ≤ 100000000 := by omega
      have hmod : (m : Int).fmod ((i + 1 : Nat) : Int) = ((m % (i + 1) : Nat) : Int) := by rw [Int.fmod_eq_emod_of_nonneg _ (by omega)]; rfl
      by_cases hdv : m % (i + 1) = 0
      · obtain ⟨ra, hra, hrb', hba⟩ := hL.res (i + 1) hi6.1 hi6.2 hdv
        have hrb : RsAll (orderL (i + 1)) (pseudoL (powL z k) (lessL (m : Int).toNat)).2.1 (ra ^ (k : Int).toNat) := by rw [Int.toNat_natCast, Int.toNat_natCast]; exact hrb'
        clear hrb'
        have hf0 : (m : Int).fmod ((i + 1 : Nat) : Int) = 0 := by rw [hmod, hdv]; rfl
        clear hmod
        repeat' (first | (k_unfold; (try dsimp only)) | ((walk_at "M.guard"); walk1))
        all_goals exact hEnd () (by assumption) (by assumption) (by with_unfolding_all kst_all) (fun p hp => by repeat (first | exact List.mem_append_left _ hp | refine .tail _ ?_)) (fun p hp => by repeat (first | exact List.mem_append_right _ hp | refine .tail _ ?_)) trivial
      · have hf0 : (m : Int).fmod ((i + 1 : Nat) : Int) ≠ 0 := by rw [hmod]; omega
        clear hmod
        repeat' (first | (k_unfold; (try dsimp only)) | ((walk_at "M.guard"); walk1))
        all_goals first | exact absurd (by assumption) hf0 | exact hEnd () (by assumption) (by assumption) (by with_unfolding_all kst_all) (fun p hp => by repeat (first | exact List.mem_append_left _ hp | refine .tail _ ?_)) (fun p hp => by repeat (first | exact List.mem_append_right _ hp | refine .tail _ ?_)) trivial
    · rintro ⟨⟩ u h tk - F1 N1
      dsimp only at F1 N1 ⊢
      have N2 := kst_newsOf (l' := [(lp, listOf #[.ref lb, .int (sp + 1 + 1) tsp2] 0), (lb, LCg.lst ys), (_, orow)]) N1 (by kst_allIn)
      clear N1
      have Q1 := q1
      have Q2 := q2
      (try clear q1); (try clear q2); (try clear hpow); (try clear hWb); (try clear hWl); (try clear hMb); (try clear hMl); (try clear hM0); (try clear hMl'); (try clear hWl'); (try clear hWm); (try clear hR1); (try clear hzb); (try clear hz19); (try clear hRb); (try clear hRl); (try clear hPl); (try clear hZb); (try clear hZl); (try clear hZm); (try clear hYl); (try clear hR2); (try clear hm1000); (try clear hPb); (try clear hlast); (try clear hL); (try clear hbz); (try clear hz); (try clear hllp); (try clear hk9); (try clear hk100); (try clear hz4); (try clear hz2)
      (try clear hsm); (try clear hrs); (try clear rgX); (try clear lF'); (try clear lN'); (try clear lF); (try clear lN)
      obtain ⟨u2, F2⟩ := fr_forget [(Str.ofString "pool", .ref lp), (Str.ofString "m", .int (m : Int) _)] F1 (by with_unfolding_all kst_all)
      simp only [kstB] at F2
      clear F1
      (try clear a2); (try clear a9); (try clear a16); (try clear c10); (try clear b7)
      revert F2 N2 Q1 Q2
      repeat (rename Fr _ _ _ _ => hx; clear hx)
      repeat (rename News _ _ _ _ => hx; clear hx)
      repeat (rename And (Ne _ _) _ => hx; clear hx)
      repeat (rename And (And (Ne _ _) _) _ => hx; clear hx)
      repeat (rename Ne _ _ => hx; clear hx)
      repeat (rename IntsAre _ (trimL _) => hx; clear hx)
      repeat (rename (List.length _) < 2 ^ 20 => hx; clear hx)
      intro N2 Q1 Q2 F2
      repeat' (first | (k_unfold; (try dsimp only)) | ((walk_at "M.guard"); (fail_if_success (with_reducible show wpAny _ _ (exec (Stmt.Assign [Expr.Name (Str.ofString "begin") _] _ _) _) _ _ _)); walk1))
      rename_i x0 y1 y2 y3 y4 p0 p0' y5 y6 y7 x1 y8 y9 y10 y11 p1 p1' y12 ls y13 y14 y15 tkA x2 y16 y17 y18 y19 p2 p2' x3 y20 y21 y22 y23 p3 p3' lf y24 y25 y26 y26b F3 N3
      have b1 : Bd 2 (x0 - 2) := by show (x0 - 2).natAbs < 4; omega
      have b2 : Bd 2 (([1, -1, 2, -2, 3] : List Int).getD x1.toNat 0) := by
        obtain ⟨h1, h2, -⟩ := lead_facts (k := x1.toNat) (by omega)
        show Int.natAbs _ < 4; omega
      have b3 : Bd 2 (x2 - 2) := by show (x2 - 2).natAbs < 4; omega
      have b4 : Bd 2 (x3 - 2) := by show (x3 - 2).natAbs < 4; omega
      generalize x0 - 2 = g1 at *
      generalize ([1, -1, 2, -2, 3] : List Int).getD x1.toNat 0 = g2 at *
      generalize x2 - 2 = f0 at *
      generalize x3 - 2 = f1 at *
      clear p0 p0' p1 p1' p2 p2' p3 p3'
      repeat' (first | (k_unfold; (try dsimp only)) | ((walk_at "M.guard"); (fail_if_success (with_reducible show wpAny _ _ (call (Value.ref 184) _) _ _ _)); walk1))
      rename_i xb z1 z2 z3 z4 q0 q1 z5 z5b F4 N4
      obtain ⟨b, rfl⟩ : ∃ b : Nat, xb = (b : Int) := ⟨xb.toNat, by omega⟩
      have hb4 : b < 4 := by omega
      have hN : (b : Int) + 4 * (m : Int) + 1 = ((b + 4 * m + 1 : Nat) : Int) := by omega
      have N5 := kst_newsOf (l' := [(lf, listOf #[.int f0 (y19 + 1), .int f1 (y23 + 1)] 0), (ls, listOf #[.int g1 (y4 + 1), .int g2 y12] 0), (_, orow)]) N4 (by kst_allIn)
      clear N4 q0 q1 Q1 Q2
      k_dflt (refine' pc_useL (recrow_i _ _ _ _ _ _ _ (b + 4 * m + 1) _ _ _ _ _ hN) ?qqk1 ?qqk2 ?qqk3 ?qqk4 ?qqk5 ?qqkK ?qqkd ?qqku ?kp ?kD ?_; (walk_at "M.use"); (case kp => walk_at "M.pre"); (case kD => walk_at "M.off"))
      intro lr ur nr hr kr F6 N6 er ir nr'
      try k_sweep
      clear hN
      repeat' (first | (k_unfold; (try dsimp only)) | ((walk_at "M.guard"); (fail_if_success (with_reducible show wpAny _ _ (call (Value.ref 196) _) _ _ _)); walk1))
      k_dflt (refine' matraised_u _ _ _ _ _ _ _ _ _ _ _ _ _ _ _ _ _ _ m _ _ _ _ _ _ _ _ _ _ _ _ _ _ _ _ _ _ _ _ _ _ _ ?qqk1 ?qqk2 ?qqk3 ?qqk4 ?qqk5 ?qqkK ?qqkd ?qqku ?p1 ?p2 ?p3 ?p4 ?p5 ?_; (walk_at "M.use"); (case p1 => k_mem); (case p2 => k_mem); (case p3 => k_mem); (case p4 => exact ⟨b1, b2, by show Int.natAbs 1 < 4; decide, by show Int.natAbs 0 < 4; decide⟩); (case p5 => omega))
      rename_i hh0 oc dcl l4 l5 l6 n4 n5 n6 v1 v2 v3 v4 hh4 tk4 FC NC
      rintro ⟨rl, rl1, rl2, rn, rn1, rn2, rt1, rt2, rt3, rt4, rp, rq, ru, rv⟩ hR kR hM FR NR
      dsimp only at NR ⊢
      have hM : (rp, rq, ru, rv) = mpow (g1, g2, 1, 0) m := hM
      obtain ⟨h1p, h1q, h1u, h1v, tB, dB⟩ : Bd 100 rp ∧ Bd 100 rq ∧ Bd 100 ru ∧ Bd 100 rv ∧ Bd 3000 (rp + rv) ∧ Bd 3000 (rq * ru - rp * rv) := mat_bds b1 b2 hm1.2 hM
      have hrl : (rowL g1 g2 f0 f1 (b + 4 * m + 1)).length = b + 4 * m + 1 := rowL_length _ _ _ _ _
      try k_sweep
      repeat' (first | (k_unfold; (try dsimp only)) | ((walk_at "M.guard"); (fail_if_success (with_reducible show wpAny _ _ (exec (Stmt.Assign [Expr.Name (Str.ofString "taken") _] _ _) _) _ _ _)); walk1))
      rename Fr _ _ _ _ => FT
      rename News _ _ _ _ => NT
      dsimp only at FT NT
      have NT2 := kst_newsOf (l' := [(lr, listOf ur.toArray nr), (lf, listOf #[.int f0 (y19 + 1), .int f1 (y23 + 1)] 0), (ls, listOf #[.int g1 (y4 + 1), .int g2 y12] 0), (_, oc)]) NT (by kst_allIn)
      clear NT
      k_dflt (refine asg_step (F₀ := by k_asm) (by rfl) (by with_unfolding_all rfl) (by with_unfolding_all rfl) (by decide) (by rfl) (by decide) (by rfl) (by rfl) (by rfl) ?_)
      repeat' (first | (k_unfold; (try dsimp only)) | ((walk_at "M.guard"); (fail_if_success (with_reducible show wpAny _ _ (execs _ _) _ _ _)); walk1))
      rename_i tD2 hT2 kT2 FT2 NT3 oT2
      rename IntsAre ys (List.map _ (stepKs _ _ _)) => hI
      rw [taken_eq _ _ _ _ _ _ hm1.1] at hI
      obtain ⟨t1, t2, t3, t4, t5, rfl⟩ := ints_five hI
      have r2 := rec_turn g1 g2 f0 f1 b m hM
      have r3 := rec_turn g1 g2 f0 f1 (b + m) m hM
      have r4 := rec_turn g1 g2 f0 f1 (b + m + m) m hM
      have r5 := rec_turn g1 g2 f0 f1 (b + m + m + m) m hM
      have bE : ∀ n, n ≤ 60 → Bd 3000 (recX g1 g2 f0 f1 n) := fun n hn => (recX_bd b1 b2 b3 b4 n).1.mono (by omega)
      have e0 := bE b (by omega)
      have e1 := bE (b + m) (by omega)
      have e2 := bE (b + m + m) (by omega)
      have e3 := bE (b + m + m + m) (by omega)
      have e4 := bE (b + m + m + m + m) (by omega)
      have nE := rec_at g1 g2 f0 f1 (n := b + 5 * m) (by omega)
      rw [show recX g1 g2 f0 f1 (b + 5 * m) = recX g1 g2 f0 f1 (b + m + m + m + m + m) from congrArg _ (by omega), ← r5] at nE
      clear r5 bE hI
      generalize recX g1 g2 f0 f1 b = w0 at NT3 r2 e0
      generalize recX g1 g2 f0 f1 (b + m) = w1 at NT3 r2 r3 e1
      generalize recX g1 g2 f0 f1 (b + m + m) = w2 at NT3 r2 r3 r4 e2
      generalize recX g1 g2 f0 f1 (b + m + m + m) = w3 at NT3 r3 r4 e3 nE
      generalize recX g1 g2 f0 f1 (b + m + m + m + m) = w4 at NT3 r4 e4 nE
      generalize rp + rv = tr at FT2 tB r2 r3 r4 nE
      generalize rq * ru - rp * rv = dt at FT2 dB r2 r3 r4 nE
      have NT4 := kst_newsOf (l' := [(tD2, LCg.lst [.int w0 t1, .int w1 t2, .int w2 t3, .int w3 t4, .int w4 t5]), (lf, listOf #[.int f0 (y19 + 1), .int f1 (y23 + 1)] 0), (ls, listOf #[.int g1 (y4 + 1), .int g2 y12] 0)]) NT3 (by kst_allIn)
      clear NT3
      obtain ⟨u3, FT3⟩ := fr_forget [(Str.ofString "taken", .ref tD2), (Str.ofString "turned", .int dt _), (Str.ofString "trace_told", .int tr _), (Str.ofString "begin", .int (b : Int) _), (Str.ofString "first", .ref lf), (Str.ofString "steps", .ref ls), (Str.ofString "m", .int (m : Int) _)] FT2 (by with_unfolding_all kst_all)
      simp only [kstB] at FT3
      clear FT2
      repeat' (first | (k_unfold; (try dsimp only)) | ((walk_at "M.guard"); (fail_if_success (with_reducible show wpAny _ _ (call (Value.ref 208) _) _ _ _)); walk1))
      k_dflt (refine' obeys_c _ _ _ _ _ _ _ _ tr dt [w0, w1, w2, w3, w4] _ _ _ _ _ _ _ _ _ _ _ _ _ _ _ _ _ _ _ _ _ _ _ _ _ _ _ _ _ _ _ ?qqk1 ?qqk2 ?qqk3 ?qqk4 ?qqk5 ?qqkK ?qqkd ?qqku ?p1 ?p2 ?p3 ?p4 ?p5 ?p6 ?p7 ?p8 ?p9 ?p10 ?p11 ?_)
      walk_at "M.use"
      case p2 => exact .head _
      case p1 => walk_at "M.memx"
      case p3 => walk_at "M.memx"
      case p4 => walk_at "M.memx"
      case p5 => rfl
      case p6 => (show 5 ≤ 20; decide)
      case p7 => (refine' hvs5 ?m0 ?m1 ?m2 ?m3 ?m4; (case m0 => walk_at "M.memx"); (case m1 => walk_at "M.memx"); (case m2 => walk_at "M.memx"); (case m3 => walk_at "M.memx"); (case m4 => walk_at "M.memx"))
      case p8 =>
        intro x hx
        simp only [List.mem_cons, List.not_mem_nil, or_false] at hx
        rcases hx with rfl | rfl | rfl | rfl | rfl <;> assumption
      case p9 => exact tB
      case p10 => exact dB
      case p11 =>
        intro i hi
        rcases i with _ | _ | _ | i
        · exact r2
        · exact r3
        · exact r4
        · exact absurd hi (by show ¬ i + 1 + 1 + 1 + 2 < 5; omega)
      intro hO kO FO NO
      try k_sweep
      have NO2 := kst_newsOf (l' := [(tD2, LCg.lst [.int w0 t1, .int w1 t2, .int w2 t3, .int w3 t4, .int w4 t5]), (lf, listOf #[.int f0 (y19 + 1), .int f1 (y23 + 1)] 0), (ls, listOf #[.int g1 (y4 + 1), .int g2 y12] 0)]) NO (by kst_allIn)
      clear NO
      repeat (rename And (Ne _ _) _ => hx; clear hx)
      repeat (rename And (LT.lt _ _) (LT.lt _ _ ∧ _) => hx; clear hx)
      have q5 : Bd 500000 f0 := b3.mono (by decide)
      have q6 : Bd 500000 f1 := b4.mono (by decide)
      obtain ⟨q7, q8, -, -⟩ := mpow_bd b1 b2 (b + 5 * m - 1)
      have q7 : Bd 500000 (mpow (g1, g2, 1, 0) (b + 5 * m - 1)).1 := q7.mono (by omega)
      have q8 : Bd 500000 (mpow (g1, g2, 1, 0) (b + 5 * m - 1)).2.1 := q8.mono (by omega)
      have nE : (mpow (g1, g2, 1, 0) (b + 5 * m - 1)).1 * f1 + (mpow (g1, g2, 1, 0) (b + 5 * m - 1)).2.1 * f0 = tr * w4 + dt * w3 := nE
      have hN5 : (b : Int) + 5 * (m : Int) = ((b + 5 * m : Nat) : Int) := by omega
      repeat' (first | (k_unfold; (try dsimp only)) | ((walk_at "M.guard"); (fail_if_success (with_reducible show wpAny _ _ (call (Value.ref 201) _) _ _ _)); walk1))
      k_dflt (refine' pc_useI (numat_i _ _ _ _ _ _ _ (b + 5 * m) _ _ _ _ _ _ hN5 nE) ?qqk1 ?qqk2 ?qqk3 ?qqk4 ?qqk5 ?qqkK ?qqkd ?qqku ?kp ?_; (walk_at "M.use"); (case kp => walk_at "M.pre"))
      intro tn hn kn FN NN
      try k_sweep
      repeat' (first | (k_unfold; (try dsimp only)) | ((walk_at "M.guard"); walk1))
      simp only [beq_self_eq_true]
      exact goodW_bool FN (by assumption) (raisesW_false (fun _ h => nomatch h)) (law_true _)

end
end Mine
theorem PySem.Challenge.cw_xm0142_01_holds : PySem.Challenge.rw_xm0142_01.Holds := by
  exact Mine.lawx
