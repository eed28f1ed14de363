import PyProof.Rows.All
import Wide.All
import OpenK.AllK
import Wide.FinOn
import PySem.Challenge.RW_sa0102_01
open PySem PySem.W PyProof.Rows PySem.Calls PySem.Spec
set_option Elab.async false
set_option maxRecDepth 100000
set_option linter.unusedVariables false
set_option linter.unusedSimpArgs false
namespace Mine
section
local macro_rules | `(tactic| first | refine $t:term | fail $m:str) => `(tactic| (refine $t; (· intro w; k_extra "my hl")))
local macro_rules | `(tactic| o_law) => `(tactic| k_extra "my law")
theorem kw_1 : True := by
  (k_with "my hl" => (unfold openEnds fencedOpening topFrom; rw [PySem.W.Fast.te14364793385576792824, PySem.W.Fast.te10274390034422433532, PySem.W.Fast.te1435165496053646825, PySem.W.Fast.te14289696077712309145, PySem.W.Fast.te14082659384304107361, PySem.W.Fast.te8920871248978507458, PySem.W.Fast.te5923862056798008813, PySem.W.Fast.te4187177175401517315]; kernel_rfl))
  trivial
theorem kw_2 : True := by
  (k_with "my law" => (refine holds_law ?ws fun said => ?_; (case ws => (delta OpenLaw.wellSaid; (with_reducible repeat' (refine look_both ?_ ?_)); all_goals decide +kernel))))
  trivial
set_option maxHeartbeats 8000000 in
open_top hd for PySem.Challenge.rw_sa0102_01
end
theorem top_off : True := by
  w_top off
  trivial
section
/-! the program's functions upon plain lists of ints -/
def gcA (ns : List Int) : Int := ns.foldl (fun f n => (Int.gcd f n : Int)) 0
def ngL (p : List Int) : List Int := p.map fun x => -x
def scL (p : List Int) (k : Int) : List Int := if k ≠ 0 then p.map fun x => x * k else []
def dvL (p : List Int) (k : Int) : List Int := p.map fun x => x.fdiv k
def rsL (p : List Int) (m : Nat) : List Int := if p = [] then [] else List.replicate m 0 ++ p
def consT (c : Int) : List Int → List Int
  | [] => if c = 0 then [] else [c]
  | d :: r => c :: d :: r
def trL : List Int → List Int
  | [] => []
  | c :: t => consT c (trL t)
def sumL : List Int → List Int → List Int
  | [], b => b
  | x :: a, [] => x :: a
  | x :: a, y :: b => (x + y) :: sumL a b
def adL (a b : List Int) : List Int := trL (sumL a b)
def sbL (a b : List Int) : List Int := adL a (ngL b)
def ldL : List Int → Int
  | [] => 0
  | [c] => c
  | _ :: d :: r => ldL (d :: r)
def prL (p : List Int) : List Int := if p = [] then [] else dvL p (if ldL p > 0 then gcA p else -gcA p)
def deF : Nat → List Int → List Int
  | _, [] => []
  | n, c :: t => (c * (n : Int)) :: deF (n + 1) t
def deL (p : List Int) : List Int := (deF 0 p).tail

theorem ldL_getD : ∀ (p : List Int), ldL p = p.getD (p.length - 1) 0
  | [] => rfl
  | [c] => rfl
  | c :: d :: r => by
    rw [ldL, ldL_getD (d :: r)]
    simp
theorem ldL_append (p : List Int) (c : Int) : ldL (p ++ [c]) = c := by
  rw [ldL_getD]; simp
theorem trL_append_zero : ∀ p : List Int, trL (p ++ [0]) = trL p
  | [] => rfl
  | c :: t => by simp only [List.cons_append, trL, trL_append_zero t]
theorem consT_ne {c : Int} {p : List Int} (h : p ≠ []) : consT c p = c :: p := by
  cases p with
  | nil => exact absurd rfl h
  | cons d r => rfl
theorem trL_append_ne : ∀ (p : List Int) {c : Int}, c ≠ 0 → trL (p ++ [c]) = p ++ [c]
  | [], c, h => by simp [trL, consT, h]
  | d :: t, c, h => by
    simp only [List.cons_append, trL, trL_append_ne t h]
    exact consT_ne (by simp)
theorem trL_take (ns : List Int) : ∀ (m k : Nat), k + m = ns.length → (∀ j : Nat, k ≤ j → j < ns.length → ns.getD j 0 = 0) → (0 < k → ns.getD (k - 1) 0 ≠ 0) → ns.take k = trL ns := by
  have key : ∀ (m k : Nat), k + m = ns.length → (∀ j : Nat, k ≤ j → j < ns.length → ns.getD j 0 = 0) → trL ns = trL (ns.take k) := by
    intro m
    induction m with
    | zero =>
      intro k h _
      rw [List.take_of_length_le (by omega)]
    | succ m ih =>
      intro k h hz
      rw [ih (k + 1) (by omega) (fun j hj hl => hz j (by omega) hl)]
      have hk : k < ns.length := by omega
      rw [List.take_succ_eq_append_getElem hk]
      have e : ns[k] = 0 := by
        have := hz k (Nat.le_refl _) hk
        simpa [List.getD_eq_getElem?_getD, hk] using this
      rw [e, trL_append_zero]
  intro m k h hz hn
  rw [key m k h hz]
  cases k with
  | zero => rfl
  | succ k =>
    have hk : k < ns.length := by omega
    rw [List.take_succ_eq_append_getElem hk]
    refine (trL_append_ne _ ?_).symm
    have := hn (Nat.succ_pos k)
    simpa [List.getD_eq_getElem?_getD, hk] using this
theorem sumL_length : ∀ a b : List Int, (sumL a b).length = max a.length b.length
  | [], b => by simp [sumL]
  | x :: a, [] => by simp [sumL]
  | x :: a, y :: b => by simp only [sumL, List.length_cons, sumL_length a b]; omega
theorem sumL_getD : ∀ (a b : List Int) (i : Nat), (sumL a b).getD i 0 = a.getD i 0 + b.getD i 0
  | [], b, i => by simp [sumL]
  | x :: a, [], i => by simp [sumL]
  | x :: a, y :: b, 0 => by simp [sumL]
  | x :: a, y :: b, i + 1 => by simpa [sumL] using sumL_getD a b i
theorem ext_getD {a b : List Int} (hl : a.length = b.length) (h : ∀ i, i < a.length → a.getD i 0 = b.getD i 0) : a = b := by
  refine List.ext_getElem hl fun i h1 h2 => ?_
  have := h i h1
  simpa [List.getD_eq_getElem?_getD, h1, h2] using this
theorem flat_zeros (k : Nat) : (List.replicate k [(0 : Int)]).flatten = List.replicate k 0 := by
  induction k with
  | zero => rfl
  | succ k ih => rw [List.replicate_succ, List.flatten_cons, ih]; rfl
theorem deF_length (n : Nat) (p : List Int) : (deF n p).length = p.length := by
  induction p generalizing n with
  | nil => rfl
  | cons c t ih => simp [deF, ih]
theorem scL_length_le (p : List Int) (k : Int) : (scL p k).length ≤ p.length := by
  unfold scL
  split <;> simp
theorem rsL_length_le (p : List Int) (m : Nat) : (rsL p m).length ≤ m + p.length := by
  unfold rsL
  split <;> simp
theorem trL_length_le : ∀ p : List Int, (trL p).length ≤ p.length
  | [] => Nat.le_refl _
  | c :: t => by
    have h := trL_length_le t
    rw [trL]
    cases q : trL t with
    | nil => simp only [consT]; split <;> simp
    | cons d r =>
      rw [q] at h
      simp only [consT, List.length_cons] at h ⊢
      omega
theorem sbL_length_le (a b : List Int) : (sbL a b).length ≤ max a.length b.length := by
  unfold sbL adL
  refine Nat.le_trans (trL_length_le _) ?_
  rw [sumL_length, ngL, List.length_map]
  exact Nat.le_refl _

end
section

abbrev PG : Program := PySem.Challenge.rw_sa0102_01.row.prog

def NewL (h h' : Heap) (r : Value) (ns : List Int) : Prop :=
  ∃ l vs n, r = .ref l ∧ h'.get? l = some (listOf (List.toArray vs) n) ∧ h.get? l = none ∧ IntsAre vs ns

def Con (f : Addr) (n : Nat) (args : List Value) (Pre : Heap → Prop) (Post : Heap → Heap → Value → Prop) : Prop :=
  ∀ (w : World) (mean : ExcName → Option Value) (mg mb : Str → Option Value) (dp un : Nat) (gd : Option (List Code)) (cn : Str) (cs : Scope) (a : Addr) (ccd : Value) (cl : List (Str × Addr)) (outer : List Env) (A₀ : Around) (base h₀ : Heap) (L : Addr) (m : Str → Option Value) (s : Shared) (Q E : Value → Shared → Prop),
    Below A₀ base outer h₀ → Fr h₀ L s.heap m → (hd.heap_19 w.params).In h₀ → Top hd.view_19 (looseW hd.view_19 []) mean mg mb h₀ → cs.kind = .function → Pre s.heap → dp + n < recursionLimit → un + 8 * n < cLine →
    (∀ r h' tk', (∀ b o, s.heap.get? b = some o → h'.get? b = some o) → Post s.heap h' r → Q r { s with heap := h', toks := tk' }) →
    wpAny (model PG w) (ktrTop dp un gd cn cs L a ccd cl outer) (call (.ref f) args) Q E s

section
variable {prog : Program} {w : World} {A₀ A : Around} {s : Shared} {base h₀ : Heap} {outer : List Env} {L : Addr} {m : Str → Option Value} {env : Env} {K : Frag}
  {R : Result → Shared → Prop} {name qual : Str} {params : Arguments} {body : List Stmt} {scope : Scope} {dV kV doc pm cdv ct oc : Value} {an od : Option Addr} {osl : Array (Option Value)} {f : Addr} {args : Args} {binds : List (Str × Value)}
  {p : Program} {loose : List Str} {mean : ExcName → Option Value} {mg mb : Str → Option Value}

/-- what a def's body leaves: all that stood ahead stands -/
def Lv (g : Heap) (R : Result → Shared → Prop) (v : Value) (s' : Shared) : Prop :=
  (∀ b o, g.get? b = some o → s'.heap.get? b = some o) ∧ R (.ok (.ret v)) s'

theorem code_def0
    (B : Below A₀ base outer h₀) (F : Fr h₀ L s.heap m) (X₀ : K.In h₀) (T : Top p loose mean mg mb h₀) (hA : A.frames = some (env :: outer)) (hf : env.frame = some L) (hke : env.scope.kind = .function)
    (ho : K.lookup f = some ⟨oc, od, .func (fnOf name qual params body scope dV kV doc pm an cdv ct), osl⟩) (hcd : codeIn K cdv qual = true) (hroom : A.depth < recursionLimit)
    (hbind : BindsTo s (fnOf name qual params body scope dV kV doc pm an cdv ct) args binds) (hloc : ∀ y ∈ binds, scope.names.lookup y.1 = some .local)
    (h : ∀ L' h₁, Fr s.heap L' h₁ (fun y => binds.reverse.lookup y) → News s.heap L' h₁ [] → Below A base (env :: outer) s.heap → K.In s.heap → Top p loose mean mg mb s.heap →
      wpAny (model prog w) (A.deeper (envOf qual scope L' f cdv)) (execs body (envOf qual scope L' f cdv))
        (fun fl s' => Lv s.heap R (match fl with | .ret v => v | _ => .none) s')
        (fun e s' => wpAny (model prog w) (A.deeper (envOf qual scope L' f cdv)) (leaving (envOf qual scope L' f cdv) e) (fun _ s'' => R (.error e) s'') (fun e' s'' => R (.error e') s'') s')
        { s with heap := h₁, toks := s.toks + binds.length })
    (hco : scope.isCoroutine = false) (hgen : scope.isGenerator = false) (hk : scope.kind = .function)
    (hcell : ∀ x ∈ scope.names, x.2 ≠ .cell) : codeAny (model prog w) A (.call (.ref f) args) R s := by
  have N : News h₀ L s.heap [] := News.nil
  obtain ⟨_, BG, _, _⟩ := groundX (R := R) B F N hA hf hke
  refine codeAny_call_def (fd := fnX name qual params body scope [] dV kV doc pm an cdv ct) (body := body) (binds := binds) hroom ((X₀.keeps F.keep) _ _ ho) rfl (T.nolimit.keeps F.keep) (codeRec_of (X₀.keeps F.keep) hcd) rfl hbind hcell hloc (fun h₁ hns hk₁ => ?_) hco hgen hk
  exact wpAny_mono (h s.heap.objs.size h₁ ⟨hns, fun b o e => hk₁ b o e, Nat.le_refl _⟩ News.nil BG (X₀.keeps F.keep) (T.keeps F.keep)) (fun fl s' hl => hl.2) fun _ _ y => y

theorem code_def0C
    (B : Below A₀ base outer h₀) (F : Fr h₀ L s.heap m) (X₀ : K.In h₀) (T : Top p loose mean mg mb h₀) (hA : A.frames = some (env :: outer)) (hf : env.frame = some L) (hke : env.scope.kind = .function)
    (ho : K.lookup f = some ⟨oc, od, .func (fnOf name qual params body scope dV kV doc pm an cdv ct), osl⟩) (hcd : codeIn K cdv qual = true) (hroom : A.depth < recursionLimit)
    (hbind : BindsTo s (fnOf name qual params body scope dV kV doc pm an cdv ct) args binds) (hkind : (binds.all fun y => scope.names.lookup y.1 == some .local || scope.names.lookup y.1 == some .cell) = true)
    (hnd : ((cellsFrom 0 scope.names []).map (·.1)).Nodup)
    (h : ∀ L' h₁ tk cells, Fr s.heap L' h₁ (bindL (envOfC qual scope L' f cdv).kindOf binds fun _ => none) → News s.heap L' h₁ cells →
      CellsAre (bindC (envOfC qual scope L' f cdv).kindOf binds fun _ => none) (cellsFrom (L' + 1) scope.names []) cells → Below A base (env :: outer) s.heap → K.In s.heap → Top p loose mean mg mb s.heap →
      wpAny (model prog w) (A.deeper (envOfC qual scope L' f cdv)) (execs body (envOfC qual scope L' f cdv))
        (fun fl s' => Lv s.heap R (match fl with | .ret v => v | _ => .none) s')
        (fun e s' => wpAny (model prog w) (A.deeper (envOfC qual scope L' f cdv)) (leaving (envOfC qual scope L' f cdv) e) (fun _ s'' => R (.error e) s'') (fun e' s'' => R (.error e') s'') s')
        { s with heap := h₁, toks := tk })
    (hco : scope.isCoroutine = false) (hgen : scope.isGenerator = false) (hk : scope.kind = .function) : codeAny (model prog w) A (.call (.ref f) args) R s := by
  have Xs := X₀.keeps F.keep
  have Bs : Below A base (env :: outer) s.heap := (groundX (R := R) B F (News.nil (h := s.heap)) hA hf hke).2.1
  refine codeAny_call_function hroom (Xs _ _ ho) rfl hco hgen rfl (codeRec_of Xs hcd) (hbind _ _ _ _ ?_)
  refine wpAny_newFunctionEnv_cells hk (kindsX hkind _) fun env' he s' x => ?_
  cases he
  refine ⟨(T.nolimit.keeps F.keep).keeps x.toInCall.keep, codeAny_func ?_⟩
  obtain ⟨g₁, tk, rfl, _⟩ := x.done
  obtain ⟨cells, NC, Y⟩ := Cl.news (h₀ := s.heap) (Nat.le_refl _) fun n c hm => ⟨x.cell n c (lookup_of_mem_nodup (cellsFrom_names scope.names 0 (s.heap.objs.size + 1) [] [] rfl ▸ hnd) hm), x.above n c hm⟩
  refine wpAny_mono (h _ g₁ tk cells ⟨x.toInCall.ns, fun b o e => x.toInCall.keep b o e, Nat.le_refl _⟩ NC Y Bs Xs (T.keeps F.keep)) (fun fl s' hl => hl.2) fun _ _ y => y

theorem mul_of_all {ns : List Int} {n k : Int} (h : ∀ n ∈ ns, IntMulOk n k) (hn : n ∈ ns) : IntMulOk n k := h n hn
theorem fr_of_keep {h₀ h h' : Heap} {L : Addr} {m : Str → Option Value} (F : Fr h₀ L h m) (k : ∀ b o, h.get? b = some o → h'.get? b = some o) : Fr h₀ L h' m := by
  obtain ⟨oL, es, ep, hL, r⟩ := F.ns
  exact ⟨⟨oL, es, ep, k _ _ hL, r⟩, fun b o e => k _ _ (F.keep b o e), F.above⟩
theorem news_of_keep {h₀ h h' : Heap} {L : Addr} {news : List (Addr × Obj)} (N : News h₀ L h news) (k : ∀ b o, h.get? b = some o → h'.get? b = some o) : News h₀ L h' news :=
  fun p hp => ⟨k _ _ (N p hp).1, (N p hp).2⟩
theorem news_new {h₀ h h' : Heap} {L l : Addr} {o : Obj} {m : Str → Option Value} {news : List (Addr × Obj)} (F : Fr h₀ L h m) (N : News h₀ L h news) (k : ∀ b o, h.get? b = some o → h'.get? b = some o)
    (hl : h'.get? l = some o) (hs : h.get? l = none) : News h₀ L h' ((l, o) :: news) := by
  intro p hp
  rcases List.mem_cons.mp hp with rfl | hp
  · obtain ⟨oL, es, ep, hL, r⟩ := F.ns
    refine ⟨hl, fun e => ?_, ?_⟩
    · have e : l = L := e
      subst e
      rw [hs] at hL
      cases hL
    · cases q : h₀.get? l with
      | none => rfl
      | some o' =>
        have := F.keep _ _ q
        rw [hs] at this
        cases this
  · exact news_of_keep N k p hp
theorem news_ne {h₀ h : Heap} {L l : Addr} {news : List (Addr × Obj)} (N : News h₀ L h news) (hs : h.get? l = none) : ∀ p ∈ news, p.1 ≠ l := by
  intro p hp e
  have := (N p hp).1
  rw [e, hs] at this
  cases this

/-- two addresses that differ: kept out of omega's sight -/
def NeA (a b : Nat) : Prop := a ≠ b
theorem NeA.out {a b : Nat} (h : NeA a b) : a ≠ b := h
theorem NeA.out2 {a b : Nat} (h : NeA a b) : b ≠ a := Ne.symm h
theorem NeA.of {a b : Nat} (h : a ≠ b) : NeA a b := h
theorem NeA.flip {a b : Nat} (h : NeA a b) : NeA b a := Ne.symm h
def AllNe (l : Nat) : List (Addr × Obj) → Prop
  | [] => True
  | p :: r => NeA p.1 l ∧ AllNe l r
theorem allNe_of {d : Addr} : ∀ {l : List (Addr × Obj)}, (∀ p ∈ l, p.1 ≠ d) → AllNe d l
  | [], _ => trivial
  | p :: _, h => ⟨h p (.head _), allNe_of fun q hq => h q (.tail _ hq)⟩

theorem room_in {dp a b N lim : Nat} (h : dp + N < lim) (hb : Nat.ble (a + b) N = true) : dp + a + b < lim :=
  Nat.lt_of_le_of_lt (Nat.le_trans (Nat.le_of_eq (Nat.add_assoc dp a b)) (Nat.add_le_add_left (Nat.le_of_ble_eq_true hb) dp)) h
theorem room_in2 {dp a N lim : Nat} (h : dp + N < lim) (hb : Nat.ble a N = true) : dp + a < lim :=
  Nat.lt_of_le_of_lt (Nat.add_le_add_left (Nat.le_of_ble_eq_true hb) dp) h
theorem lt_wide {n m k : Nat} (h : n < m) (hb : Nat.ble m k = true) : n < k := Nat.lt_of_lt_of_le h (Nat.le_of_ble_eq_true hb)
theorem le_wide {n m k : Nat} (h : n < m) (hb : Nat.ble m k = true) : n ≤ k := Nat.le_of_lt (lt_wide h hb)
theorem room_in1 {dp N lim : Nat} (h : dp + N < lim) : dp < lim := Nat.lt_of_le_of_lt (Nat.le_add_right dp N) h
theorem le_wide2 {n m k : Nat} (h : n ≤ m) (hb : Nat.ble m k = true) : n ≤ k := Nat.le_trans h (Nat.le_of_ble_eq_true hb)
theorem lt_wide2 {n m k : Nat} (h : n ≤ m) (hb : Nat.blt m k = true) : n < k := Nat.lt_of_le_of_lt h (Nat.le_of_ble_eq_true hb)
theorem cast_le {a b : Nat} (h : a ≤ b) : (a : Int) ≤ (b : Int) := Int.ofNat_le.mpr h
theorem cast_lt {a b : Nat} (h : a < b) : (a : Int) < (b : Int) := Int.ofNat_lt.mpr h
theorem cast_lt_k {a m : Nat} {k : Int} (h : a < m) (hb : decide ((m : Int) ≤ k) = true) : (a : Int) < k := Int.lt_of_lt_of_le (Int.ofNat_lt.mpr h) (of_decide_eq_true hb)
theorem cast_le_k {a m : Nat} {k : Int} (h : a < m) (hb : decide ((m : Int) ≤ k) = true) : (a : Int) ≤ k := Int.le_of_lt (cast_lt_k h hb)
theorem neg_cast {a : Nat} (h : 0 < a) : -(a : Int) ≤ -1 := Int.neg_le_neg (Int.ofNat_le.mpr h)
theorem cast_sub {a b : Nat} (h : b ≤ a) : ((a : Int) - (b : Int)).toNat = a - b := by rw [← Int.ofNat_sub h]; rfl
theorem sub_nn {a b : Nat} (h : b ≤ a) : (0 : Int) ≤ (a : Int) - (b : Int) := Int.sub_nonneg_of_le (Int.ofNat_le.mpr h)
theorem sub_lt_k {a b m : Nat} {k : Int} (h : a < m) (hb : decide ((m : Int) ≤ k) = true) : (a : Int) - (b : Int) < k := Int.lt_of_le_of_lt (Int.sub_le_self _ (Int.natCast_nonneg b)) (cast_lt_k h hb)
theorem cast_ne {a : Nat} (h : 0 < a) : ¬ ((a : Int) = 0) := fun e => absurd (Int.ofNat.inj e) (Nat.ne_of_gt h)
theorem nle_of_lt {a b : Nat} (h : a < b) : ¬ ((b : Int) ≤ (a : Int)) := fun q => absurd (Int.ofNat_le.mp q) (Nat.not_le_of_lt h)
theorem ints_lt {vs : List Value} {ns : List Int} {m k : Nat} (i : IntsAre vs ns) (h : ns.length < m) (hb : Nat.ble m k = true) : vs.length < k := by
  rw [i.length]
  exact lt_wide h hb
theorem ax1 {P Q : Prop} (h : P ∧ Q) : P := h.1
theorem ax2 {P1 P Q : Prop} (h : P1 ∧ P ∧ Q) : P := h.2.1
theorem ax3 {P1 P2 P Q : Prop} (h : P1 ∧ P2 ∧ P ∧ Q) : P := h.2.2.1
theorem ax4 {P1 P2 P3 P Q : Prop} (h : P1 ∧ P2 ∧ P3 ∧ P ∧ Q) : P := h.2.2.2.1
theorem ax5 {P1 P2 P3 P4 P Q : Prop} (h : P1 ∧ P2 ∧ P3 ∧ P4 ∧ P ∧ Q) : P := h.2.2.2.2.1
theorem ax6 {P1 P2 P3 P4 P5 P Q : Prop} (h : P1 ∧ P2 ∧ P3 ∧ P4 ∧ P5 ∧ P ∧ Q) : P := h.2.2.2.2.2.1
theorem ax7 {P1 P2 P3 P4 P5 P6 P Q : Prop} (h : P1 ∧ P2 ∧ P3 ∧ P4 ∧ P5 ∧ P6 ∧ P ∧ Q) : P := h.2.2.2.2.2.2.1
theorem ax8 {P1 P2 P3 P4 P5 P6 P7 P Q : Prop} (h : P1 ∧ P2 ∧ P3 ∧ P4 ∧ P5 ∧ P6 ∧ P7 ∧ P ∧ Q) : P := h.2.2.2.2.2.2.2.1
theorem ax9 {P1 P2 P3 P4 P5 P6 P7 P8 P Q : Prop} (h : P1 ∧ P2 ∧ P3 ∧ P4 ∧ P5 ∧ P6 ∧ P7 ∧ P8 ∧ P ∧ Q) : P := h.2.2.2.2.2.2.2.2.1
theorem ax10 {P1 P2 P3 P4 P5 P6 P7 P8 P9 P Q : Prop} (h : P1 ∧ P2 ∧ P3 ∧ P4 ∧ P5 ∧ P6 ∧ P7 ∧ P8 ∧ P9 ∧ P ∧ Q) : P := h.2.2.2.2.2.2.2.2.2.1
theorem ax11 {P1 P2 P3 P4 P5 P6 P7 P8 P9 P10 P Q : Prop} (h : P1 ∧ P2 ∧ P3 ∧ P4 ∧ P5 ∧ P6 ∧ P7 ∧ P8 ∧ P9 ∧ P10 ∧ P ∧ Q) : P := h.2.2.2.2.2.2.2.2.2.2.1
theorem ax12 {P1 P2 P3 P4 P5 P6 P7 P8 P9 P10 P11 P Q : Prop} (h : P1 ∧ P2 ∧ P3 ∧ P4 ∧ P5 ∧ P6 ∧ P7 ∧ P8 ∧ P9 ∧ P10 ∧ P11 ∧ P ∧ Q) : P := h.2.2.2.2.2.2.2.2.2.2.2.1
theorem ax13 {P1 P2 P3 P4 P5 P6 P7 P8 P9 P10 P11 P12 P Q : Prop} (h : P1 ∧ P2 ∧ P3 ∧ P4 ∧ P5 ∧ P6 ∧ P7 ∧ P8 ∧ P9 ∧ P10 ∧ P11 ∧ P12 ∧ P ∧ Q) : P := h.2.2.2.2.2.2.2.2.2.2.2.2.1
theorem ax14 {P1 P2 P3 P4 P5 P6 P7 P8 P9 P10 P11 P12 P13 P Q : Prop} (h : P1 ∧ P2 ∧ P3 ∧ P4 ∧ P5 ∧ P6 ∧ P7 ∧ P8 ∧ P9 ∧ P10 ∧ P11 ∧ P12 ∧ P13 ∧ P ∧ Q) : P := h.2.2.2.2.2.2.2.2.2.2.2.2.2.1
theorem ax15 {P1 P2 P3 P4 P5 P6 P7 P8 P9 P10 P11 P12 P13 P14 P Q : Prop} (h : P1 ∧ P2 ∧ P3 ∧ P4 ∧ P5 ∧ P6 ∧ P7 ∧ P8 ∧ P9 ∧ P10 ∧ P11 ∧ P12 ∧ P13 ∧ P14 ∧ P ∧ Q) : P := h.2.2.2.2.2.2.2.2.2.2.2.2.2.2.1
theorem ax16 {P1 P2 P3 P4 P5 P6 P7 P8 P9 P10 P11 P12 P13 P14 P15 P Q : Prop} (h : P1 ∧ P2 ∧ P3 ∧ P4 ∧ P5 ∧ P6 ∧ P7 ∧ P8 ∧ P9 ∧ P10 ∧ P11 ∧ P12 ∧ P13 ∧ P14 ∧ P15 ∧ P ∧ Q) : P := h.2.2.2.2.2.2.2.2.2.2.2.2.2.2.2.1
theorem az2 {P1 P : Prop} (h : P1 ∧ P) : P := h.2
theorem az3 {P1 P2 P : Prop} (h : P1 ∧ P2 ∧ P) : P := h.2.2
theorem az4 {P1 P2 P3 P : Prop} (h : P1 ∧ P2 ∧ P3 ∧ P) : P := h.2.2.2
theorem az5 {P1 P2 P3 P4 P : Prop} (h : P1 ∧ P2 ∧ P3 ∧ P4 ∧ P) : P := h.2.2.2.2
theorem az6 {P1 P2 P3 P4 P5 P : Prop} (h : P1 ∧ P2 ∧ P3 ∧ P4 ∧ P5 ∧ P) : P := h.2.2.2.2.2
theorem az7 {P1 P2 P3 P4 P5 P6 P : Prop} (h : P1 ∧ P2 ∧ P3 ∧ P4 ∧ P5 ∧ P6 ∧ P) : P := h.2.2.2.2.2.2
theorem az8 {P1 P2 P3 P4 P5 P6 P7 P : Prop} (h : P1 ∧ P2 ∧ P3 ∧ P4 ∧ P5 ∧ P6 ∧ P7 ∧ P) : P := h.2.2.2.2.2.2.2
theorem az9 {P1 P2 P3 P4 P5 P6 P7 P8 P : Prop} (h : P1 ∧ P2 ∧ P3 ∧ P4 ∧ P5 ∧ P6 ∧ P7 ∧ P8 ∧ P) : P := h.2.2.2.2.2.2.2.2
theorem az10 {P1 P2 P3 P4 P5 P6 P7 P8 P9 P : Prop} (h : P1 ∧ P2 ∧ P3 ∧ P4 ∧ P5 ∧ P6 ∧ P7 ∧ P8 ∧ P9 ∧ P) : P := h.2.2.2.2.2.2.2.2.2
theorem az11 {P1 P2 P3 P4 P5 P6 P7 P8 P9 P10 P : Prop} (h : P1 ∧ P2 ∧ P3 ∧ P4 ∧ P5 ∧ P6 ∧ P7 ∧ P8 ∧ P9 ∧ P10 ∧ P) : P := h.2.2.2.2.2.2.2.2.2.2
theorem az12 {P1 P2 P3 P4 P5 P6 P7 P8 P9 P10 P11 P : Prop} (h : P1 ∧ P2 ∧ P3 ∧ P4 ∧ P5 ∧ P6 ∧ P7 ∧ P8 ∧ P9 ∧ P10 ∧ P11 ∧ P) : P := h.2.2.2.2.2.2.2.2.2.2.2
theorem az13 {P1 P2 P3 P4 P5 P6 P7 P8 P9 P10 P11 P12 P : Prop} (h : P1 ∧ P2 ∧ P3 ∧ P4 ∧ P5 ∧ P6 ∧ P7 ∧ P8 ∧ P9 ∧ P10 ∧ P11 ∧ P12 ∧ P) : P := h.2.2.2.2.2.2.2.2.2.2.2.2
theorem az14 {P1 P2 P3 P4 P5 P6 P7 P8 P9 P10 P11 P12 P13 P : Prop} (h : P1 ∧ P2 ∧ P3 ∧ P4 ∧ P5 ∧ P6 ∧ P7 ∧ P8 ∧ P9 ∧ P10 ∧ P11 ∧ P12 ∧ P13 ∧ P) : P := h.2.2.2.2.2.2.2.2.2.2.2.2.2
theorem az15 {P1 P2 P3 P4 P5 P6 P7 P8 P9 P10 P11 P12 P13 P14 P : Prop} (h : P1 ∧ P2 ∧ P3 ∧ P4 ∧ P5 ∧ P6 ∧ P7 ∧ P8 ∧ P9 ∧ P10 ∧ P11 ∧ P12 ∧ P13 ∧ P14 ∧ P) : P := h.2.2.2.2.2.2.2.2.2.2.2.2.2.2
theorem az16 {P1 P2 P3 P4 P5 P6 P7 P8 P9 P10 P11 P12 P13 P14 P15 P : Prop} (h : P1 ∧ P2 ∧ P3 ∧ P4 ∧ P5 ∧ P6 ∧ P7 ∧ P8 ∧ P9 ∧ P10 ∧ P11 ∧ P12 ∧ P13 ∧ P14 ∧ P15 ∧ P) : P := h.2.2.2.2.2.2.2.2.2.2.2.2.2.2.2
theorem allNe_out {l : Nat} : ∀ {r : List (Addr × Obj)}, AllNe l r → ∀ p ∈ r, p.1 ≠ l
  | [], _, p, hp => nomatch hp
  | q :: r, h, p, hp => (List.mem_cons.mp hp).elim (fun e => e ▸ h.1) fun hp => allNe_out h.2 p hp
theorem neGet {l : Nat} {r : List (Addr × Obj)} (h : AllNe l r) {a : Nat} {o : Obj} (hm : (a, o) ∈ r) : a ≠ l := allNe_out h _ hm
theorem ltGet {l : Nat} {r : List (Addr × Obj)} (h : ∀ p ∈ r, @LT.lt Addr _ p.1 l) {a : Nat} {o : Obj} (hm : (a, o) ∈ r) : a ≠ l := Nat.ne_of_lt (h _ hm)
theorem fr_let {h₀ h : Heap} {L : Addr} {m : Str → Option Value} {P : Prop} (F : Fr h₀ L h m) (k : let m' := m; Fr h₀ L h m' → P) : P := k F
theorem news_let {h₀ h : Heap} {L : Addr} {news : List (Addr × Obj)} {P : Prop} (N : News h₀ L h news) (k : let n' := news; News h₀ L h n' → P) : P := k N
theorem con_useL {f : Addr} {n : Nat} {args : List Value} {Pre : Heap → Prop} {ns : List Int} (hC : Con f n args Pre (fun h h' r => NewL h h' r ns))
    {dp un : Nat} {gd : Option (List Code)} {cn : Str} {cs : Scope} {a : Addr} {ccd : Value} {cl : List (Str × Addr)} {news : List (Addr × Obj)} {Q E : Value → Shared → Prop}
    (hB : Below A₀ base outer h₀) (hF : Fr h₀ L s.heap m) (hX : (hd.heap_19 w.params).In h₀) (hN : News h₀ L s.heap news) (hT : Top hd.view_19 (looseW hd.view_19 []) mean mg mb h₀) (hkk : cs.kind = .function)
    (hpp : Pre s.heap) (hdp : dp + n < recursionLimit) (hun : un + 8 * n < cLine)
    (ret : ∀ l vs k h' tk', Fr h₀ L h' m → News h₀ L h' ((l, listOf (List.toArray vs) k) :: news) → AllNe l news → IntsAre vs ns → Q (.ref l) { s with heap := h', toks := tk' }) :
    wpAny (model PG w) (ktrTop dp un gd cn cs L a ccd cl outer) (call (.ref f) args) Q E s := by
  refine hC w mean mg mb dp un gd cn cs a ccd cl outer A₀ base h₀ L m s Q E hB hF hX hT hkk hpp hdp hun ?_
  rintro r h' tk' k ⟨l, vs, c, rfl, hl, hn, hi⟩
  exact ret l vs c h' tk' (fr_of_keep hF k) (news_new hF hN k hl hn) (allNe_of (news_ne hN hn)) hi

theorem con_useN {f : Addr} {n : Nat} {args : List Value} {Pre : Heap → Prop} (hC : Con f n args Pre (fun h h' r => r = .none))
    {dp un : Nat} {gd : Option (List Code)} {cn : Str} {cs : Scope} {a : Addr} {ccd : Value} {cl : List (Str × Addr)} {news : List (Addr × Obj)} {Q E : Value → Shared → Prop}
    (hB : Below A₀ base outer h₀) (hF : Fr h₀ L s.heap m) (hX : (hd.heap_19 w.params).In h₀) (hN : News h₀ L s.heap news) (hT : Top hd.view_19 (looseW hd.view_19 []) mean mg mb h₀) (hkk : cs.kind = .function)
    (hpp : Pre s.heap) (hdp : dp + n < recursionLimit) (hun : un + 8 * n < cLine)
    (ret : ∀ h' tk', Fr h₀ L h' m → News h₀ L h' news → Q .none { s with heap := h', toks := tk' }) :
    wpAny (model PG w) (ktrTop dp un gd cn cs L a ccd cl outer) (call (.ref f) args) Q E s := by
  refine hC w mean mg mb dp un gd cn cs a ccd cl outer A₀ base h₀ L m s Q E hB hF hX hT hkk hpp hdp hun ?_
  rintro r h' tk' k rfl
  exact ret h' tk' (fr_of_keep hF k) (news_of_keep hN k)
theorem con_useI {f : Addr} {n : Nat} {args : List Value} {Pre : Heap → Prop} {x : Int} (hC : Con f n args Pre (fun h h' r => ∃ t, r = .int x t))
    {dp un : Nat} {gd : Option (List Code)} {cn : Str} {cs : Scope} {a : Addr} {ccd : Value} {cl : List (Str × Addr)} {news : List (Addr × Obj)} {Q E : Value → Shared → Prop}
    (hB : Below A₀ base outer h₀) (hF : Fr h₀ L s.heap m) (hX : (hd.heap_19 w.params).In h₀) (hN : News h₀ L s.heap news) (hT : Top hd.view_19 (looseW hd.view_19 []) mean mg mb h₀) (hkk : cs.kind = .function)
    (hpp : Pre s.heap) (hdp : dp + n < recursionLimit) (hun : un + 8 * n < cLine)
    (ret : ∀ t h' tk', Fr h₀ L h' m → News h₀ L h' news → Q (.int x t) { s with heap := h', toks := tk' }) :
    wpAny (model PG w) (ktrTop dp un gd cn cs L a ccd cl outer) (call (.ref f) args) Q E s := by
  refine hC w mean mg mb dp un gd cn cs a ccd cl outer A₀ base h₀ L m s Q E hB hF hX hT hkk hpp hdp hun ?_
  rintro r h' tk' k ⟨t, rfl⟩
  exact ret t h' tk' (fr_of_keep hF k) (news_of_keep hN k)

theorem retL {g h : Heap} {L l : Addr} {vs : List Value} {k : Nat} {ns : List Int} {news : List (Addr × Obj)}
    (N : News g L h news) (hm : (l, listOf (List.toArray vs) k) ∈ news) (hi : IntsAre vs ns) : NewL g h (.ref l) ns :=
  ⟨l, vs, k, rfl, (N _ hm).1, (N _ hm).2.2, hi⟩

theorem con_endG {P : Heap → Heap → Value → Prop} {L' : Addr} {tk : Nat} {r : Value} {h' : Heap} {m' : Str → Option Value} {Q E : Value → Shared → Prop}
    (hret : ∀ (r : Value) (h' : Heap) (tk' : Nat), (∀ (b : Addr) (o : Obj), s.heap.get? b = some o → h'.get? b = some o) → P s.heap h' r → Q r { s with heap := h', toks := tk' })
    (F' : Fr s.heap L' h' m') (hp : P s.heap h' r) :
    Lv s.heap (fun r s' => match r with | .ok (.ret v) => Q v s' | .ok _ => False | .error e => E e s') r { s with heap := h', toks := tk } :=
  ⟨F'.keep, hret _ _ _ F'.keep hp⟩
theorem con_endN {L' : Addr} {tk : Nat} {h' : Heap} {m' : Str → Option Value} {Q E : Value → Shared → Prop}
    (hret : ∀ (r : Value) (h' : Heap) (tk' : Nat), (∀ (b : Addr) (o : Obj), s.heap.get? b = some o → h'.get? b = some o) → (fun h h' r => r = Value.none) s.heap h' r → Q r { s with heap := h', toks := tk' })
    (F' : Fr s.heap L' h' m') :
    Lv s.heap (fun r s' => match r with | .ok (.ret v) => Q v s' | .ok _ => False | .error e => E e s') .none { s with heap := h', toks := tk } :=
  ⟨F'.keep, hret _ _ _ F'.keep rfl⟩
theorem con_endI {x y : Int} {L' : Addr} {tk : Nat} {t : Tok} {h' : Heap} {m' : Str → Option Value} {Q E : Value → Shared → Prop}
    (hret : ∀ (r : Value) (h' : Heap) (tk' : Nat), (∀ (b : Addr) (o : Obj), s.heap.get? b = some o → h'.get? b = some o) → (fun h h' r => ∃ t, r = Value.int x t) s.heap h' r → Q r { s with heap := h', toks := tk' })
    (F' : Fr s.heap L' h' m') (e : y = x) :
    Lv s.heap (fun r s' => match r with | .ok (.ret v) => Q v s' | .ok _ => False | .error e => E e s') (.int y t) { s with heap := h', toks := tk } :=
  ⟨F'.keep, hret _ _ _ F'.keep ⟨t, by rw [e]⟩⟩
theorem con_endL {f : Prop} {ns ns' : List Int} {L' l : Addr} {k tk : Nat} {vs : List Value} {h' : Heap} {m' : Str → Option Value} {news : List (Addr × Obj)} {Q E : Value → Shared → Prop}
    (hret : ∀ (r : Value) (h' : Heap) (tk' : Nat), (∀ (b : Addr) (o : Obj), s.heap.get? b = some o → h'.get? b = some o) → (fun h h' r => NewL h h' r ns) s.heap h' r → Q r { s with heap := h', toks := tk' })
    (F' : Fr s.heap L' h' m') (N' : News s.heap L' h' news) (hm : (l, listOf (List.toArray vs) k) ∈ news) (hi : IntsAre vs ns') (e : ns' = ns) :
    Lv s.heap (fun r s' => match r with | .ok (.ret v) => Q v s' | .ok _ => False | .error e => E e s') (.ref l) { s with heap := h', toks := tk } :=
  ⟨F'.keep, hret _ _ _ F'.keep (retL N' hm (e ▸ hi))⟩
theorem carried_ints {α : Type} {vs : List Value} {as : List α} {p : α → Bool} {f : α → Int} (h : CarriedAll vs ((as.filter p).map fun a => PyData.int (f a))) : CarriedAll vs (((as.filter p).map f).map PyData.int) := by
  rw [List.map_map]; exact h
theorem con_endP {ns ns' : List Int} {L' l : Addr} {tk : Nat} {vs : List Value} {h' : Heap} {m' : Str → Option Value} {news : List (Addr × Obj)} {Q E : Value → Shared → Prop}
    (hret : ∀ (r : Value) (h' : Heap) (tk' : Nat), (∀ (b : Addr) (o : Obj), s.heap.get? b = some o → h'.get? b = some o) → (fun h h' r => NewL h h' r ns) s.heap h' r → Q r { s with heap := h', toks := tk' })
    (F' : Fr s.heap L' h' m') (N' : News s.heap L' h' news) (P : NewPlain h' news l vs.toArray) (hn : s.heap.get? l = none) (hi : CarriedAll vs (ns'.map PyData.int)) (e : ns' = ns) :
    Lv s.heap (fun r s' => match r with | .ok (.ret v) => Q v s' | .ok _ => False | .error e => E e s') (.ref l) { s with heap := h', toks := tk } := by
  obtain ⟨n, N2, _⟩ := gn_enter P F' N' hn
  exact con_endL (f := True) hret F' N2 (.head _) (by simpa using CarriedAll.intsOf (f := fun x => x) hi) e
end

/-! while loops, one turn at a time: the walk stops at Wh -/
section
variable {prog : Program} {w : World} {A : Around} {E : Value → Shared → Prop} {s : Shared} {env : Env} {test : PySem.Expr} {body orelse : List Stmt} {Q : Flow → Shared → Prop}
def Wh (prog : Program) (w : World) (A : Around) (E : Value → Shared → Prop) (env : Env) (test : PySem.Expr) (body orelse : List Stmt) (Q : Flow → Shared → Prop) (s : Shared) : Prop :=
  WhlRest prog w A E env test body orelse Q 0 s
def WhPost (prog : Program) (w : World) (A : Around) (E : Value → Shared → Prop) (env : Env) (test : PySem.Expr) (body orelse : List Stmt) (Q : Flow → Shared → Prop) (f : Flow) (s : Shared) : Prop :=
  match f with
  | .next => Wh prog w A E env test body orelse Q s
  | .cont => Wh prog w A E env test body orelse Q s
  | .brk => Q .next s
  | .ret v => Q (.ret v) s
theorem wh_start {pos : Pos} (h : Wh prog w A E env test body orelse Q s) : wpAny (model prog w) A (exec (.While test body orelse pos) env) Q E s := whl_start 0 h
theorem wh_turn (hE : PassesOwn (model prog w) A env E)
    (h : wpAny (model prog w) A (isTrue test env (eval test env)) (fun b s₂ => if b = true then wpAny (model prog w) A (execs body env) (WhPost prog w A E env test body orelse Q) E s₂ else wpAny (model prog w) A (execs orelse env) Q E s₂) E s) :
    Wh prog w A E env test body orelse Q s := by
  refine whl_turn (k := 0) hE (wpAny_mono h (fun b s₂ q => ?_) fun _ _ e => e)
  cases b with
  | false => exact WhlIf.no rfl (by simpa using q)
  | true =>
    refine WhlIf.yes rfl (wpAny_mono (by simpa using q) (fun f s₃ r => ?_) fun _ _ e => e)
    cases f <;> exact r
/-- a while by a measure: J x m says what the frame's map holds at x -/
theorem wh_ind {σ : Type} {h₀ : Heap} {L : Addr} (J : σ → (Str → Option Value) → List (Addr × Obj) → Prop) (meas : σ → Nat)
    (step : ∀ (x : σ) (h : Heap) (tk : Nat) (m : Str → Option Value) (news : List (Addr × Obj)), J x m news → Fr h₀ L h m → News h₀ L h news →
      (∀ (y : σ) (h' : Heap) (tk' : Nat) (m' : Str → Option Value), meas y < meas x → Fr h₀ L h' m' → (∃ news', J y m' news' ∧ News h₀ L h' news') → Wh prog w A E env test body orelse Q { s with heap := h', toks := tk' }) →
      Wh prog w A E env test body orelse Q { s with heap := h, toks := tk })
    (x : σ) {h : Heap} {tk : Nat} {m : Str → Option Value} (F : Fr h₀ L h m) (hJ : ∃ news, J x m news ∧ News h₀ L h news) : Wh prog w A E env test body orelse Q { s with heap := h, toks := tk } := by
  have all : ∀ n, ∀ x : σ, meas x < n → ∀ (h : Heap) (tk : Nat) (m : Str → Option Value), Fr h₀ L h m → (∃ news, J x m news ∧ News h₀ L h news) → Wh prog w A E env test body orelse Q { s with heap := h, toks := tk } := by
    intro n
    induction n with
    | zero => intro x hx; exact absurd hx (Nat.not_lt_zero _)
    | succ n ih =>
      rintro x hx h tk m F ⟨news, hJ, N⟩
      exact step x h tk m news hJ F N fun y h' tk' m' hy F' N' => ih y (Nat.lt_of_lt_of_le hy (Nat.le_of_lt_succ hx)) h' tk' m' F' N'
  exact all _ x (Nat.lt_succ_self _) h tk m F hJ
end
/-- the frame's map, written out at the names that are known -/
theorem map_at {m : Str → Option Value} {x : Str} {v : Value} (h : m x = some v) : m = fun y => if y = x then some v else m y := by
  funext y
  by_cases e : y = x
  · rw [if_pos e, e, h]
  · rw [if_neg e]
theorem map_at2 {m : Str → Option Value} {x1 x2 : Str} {v1 v2 : Value} (h1 : m x1 = some v1) (h2 : m x2 = some v2) : m = fun y => if y = x1 then some v1 else if y = x2 then some v2 else m y := by
  funext y
  by_cases e1 : y = x1
  · rw [if_pos e1, e1, h1]
  rw [if_neg e1]
  by_cases e2 : y = x2
  · rw [if_pos e2, e2, h2]
  rw [if_neg e2]
theorem map_at3 {m : Str → Option Value} {x1 x2 x3 : Str} {v1 v2 v3 : Value} (h1 : m x1 = some v1) (h2 : m x2 = some v2) (h3 : m x3 = some v3) : m = fun y => if y = x1 then some v1 else if y = x2 then some v2 else if y = x3 then some v3 else m y := by
  funext y
  by_cases e1 : y = x1
  · rw [if_pos e1, e1, h1]
  rw [if_neg e1]
  by_cases e2 : y = x2
  · rw [if_pos e2, e2, h2]
  rw [if_neg e2]
  by_cases e3 : y = x3
  · rw [if_pos e3, e3, h3]
  rw [if_neg e3]
theorem map_at4 {m : Str → Option Value} {x1 x2 x3 x4 : Str} {v1 v2 v3 v4 : Value} (h1 : m x1 = some v1) (h2 : m x2 = some v2) (h3 : m x3 = some v3) (h4 : m x4 = some v4) : m = fun y => if y = x1 then some v1 else if y = x2 then some v2 else if y = x3 then some v3 else if y = x4 then some v4 else m y := by
  funext y
  by_cases e1 : y = x1
  · rw [if_pos e1, e1, h1]
  rw [if_neg e1]
  by_cases e2 : y = x2
  · rw [if_pos e2, e2, h2]
  rw [if_neg e2]
  by_cases e3 : y = x3
  · rw [if_pos e3, e3, h3]
  rw [if_neg e3]
  by_cases e4 : y = x4
  · rw [if_pos e4, e4, h4]
  rw [if_neg e4]
theorem map_at5 {m : Str → Option Value} {x1 x2 x3 x4 x5 : Str} {v1 v2 v3 v4 v5 : Value} (h1 : m x1 = some v1) (h2 : m x2 = some v2) (h3 : m x3 = some v3) (h4 : m x4 = some v4) (h5 : m x5 = some v5) : m = fun y => if y = x1 then some v1 else if y = x2 then some v2 else if y = x3 then some v3 else if y = x4 then some v4 else if y = x5 then some v5 else m y := by
  funext y
  by_cases e1 : y = x1
  · rw [if_pos e1, e1, h1]
  rw [if_neg e1]
  by_cases e2 : y = x2
  · rw [if_pos e2, e2, h2]
  rw [if_neg e2]
  by_cases e3 : y = x3
  · rw [if_pos e3, e3, h3]
  rw [if_neg e3]
  by_cases e4 : y = x4
  · rw [if_pos e4, e4, h4]
  rw [if_neg e4]
  by_cases e5 : y = x5
  · rw [if_pos e5, e5, h5]
  rw [if_neg e5]
theorem map_at6 {m : Str → Option Value} {x1 x2 x3 x4 x5 x6 : Str} {v1 v2 v3 v4 v5 v6 : Value} (h1 : m x1 = some v1) (h2 : m x2 = some v2) (h3 : m x3 = some v3) (h4 : m x4 = some v4) (h5 : m x5 = some v5) (h6 : m x6 = some v6) : m = fun y => if y = x1 then some v1 else if y = x2 then some v2 else if y = x3 then some v3 else if y = x4 then some v4 else if y = x5 then some v5 else if y = x6 then some v6 else m y := by
  funext y
  by_cases e1 : y = x1
  · rw [if_pos e1, e1, h1]
  rw [if_neg e1]
  by_cases e2 : y = x2
  · rw [if_pos e2, e2, h2]
  rw [if_neg e2]
  by_cases e3 : y = x3
  · rw [if_pos e3, e3, h3]
  rw [if_neg e3]
  by_cases e4 : y = x4
  · rw [if_pos e4, e4, h4]
  rw [if_neg e4]
  by_cases e5 : y = x5
  · rw [if_pos e5, e5, h5]
  rw [if_neg e5]
  by_cases e6 : y = x6
  · rw [if_pos e6, e6, h6]
  rw [if_neg e6]
theorem map_at7 {m : Str → Option Value} {x1 x2 x3 x4 x5 x6 x7 : Str} {v1 v2 v3 v4 v5 v6 v7 : Value} (h1 : m x1 = some v1) (h2 : m x2 = some v2) (h3 : m x3 = some v3) (h4 : m x4 = some v4) (h5 : m x5 = some v5) (h6 : m x6 = some v6) (h7 : m x7 = some v7) : m = fun y => if y = x1 then some v1 else if y = x2 then some v2 else if y = x3 then some v3 else if y = x4 then some v4 else if y = x5 then some v5 else if y = x6 then some v6 else if y = x7 then some v7 else m y := by
  funext y
  by_cases e1 : y = x1
  · rw [if_pos e1, e1, h1]
  rw [if_neg e1]
  by_cases e2 : y = x2
  · rw [if_pos e2, e2, h2]
  rw [if_neg e2]
  by_cases e3 : y = x3
  · rw [if_pos e3, e3, h3]
  rw [if_neg e3]
  by_cases e4 : y = x4
  · rw [if_pos e4, e4, h4]
  rw [if_neg e4]
  by_cases e5 : y = x5
  · rw [if_pos e5, e5, h5]
  rw [if_neg e5]
  by_cases e6 : y = x6
  · rw [if_pos e6, e6, h6]
  rw [if_neg e6]
  by_cases e7 : y = x7
  · rw [if_pos e7, e7, h7]
  rw [if_neg e7]
theorem news_1 {h₀ h : Heap} {L : Addr} {news : List (Addr × Obj)} {p : Addr × Obj} (N : News h₀ L h news) (h1 : p ∈ news) : News h₀ L h [p] := by
  intro x hx
  rcases List.mem_cons.mp hx with rfl | hx
  · exact N _ h1
  · cases hx
theorem news_c {h₀ h : Heap} {L : Addr} {news r : List (Addr × Obj)} {p : Addr × Obj} (N : News h₀ L h news) (h1 : p ∈ news) (hr : News h₀ L h r) : News h₀ L h (p :: r) := by
  intro x hx
  rcases List.mem_cons.mp hx with rfl | hx
  · exact N _ h1
  · exact hr x hx
theorem ints_get' {vs : List Value} {ns : List Int} (hi : IntsAre vs ns) : ∀ (i : Nat) (v : Value), vs[i]? = some v → ∃ n t, v = .int n t ∧ ns[i]? = some n ∧ i < ns.length := by
  induction hi with
  | nil => intro i v h; simp at h
  | cons n t _ ih =>
    intro i v h
    cases i with
    | zero => cases h; exact ⟨n, t, rfl, rfl, by simp⟩
    | succ i =>
      obtain ⟨m, t', e, h1, h2⟩ := ih i v (by simpa using h)
      exact ⟨m, t', e, by simpa using h1, by simpa using h2⟩

end
local macro_rules | `(tactic| ktr_room) => `(tactic| k_extra "my ktr_room")
theorem kw_3 : True := by
  (k_with "my ktr_room" => (first | ((with_reducible apply room_in); (case h => with_reducible assumption); exact rfl) | ((with_reducible apply room_in2); (case h => with_reducible assumption); exact rfl) | (with_reducible exact room_in1 (by assumption)) | decide | exact room_in (by with_reducible assumption) rfl | exact room_in2 (by with_reducible assumption) rfl | exact room_in1 (by with_reducible assumption) | exact Nat.le_of_ble_eq_true rfl | fail "own room"))
  trivial
local macro_rules | `(tactic| ktr_units) => `(tactic| k_extra "my ktr_units")
theorem kw_4 : True := by
  (k_with "my ktr_units" => (first | ((with_reducible apply room_in); (case h => with_reducible assumption); exact rfl) | ((with_reducible apply room_in2); (case h => with_reducible assumption); exact rfl) | (with_reducible exact room_in1 (by assumption)) | decide | exact room_in (by with_reducible assumption) rfl | exact room_in2 (by with_reducible assumption) rfl | exact room_in1 (by with_reducible assumption) | exact Nat.le_of_ble_eq_true rfl | fail "own room"))
  trivial
local macro_rules | `(tactic| l_fit) => `(tactic| k_extra "my l_fit")
theorem kw_5 : True := by
  (k_with "my l_fit" => ((try simp only [List.length_append, List.length_cons, List.length_nil, List.length_map]); (first | (with_reducible assumption) | ((with_reducible apply lt_wide); (case h => with_reducible assumption); exact rfl) | ((with_reducible apply le_wide); (case h => with_reducible assumption); exact rfl) | ((with_reducible apply ints_lt); (case i => with_reducible assumption); (case h => with_reducible assumption); exact rfl) | fail "own fit")))
  trivial
local macro_rules | `(tactic| walk_at $s:str) => `(tactic| k_extra $s)
theorem kw_6 : True := by
  (k_with "my and" => first | with_reducible assumption | exact ax1 (by with_reducible assumption) | exact ax2 (by with_reducible assumption) | exact az2 (by with_reducible assumption) | exact ax3 (by with_reducible assumption) | exact az3 (by with_reducible assumption) | exact ax4 (by with_reducible assumption) | exact az4 (by with_reducible assumption) | exact ax1 (ax1 (by with_reducible assumption)) | exact ax2 (ax1 (by with_reducible assumption)) | exact az2 (ax1 (by with_reducible assumption)) | exact ax3 (ax1 (by with_reducible assumption)) | exact az3 (ax1 (by with_reducible assumption)) | fail "my and")
  trivial
local macro_rules | `(tactic| omega) => `(tactic| k_extra "my omega")
theorem kw_7 : True := by
  (k_with "my omega" => (first | with_reducible assumption | ((with_reducible apply lt_wide); (case h => with_reducible assumption); exact rfl) | ((with_reducible apply le_wide); (case h => with_reducible assumption); exact rfl) | ((with_reducible apply le_wide2); (case h => with_reducible assumption); exact rfl) | ((with_reducible apply lt_wide2); (case h => with_reducible assumption); exact rfl) | ((with_reducible apply room_in); (case h => with_reducible assumption); exact rfl) | ((with_reducible apply room_in2); (case h => with_reducible assumption); exact rfl) | (with_reducible exact room_in1 (by assumption)) | (with_reducible exact cast_le (by assumption)) | (with_reducible exact cast_lt (by assumption)) | (with_reducible exact neg_cast (by assumption)) | (with_reducible exact sub_nn (by assumption)) | (with_reducible exact cast_ne (by assumption)) | (with_reducible exact cast_sub (by assumption)) | ((with_reducible apply cast_lt_k); (case h => with_reducible assumption); exact rfl) | ((with_reducible apply cast_le_k); (case h => with_reducible assumption); exact rfl) | ((with_reducible apply sub_lt_k); (case h => with_reducible assumption); exact rfl) | (with_reducible exact absurd (by assumption) (nle_of_lt (by assumption))) | k_extra "my and" | decide | fail "own omega"))
  trivial
local macro_rules | `(tactic| news_mem) => `(tactic| k_extra "my news_mem")
theorem kw_8 : True := by
  (k_with "my news_mem" => k_mem)
  trivial
local macro_rules | `(tactic| k_lt $h:ident) => `(tactic| skip)
local macro_rules | `(tactic| k_ne) => `(tactic| k_extra "my k_ne")
theorem kw_9 : True := by
  (k_with "my k_ne" => (refine neN ?_; (try dsimp only); first | exact NeA.out (by with_reducible assumption) | exact NeA.out2 (by with_reducible assumption) | exact neGet (by with_reducible assumption) (by k_mem) | exact ltGet (by with_reducible assumption) (by k_mem) | exact (neGet (by with_reducible assumption) (by k_mem)).symm | exact (ltGet (by with_reducible assumption) (by k_mem)).symm | (refine Nat.ne_of_lt ?_; k_extra "my and") | (refine Nat.ne_of_gt ?_; k_extra "my and") | k_extra "my and" | (refine Ne.symm ?_; k_extra "my and") | exact Nat.succ_ne_self _ | exact (Nat.succ_ne_self _).symm | fail "k_ne: not at hand"))
  trivial
theorem ztrim_end {ns : List Int} {k : Int} (h1 : k ≤ (ns.length : Int)) (h2 : min (ns.length : Int) 0 ≤ k)
    (h3 : ∀ j : Int, k < j → j ≤ (ns.length : Int) → (if 0 < j then if (ns.getD (j - 1).toNat 0 == 0) = true then true else false else false) = true)
    (h4 : (if 0 < k then if (ns.getD (k - 1).toNat 0 == 0) = true then true else false else false) = false) : ns.take k.toNat = trL ns := by
  refine trL_take ns (ns.length - k.toNat) k.toNat (by omega) (fun j hj hl => ?_) (fun hk => ?_)
  · have h := h3 ((j : Int) + 1) (by omega) (by omega)
    rw [if_pos (by omega)] at h
    have e : ((j : Int) + 1 - 1).toNat = j := by omega
    rw [e] at h
    by_cases q : ns.getD j 0 = 0
    · exact q
    · rw [if_neg (by simpa using q)] at h
      exact absurd h (by decide)
  · intro q
    have e : (k - 1).toNat = k.toNat - 1 := by omega
    rw [if_pos (by omega), e, if_pos (by simpa using q)] at h4
    exact absurd h4 (by decide)
set_option maxHeartbeats 8000000 in
theorem c_ztrim {l : Addr} {vs : List Value} {ns : List Int} (hi : IntsAre vs ns) (hn : ns.length < 1000) : Con 55 1 [.ref l] (fun h => h.IsList l vs.toArray) (fun h h' r => NewL h h' r (trL ns)) := by
  unfold Con PG
  k_fill
  intro w mean mg mb dp un gd cn cs af ccd cl outer A₀ base h₀ L m s Q E B F X T hk hp hd hu hret
  refine wpAny_call ?_
  k_dflt (refine' code_def0 ?k1 ?k2 ?k3 ?k5 ?kA ?kF ?kK ?k6 ?k7 ?k8 ?k9 ?kB ?_ ?c2 ?c3 ?c4 ?c5; (case kA => exact rfl); (case kF => exact rfl); (case kK => assumption); (case k1 => k_asm); (case k2 => k_asm); (case k3 => k_asm); (case k5 => k_asm); (case k6 => k_is); (case k7 => k_is); (case k8 => ktr_room); (case k9 => exact BindsTo.of_eq rfl); (case c5 => decide); (case kB => exact locs rfl); (case c2 => exact rfl); (case c3 => exact rfl); (case c4 => exact rfl); k_whole)
  intro L' h' F' N' B' X' T'
  (try dsimp only)
  show (let v₂ : Env := _; let A₂ : Around := Around.deeper _ v₂; wpAny _ A₂ (execs _ v₂) _ _ _)
  intro v₂ A₂
  (try k_fold)
  k_steps
  (try k_unfold)
  (try dsimp only)
  refine con_endL (f := True) hret (by assumption) (by assumption) (by k_mem) (by assumption) ?_
  exact ztrim_end (by assumption) (by assumption) (by assumption) (by assumption)

def coT (a b : Int) : List Int := List.foldl (fun l' k' => if a.fmod k' = 0 ∧ b.fmod k' = 0 then l' ++ [k'] else if a.fmod k' = 0 ∧ ¬b.fmod k' = 0 then l' else l') [] (rangeKs 1 ((10 : Int) - 1).toNat)
set_option maxHeartbeats 8000000 in
theorem c_law_common {a b c : Int} {t u : Tok} (h0 : 0 < (coT a b).length) (h1 : ∀ m, m ∈ coT a b → (∀ x ∈ coT a b, x ≤ m) → m = c) : Con 211 3 [.int a t, .int b u] (fun h => True) (fun h h' r => ∃ t, r = .int c t) := by
  unfold Con PG
  k_fill
  intro w mean mg mb dp un gd cn cs af ccd cl outer A₀ base h₀ L m s Q E B F X T hk hp hd hu hret
  refine wpAny_call ?_
  k_dflt (refine' code_def0C ?k1 ?k2 ?k3 ?k5 ?kA ?kF ?kK ?k6 ?k7 ?k8 ?k9 ?kB ?kD ?_ ?c2 ?c3 ?c4; (case kA => exact rfl); (case kF => exact rfl); (case kK => assumption); (case k1 => k_asm); (case k2 => k_asm); (case k3 => k_asm); (case k5 => k_asm); (case k6 => k_is); (case k7 => k_is); (case k8 => ktr_room); (case k9 => exact BindsTo.of_eq rfl); (case kB => exact rfl); (case kD => decide +kernel); (case c2 => exact rfl); (case c3 => exact rfl); (case c4 => exact rfl); k_whole)
  intro L' h' tk' cells' F' N' Y' B' X' T'
  k_cells Y'
  (try simp only [List.cons_append, List.nil_append] at N')
  (try dsimp only)
  show (let v₂ : Env := _; let A₂ : Around := Around.deeper _ v₂; wpAny _ A₂ (execs _ v₂) _ _ _)
  intro v₂ A₂
  (try k_fold)
  k_steps
  (try dsimp only)
  (try k_unfold)
  (try dsimp only)
  refine con_endI hret (by assumption) ?_
  exact h1 _ (by assumption) (by assumption)

/-! a list comprehension over enumerate(list), its element a value -/
section
variable {prog : Program} {w : World} {A : Around} {E : Value → Shared → Prop} {s : Shared} {env : Env}
def EnumSrc (prog : Program) (w : World) (A : Around) (env : Env) (elt : PySem.Expr) (x y : Str) (scope : Scope) (cl : List (Str × Addr)) (G : Nat → Value → Value → Prop) (Q : Value → Shared → Prop) (xv : Value) (s₁ : Shared) : Prop :=
  ∃ e it l its, xv = .ref e ∧ e ≠ it ∧ l ≠ e ∧ l ≠ it ∧ IsEnum s₁.heap e it 0 .none ∧ s₁.heap.IsListIter it l 0 ∧ s₁.heap.IsList l its ∧ its.size ≤ sizeLine ∧
    (∀ C i v t s₂ m₂ E', its[i]? = some v → s₂.heap.Ns C m₂ → m₂ x = some (.int (i : Int) t) → m₂ y = some v →
      wpAny (model prog w) A (eval elt (compEnvC scope cl C env)) (fun z s₃ => G i v z ∧ Keeps s₂ s₃) E' s₂) ∧
    (∀ D h' tk zs, s₁.heap.get? D = none → (∀ b o, b ≠ e → b ≠ it → s₁.heap.get? b = some o → h'.get? b = some o) → h'.get? D = some (LCg.lst zs) → zs.length = its.size →
      (∀ i v, its[i]? = some v → ∃ z, zs[i]? = some z ∧ G i v z) → Q (.ref D) { s₁ with heap := h', toks := tk })
theorem comp_enum {elt iter : PySem.Expr} {x y : Str} {px py tp : Pos} {tk : Nat} {scope : Scope} {cl : List (Str × Addr)} {pos : Pos} {Q : Value → Shared → Prop} (G : Nat → Value → Value → Prop)
    (hh : A.handled = none) (hclos : closureFor scope env = pure cl) (hcell : ∀ y ∈ scope.names, y.2 ≠ .cell) (hkind : scope.kind = .function)
    (hnames : ∀ y ∈ scope.names, y.2 = .local → scope.names.lookup y.1 = some .local) (hx : scope.names.lookup x = some .local) (hy : scope.names.lookup y = some .local) (hxy : x ≠ y)
    (h : wpAny (model prog w) A (eval iter env) (EnumSrc prog w A env elt x y scope cl G Q) E s)
    (hs : ∀ x, foldedSetIterable iter env x = pure x := by intro _; rfl) :
    wpAny (model prog w) A (eval (.ListComp elt [⟨.Tuple [.Name x px, .Name y py] tk tp, iter, [], 0⟩] scope pos) env) Q E s := by
  rw [eval_ListComp]
  refine wpAny_comprehension_free (use := none) rfl hs hclos hkind hnames (wpAny_mono h (fun xv s₁ h₁ => ?_) fun _ _ e => e)
  obtain ⟨e, it, l, its, rfl, hei, hle, hli, hE, hI, hl, hsz, turn, fin⟩ := h₁
  refine wpAny_pyIter_enum hE ?_
  refine wpAny_newObj_type (wpAny_newFunctionEnv hcell (by intro y hy; simp at hy) (fun h₁ hns hsb => ?_) hkind)
  dsimp only at hns hsb ⊢
  generalize hH : s₁.heap.push { cls := .type "list", dict := none, data := .seq ([] : List Value).toArray } = H at hns hsb ⊢
  have hC : H.objs.size = s₁.heap.objs.size + 1 := by rw [← hH, Heap.size_push]
  have old : ∀ b o, s₁.heap.get? b = some o → h₁.get? b = some o := fun b o q =>
    hsb.extBut b o (by rw [hC]; exact Nat.ne_of_lt (Nat.lt_succ_of_lt (Heap.lt_size q))) (Heap.get?_push_of_some _ (hH ▸ Heap.get?_push_of_some _ q))
  have hDC : s₁.heap.objs.size ≠ H.objs.size := by rw [hC]; exact Nat.ne_of_lt (Nat.lt_succ_self _)
  have hacc : h₁.get? s₁.heap.objs.size = some (LCg.lst []) := hsb.extBut _ _ hDC (Heap.get?_push_of_some _ (hH ▸ Heap.get?_push_size _ rfl))
  have hD : s₁.heap.get? s₁.heap.objs.size = none := by
    cases q : s₁.heap.get? s₁.heap.objs.size with
    | none => rfl
    | some o => exact absurd (Heap.lt_size q) (Nat.lt_irrefl _)
  have lt : ∀ {b o}, s₁.heap.get? b = some o → b ≠ s₁.heap.objs.size ∧ b ≠ H.objs.size := fun q =>
    ⟨Nat.ne_of_lt (Heap.lt_size q), by rw [hC]; exact Nat.ne_of_lt (Nat.lt_succ_of_lt (Heap.lt_size q))⟩
  have he : e ≠ s₁.heap.objs.size ∧ e ≠ H.objs.size := lt hE
  have hi : it ≠ s₁.heap.objs.size ∧ it ≠ H.objs.size := by obtain ⟨o, q, _⟩ := hI; exact lt q
  have hll : l ≠ s₁.heap.objs.size ∧ l ≠ H.objs.size := by obtain ⟨o, q, _⟩ := hl; exact lt q
  generalize hDd : s₁.heap.objs.size = D at *
  generalize hCd : H.objs.size = C at *
  have W := WalksT.enumerate (prog := prog) (w := w) hh e it l hei hle hli its
  have wr : ∀ {b}, b ≠ e → b ≠ it → b ∉ [e, it] := fun h1 h2 hm => by
    rcases List.mem_cons.mp hm with q | hm
    · exact h1 q
    · exact h2 (List.mem_singleton.mp hm)
  have fr3 : ∀ {h h' : Heap}, (∀ b o, b ≠ D → b ≠ C → h.get? b = some o → h'.get? b = some o) → ∀ b ∈ [e, it, l], ∀ o, h.get? b = some o → h'.get? b = some o := fun {h h'} k b hb o q => by
    refine k b o ?_ ?_ q
    · rcases List.mem_cons.mp hb with rfl | hb
      · exact he.1
      · rcases List.mem_cons.mp hb with rfl | hb
        · exact hi.1
        · rw [List.mem_singleton.mp hb]; exact hll.1
    · rcases List.mem_cons.mp hb with rfl | hb
      · exact he.2
      · rcases List.mem_cons.mp hb with rfl | hb
        · exact hi.2
        · rw [List.mem_singleton.mp hb]; exact hll.2
  have st0 : (∃ o, IsEnum h₁ e it ((0 : Nat) : Int) o) ∧ h₁.IsListIter it l 0 ∧ h₁.IsList l its := ⟨⟨_, old _ _ hE⟩, hI.at fun o q => old _ o q, hl.at fun o q => old _ o q⟩
  have loop : codeAny (model prog w) A (.compLoop (.ListComp elt [⟨.Tuple [.Name x px, .Name y py] tk tp, iter, [], 0⟩] scope pos) 0 (.ref e) (.ref D) (compEnvC scope cl C env))
      (compPost (model prog w) A E none Q (.ref D) C) { s₁ with heap := h₁, toks := s₁.toks + ([] : List (Str × Value)).length } := by
    refine LCp.codeAny_compLoop_pair
      (fun k s' => ∃ h' tk i zs m', s' = { s₁ with heap := h', toks := tk } ∧ i ≤ its.size ∧ k = its.size - i ∧ zs.length = i ∧ ((∃ o, IsEnum h' e it (i : Int) o) ∧ h'.IsListIter it l i ∧ h'.IsList l its) ∧ h'.Ns C m' ∧ h'.get? D = some (LCg.lst zs) ∧
        (∀ b o, b ≠ e → b ≠ it → s₁.heap.get? b = some o → h'.get? b = some o) ∧ (∀ j v, j < i → its[j]? = some v → ∃ z, zs[j]? = some z ∧ G j v z)) ?_ its.size
      ⟨h₁, _, 0, [], _, rfl, Nat.zero_le _, rfl, rfl, st0, hns, hacc, fun b o _ _ q => old b o q, fun j v hj => absurd hj (Nat.not_lt_zero _)⟩
    rintro k s' ⟨h', tk, i, zs, m', rfl, hin, rfl, hzl, hst, hn, hd, hk, hG⟩
    by_cases hlt : i < its.size
    · refine W.item i _ _ _ hlt hst fun T vals h₂ tk₂ hP _ hT hM hk₂ => ?_
      obtain ⟨t, v, hv, rfl⟩ := hP
      refine W.go _ _ _ i T _ _ _ hM fun h₃ hst₃ hk₃ => ?_
      have hTw := W.apart i T h₂ hM
      have hT₃ : IsTup h₃ T #[.int (i : Int) t, v] := by
        obtain ⟨o, q, r⟩ := hT
        exact ⟨o, hk₃ _ _ hTw q, r⟩
      refine assign_Tuple_tuple hh hT₃ rfl rfl fun h₄ he₄ => ?_
      have up₄ : ∀ b o, h₃.get? b = some o → h₄.get? b = some o := fun b o q => he₄ b o (Nat.ne_of_lt (Heap.lt_size q)) q
      have up : ∀ b o, b ≠ e → b ≠ it → h'.get? b = some o → h₄.get? b = some o := fun b o h1 h2 q => up₄ b o (hk₃ b o (wr h1 h2) (hk₂ b o (wr h1 h2) q))
      have hn₄ : h₄.Ns C m' := hn.at' fun o q => up _ o (Ne.symm he.2) (Ne.symm hi.2) q
      refine assignInOrder_cons (wpAny_assign_Name (wpAny_storeName_local (lookup_relabel_local hx) hn₄ (fun h₅ hn₅ hs₅ => ?_) (by simp [compEnvC, relabel, hkind])))
      refine assignInOrder_cons (wpAny_assign_Name (wpAny_storeName_local (lookup_relabel_local hy) hn₅ (fun h₆ hn₆ hs₆ => ?_) (by simp [compEnvC, relabel, hkind])))
      refine assignInOrder_nil ?_
      have up₆ : ∀ b o, b ≠ C → h₄.get? b = some o → h₆.get? b = some o := fun b o hb q => hs₆.extBut b o hb (hs₅.extBut b o hb q)
      refine wpAny_mono (turn C i v t _ _ _ hv hn₆ (by simp [hxy]) (by simp)) (fun z s₄ h₇ => ?_) fun _ _ e => e
      obtain ⟨hGz, h₇', tk₇, rfl, up₇⟩ := h₇
      have hd₇ : h₇'.get? D = some (LCg.lst zs) := up₇ _ _ (up₆ _ _ hDC (up _ _ (Ne.symm he.1) (Ne.symm hi.1) hd))
      refine append_at (hsz := by show zs.toArray.size ≤ sizeLine; rw [List.size_toArray, hzl]; omega) hd₇ fun h₈ hs₈ hd₈ => ?_
      have st₈ := W.frame _ _ _ hst₃ (fr3 fun b o h1 h2 q => hs₈.extBut b o h1 (up₇ _ _ (up₆ _ _ h2 (up₄ _ _ q))))
      have hn₈ := (hn₆.at' fun o q => up₇ _ o q).sameBut hs₈ (Ne.symm hDC)
      have hl₈ : (zs ++ [z]).length = i + 1 := by rw [List.length_append, List.length_singleton, hzl]
      have old₈ : ∀ b o, b ≠ e → b ≠ it → s₁.heap.get? b = some o → h₈.get? b = some o := fun b o h1 h2 q =>
        hs₈.extBut b o (lt q).1 (up₇ _ _ (up₆ _ _ (lt q).2 (up _ _ h1 h2 (hk b o h1 h2 q))))
      have hG₈ : ∀ j u, j < i + 1 → its[j]? = some u → ∃ z', (zs ++ [z])[j]? = some z' ∧ G j u z' := by
        intro j u hj hu
        by_cases hji : j < i
        · obtain ⟨z', q1, q2⟩ := hG j u hji hu
          exact ⟨z', by rw [List.getElem?_append_left (by rw [hzl]; exact hji)]; exact q1, q2⟩
        · have : j = i := by omega
          subst this
          rw [hv] at hu
          cases hu
          exact ⟨z, by rw [List.getElem?_append_right (by omega), hzl, Nat.sub_self]; rfl, hGz⟩
      exact ⟨its.size - (i + 1), by omega, h₈, _, i + 1, zs ++ [z], _, rfl, hlt, rfl, hl₈, st₈, hn₈, hd₈.trans (congrArg some (LCg.lst_snoc zs z)), old₈, hG₈⟩
    · obtain rfl : i = its.size := by omega
      refine W.done _ _ _ hst fun h₂ tk₂ hk₂ => ?_
      refine ⟨m', hn.at' fun o q => hk₂ _ o (wr (Ne.symm he.2) (Ne.symm hi.2)) q, fun h₃ hs₃ => ?_⟩
      refine fin D h₃ tk₂ zs hD (fun b o h1 h2 q => hs₃.extBut b o (lt q).2 (hk₂ b o (wr h1 h2) (hk b o h1 h2 q))) (hs₃.extBut _ _ hDC (hk₂ _ _ (wr (Ne.symm he.1) (Ne.symm hi.1)) hd)) hzl fun j v hv => ?_
      exact hG j v (by
        rcases Nat.lt_or_ge j its.size with q | q
        · exact q
        · rw [Array.getElem?_eq_none q] at hv; cases hv) hv
  exact codeAny_compStart_list loop (W.self 0 _ _ _ st0 loop)
theorem tail_swap {value slice : PySem.Expr} {n : Str} {q : Pos} {o i : Value} {Q : Value → Shared → Prop} (h : wpAny (model prog w) A (subscriptTail (.Name n q) slice o i) Q E s) : wpAny (model prog w) A (subscriptTail value slice o i) Q E s := by
  intro Γ p hΓ
  have x := h Γ p hΓ
  simp only [subscriptTail, Sem.wp_bind'] at x ⊢
  refine Sem.wp_mono _ Γ _ (fun g p₁ s₁ x₁ => Sem.wp_mono _ Γ _ (fun r p₂ s₂ x₂ => ?_) (fun _ _ _ e => e) _ _ x₁) (fun _ _ _ e => e) _ _ x
  exact wpAny_letTemporaryGo (Q := fun _ s' => Q r s') x₂ Γ p₂ hΓ
end

local macro_rules | `(tactic| mul_fits) => `(tactic| k_extra "my mul_fits")
theorem kw_10 : True := by
  (k_with "my mul_fits" => (refine mul_of_all (by assumption) ?_; assumption))
  trivial
theorem kw_11 : True := by
  (k_with "exec While Compare" => (k_here; k_dflt (refine wh_start ?_)))
  trivial
theorem kw_12 : True := by
  (k_with "exec While BoolOp" => (k_here; k_dflt (refine wh_start ?_)))
  trivial
theorem kw_13 : True := by
  (k_with "exec While Compare cons nil" => (k_here; k_dflt (refine wh_start ?_)))
  trivial
theorem kw_14 : True := by
  (k_with "WhPost" => (dsimp only [WhPost]))
  trivial
theorem kw_15 : True := by
  (k_with "binaryOp FloorDiv int int" => (k_here; (with_reducible apply floordiv_int); (case hb => first | assumption | omega); (case hp => (refine Or.inr (PySem.PylongRoom.of ?_ ?_); (next => exact (Heap.NoLimit.keeps (Top.nolimit (by assumption)) (Fr.keep (by assumption)))); (next => ((show _ + 100 < _); ktr_room))))))
  trivial
theorem kw_16 : True := by
  (k_with "execs cons" => (k_here; (with_reducible rename Fr _ _ _ (fun y : Str => ite _ _ _) => zF); (fail_if_success (fail_if_success (delta ite at zF))); refine fr_let zF ?_; clear zF; intro _ _))
  trivial
theorem kw_17 : True := by
  (k_with "execs cons" => (k_here; (with_reducible rename News _ _ _ (_ :: _) => zN); (fail_if_success (fail_if_success (delta PySem.W.listOf at zN))); refine news_let zN ?_; clear zN; intro _ _))
  trivial
theorem gcd_abs (a b : Int) : Int.gcd (if a < 0 then -a else a) (if b < 0 then -b else b) = Int.gcd a b := by
  split <;> split <;> simp [Int.gcd]
theorem abs_ge (a : Int) : 0 ≤ (if a < 0 then -a else a) := by
  split <;> omega
theorem gcd_turn {x y : Int} (hx : 0 ≤ x) (hy : 0 ≤ y) (h : y ≠ 0) : (x.fmod y).toNat < y.toNat ∧ 0 ≤ x.fmod y ∧ Int.gcd y (x.fmod y) = Int.gcd x y := by
  have hp : 0 < y := by omega
  rw [Int.fmod_eq_emod_of_nonneg _ hy]
  have h1 := Int.emod_lt_of_pos x hp
  have h2 := Int.emod_nonneg x h
  refine ⟨by omega, h2, ?_⟩
  obtain ⟨m, rfl⟩ := Int.eq_ofNat_of_zero_le hx
  obtain ⟨n, rfl⟩ := Int.eq_ofNat_of_zero_le hy
  rw [← Int.natCast_emod, Int.gcd_natCast_natCast, Int.gcd_natCast_natCast, Nat.gcd_comm m n, Nat.gcd_rec n m, Nat.gcd_comm]
theorem gcd_end {x y : Int} (hx : 0 ≤ x) (h : y = 0) : x = (Int.gcd x y : Int) := by
  subst h
  rw [Int.gcd_zero]
  omega
set_option maxHeartbeats 8000000 in
theorem c_gcd {a b : Int} {t u : Tok} : Con 41 1 [.int a t, .int b u] (fun h => True) (fun h h' r => ∃ t, r = .int (Int.gcd a b) t) := by
  unfold Con PG
  k_fill
  intro w mean mg mb dp un gd cn cs af ccd cl outer A₀ base h₀ L m s Q E B F X T hk hp hd hu hret
  refine wpAny_call ?_
  k_dflt (refine' code_def0 ?k1 ?k2 ?k3 ?k5 ?kA ?kF ?kK ?k6 ?k7 ?k8 ?k9 ?kB ?_ ?c2 ?c3 ?c4 ?c5; (case kA => exact rfl); (case kF => exact rfl); (case kK => assumption); (case k1 => k_asm); (case k2 => k_asm); (case k3 => k_asm); (case k5 => k_asm); (case k6 => k_is); (case k7 => k_is); (case k8 => ktr_room); (case k9 => exact BindsTo.of_eq rfl); (case c5 => decide); (case kB => exact locs rfl); (case c2 => exact rfl); (case c3 => exact rfl); (case c4 => exact rfl); k_whole)
  intro L' h' F' N' B' X' T'
  (try dsimp only)
  show (let v₂ : Env := _; let A₂ : Around := Around.deeper _ v₂; wpAny _ A₂ (execs _ v₂) _ _ _)
  intro v₂ A₂
  (try k_fold)
  k_steps
  refine wh_ind (h₀ := s.heap) (L := L') (J := fun (x : Int × Int × Tok × Tok) m _ => m "a" = some (.int x.1 x.2.2.1) ∧ m "b" = some (.int x.2.1 x.2.2.2) ∧ 0 ≤ x.1 ∧ 0 ≤ x.2.1 ∧ Int.gcd x.1 x.2.1 = Int.gcd a b) (meas := fun x => x.2.1.toNat) ?step (?x1, ?x2, ?x3, ?x4) (by assumption) ⟨_, ?hJ, (by assumption)⟩
  case hJ =>
    refine ⟨by with_unfolding_all rfl, by with_unfolding_all rfl, ?_, ?_, ?_⟩
    · exact abs_ge a
    · exact abs_ge b
    · exact gcd_abs a b
  case step =>
    rintro ⟨x, y, t1, t2⟩ h tk m news ⟨ha, hb, hx, hy, hg⟩ F' N' IH
    dsimp only at ha hb hx hy hg
    rw [map_at2 ha hb] at F'
    refine wh_turn (by first | passes_own | with_unfolding_all passes_own) ?_
    k_steps
    · obtain ⟨q1, q2, q3⟩ := gcd_turn hx hy (by assumption)
      refine IH (?y1, ?y2, ?y3, ?y4) _ _ _ ?ym (by assumption) ⟨_, ?yJ, (by assumption)⟩
      case yJ => exact ⟨by with_unfolding_all rfl, by with_unfolding_all rfl, hy, q2, q3.trans hg⟩
      case ym => exact q1
    · dsimp only
      (try dsimp only)
      (try k_unfold)
      (try dsimp only)
      refine con_endI hret (by assumption) ?_
      rw [← hg, ← gcd_end hx (by assumption)]
theorem kw_18 : True := by
  (k_with "call ref" => (k_here; (with_reducible show wpAny _ _ (call (Value.ref 41) _) _ _ _); k_dflt (apply con_useI; (case' hC => apply c_gcd); (case hpp => exact True.intro); (case hB => k_asm); (case hF => k_asm); (case hX => k_asm); (case hN => k_asm); (case hT => k_asm); (case hkk => first | exact rfl | assumption); (case hdp => ktr_room); (case hun => ktr_units); k_whole); intro zqt' zqh' zqtk' zqF' zqN'; (try dsimp only); (try k_fold); (try k_sweep)))
  trivial
set_option maxHeartbeats 8000000 in
theorem c_gcd_all {l : Addr} {vs : List Value} {ns : List Int} (hi : IntsAre vs ns) (hn : ns.length < 1000) : Con 48 3 [.ref l] (fun h => h.IsList l vs.toArray) (fun h h' r => ∃ t, r = .int (gcA ns) t) := by
  unfold Con PG
  k_fill
  intro w mean mg mb dp un gd cn cs af ccd cl outer A₀ base h₀ L m s Q E B F X T hk hp hd hu hret
  refine wpAny_call ?_
  k_dflt (refine' code_def0 ?k1 ?k2 ?k3 ?k5 ?kA ?kF ?kK ?k6 ?k7 ?k8 ?k9 ?kB ?_ ?c2 ?c3 ?c4 ?c5; (case kA => exact rfl); (case kF => exact rfl); (case kK => assumption); (case k1 => k_asm); (case k2 => k_asm); (case k3 => k_asm); (case k5 => k_asm); (case k6 => k_is); (case k7 => k_is); (case k8 => ktr_room); (case k9 => exact BindsTo.of_eq rfl); (case c5 => decide); (case kB => exact locs rfl); (case c2 => exact rfl); (case c3 => exact rfl); (case c4 => exact rfl); k_whole)
  intro L' h' F' N' B' X' T'
  (try dsimp only)
  show (let v₂ : Env := _; let A₂ : Around := Around.deeper _ v₂; wpAny _ A₂ (execs _ v₂) _ _ _)
  intro v₂ A₂
  (try k_fold)
  k_steps
  (try dsimp only)
  (try k_unfold)
  (try dsimp only)
  refine con_endI hret (by assumption) ?_
  rfl

theorem len_absurd {P : Prop} {c : Int} {t : List Int} (h : ¬ (0 : Int) < ((c :: t).length : Int)) : P := absurd (by simp only [List.length_cons]; omega) h
theorem len_ne {p : List Int} (h : (0 : Int) < (p.length : Int)) : ¬ p = [] := fun e => by rw [e] at h; exact absurd h (by decide)
theorem kw_19 : True := by
  (k_with "call ref" => (k_here; (with_reducible show wpAny _ _ (call (Value.ref 48) _) _ _ _); k_dflt (apply con_useI; (case' hC => apply c_gcd_all); (case hpp => (show Heap.IsList _ _ _; is_list)); (case hi => l_ints); (case hn => l_fit); (case hB => k_asm); (case hF => k_asm); (case hX => k_asm); (case hN => k_asm); (case hT => k_asm); (case hkk => first | exact rfl | assumption); (case hdp => ktr_room); (case hun => ktr_units); k_whole); intro zqt' zqh' zqtk' zqF' zqN'; (try dsimp only); (try k_fold); (try k_sweep)))
  trivial
set_option maxHeartbeats 8000000 in
theorem c_zcontent {l : Addr} {vs : List Value} {ns : List Int} (hi : IntsAre vs ns) (hn : ns.length < 1000) : Con 105 4 [.ref l] (fun h => h.IsList l vs.toArray) (fun h h' r => ∃ t, r = .int (gcA ns) t) := by
  unfold Con PG
  k_fill
  intro w mean mg mb dp un gd cn cs af ccd cl outer A₀ base h₀ L m s Q E B F X T hk hp hd hu hret
  refine wpAny_call ?_
  k_dflt (refine' code_def0 ?k1 ?k2 ?k3 ?k5 ?kA ?kF ?kK ?k6 ?k7 ?k8 ?k9 ?kB ?_ ?c2 ?c3 ?c4 ?c5; (case kA => exact rfl); (case kF => exact rfl); (case kK => assumption); (case k1 => k_asm); (case k2 => k_asm); (case k3 => k_asm); (case k5 => k_asm); (case k6 => k_is); (case k7 => k_is); (case k8 => ktr_room); (case k9 => exact BindsTo.of_eq rfl); (case c5 => decide); (case kB => exact locs rfl); (case c2 => exact rfl); (case c3 => exact rfl); (case c4 => exact rfl); k_whole)
  intro L' h' F' N' B' X' T'
  (try dsimp only)
  show (let v₂ : Env := _; let A₂ : Around := Around.deeper _ v₂; wpAny _ A₂ (execs _ v₂) _ _ _)
  intro v₂ A₂
  (try k_fold)
  k_steps
  (try dsimp only)
  (try k_unfold)
  (try dsimp only)
  refine con_endI hret (by assumption) ?_
  rfl

set_option maxHeartbeats 8000000 in
theorem c_zdegree {l : Addr} {vs : List Value} {ns : List Int} (hi : IntsAre vs ns) (hn : ns.length < 1000) : Con 62 1 [.ref l] (fun h => h.IsList l vs.toArray) (fun h h' r => ∃ t, r = .int ((ns.length : Int) - 1) t) := by
  unfold Con PG
  k_fill
  intro w mean mg mb dp un gd cn cs af ccd cl outer A₀ base h₀ L m s Q E B F X T hk hp hd hu hret
  refine wpAny_call ?_
  k_dflt (refine' code_def0 ?k1 ?k2 ?k3 ?k5 ?kA ?kF ?kK ?k6 ?k7 ?k8 ?k9 ?kB ?_ ?c2 ?c3 ?c4 ?c5; (case kA => exact rfl); (case kF => exact rfl); (case kK => assumption); (case k1 => k_asm); (case k2 => k_asm); (case k3 => k_asm); (case k5 => k_asm); (case k6 => k_is); (case k7 => k_is); (case k8 => ktr_room); (case k9 => exact BindsTo.of_eq rfl); (case c5 => decide); (case kB => exact locs rfl); (case c2 => exact rfl); (case c3 => exact rfl); (case c4 => exact rfl); k_whole)
  intro L' h' F' N' B' X' T'
  (try dsimp only)
  show (let v₂ : Env := _; let A₂ : Around := Around.deeper _ v₂; wpAny _ A₂ (execs _ v₂) _ _ _)
  intro v₂ A₂
  (try k_fold)
  k_steps
  (try dsimp only)
  (try k_unfold)
  (try dsimp only)
  refine con_endI hret (by assumption) ?_
  rfl
set_option maxHeartbeats 8000000 in
theorem c_zlead {l : Addr} {vs : List Value} {ns : List Int} (hi : IntsAre vs ns) (hn : ns.length < 1000) : Con 69 1 [.ref l] (fun h => h.IsList l vs.toArray) (fun h h' r => ∃ t, r = .int (ldL ns) t) := by
  unfold Con PG
  k_fill
  intro w mean mg mb dp un gd cn cs af ccd cl outer A₀ base h₀ L m s Q E B F X T hk hp hd hu hret
  refine wpAny_call ?_
  k_dflt (refine' code_def0 ?k1 ?k2 ?k3 ?k5 ?kA ?kF ?kK ?k6 ?k7 ?k8 ?k9 ?kB ?_ ?c2 ?c3 ?c4 ?c5; (case kA => exact rfl); (case kF => exact rfl); (case kK => assumption); (case k1 => k_asm); (case k2 => k_asm); (case k3 => k_asm); (case k5 => k_asm); (case k6 => k_is); (case k7 => k_is); (case k8 => ktr_room); (case k9 => exact BindsTo.of_eq rfl); (case c5 => decide); (case kB => exact locs rfl); (case c2 => exact rfl); (case c3 => exact rfl); (case c4 => exact rfl); k_whole)
  intro L' h' F' N' B' X' T'
  (try dsimp only)
  show (let v₂ : Env := _; let A₂ : Around := Around.deeper _ v₂; wpAny _ A₂ (execs _ v₂) _ _ _)
  intro v₂ A₂
  (try k_fold)
  k_steps
  · (try dsimp only)
    (try k_unfold)
    (try dsimp only)
    refine con_endI hret (by assumption) ?_
    rw [ldL_getD]
    congr 1
    omega
  · (try dsimp only)
    (try k_unfold)
    (try dsimp only)
    refine con_endI hret (by assumption) ?_
    cases ns with
    | nil => rfl
    | cons c t => exact len_absurd (by assumption)
set_option maxHeartbeats 8000000 in
theorem c_zraise {l : Addr} {vs : List Value} {ns : List Int} {k : Int} {t : Tok} (hi : IntsAre vs ns) (hn : ns.length < 1000) (h0 : 0 ≤ k) (h1 : k < 1000) : Con 98 1 [.ref l, .int k t] (fun h => h.IsList l vs.toArray) (fun h h' r => NewL h h' r (rsL ns k.toNat)) := by
  unfold Con PG
  k_fill
  intro w mean mg mb dp un gd cn cs af ccd cl outer A₀ base h₀ L m s Q E B F X T hk hp hd hu hret
  refine wpAny_call ?_
  k_dflt (refine' code_def0 ?k1 ?k2 ?k3 ?k5 ?kA ?kF ?kK ?k6 ?k7 ?k8 ?k9 ?kB ?_ ?c2 ?c3 ?c4 ?c5; (case kA => exact rfl); (case kF => exact rfl); (case kK => assumption); (case k1 => k_asm); (case k2 => k_asm); (case k3 => k_asm); (case k5 => k_asm); (case k6 => k_is); (case k7 => k_is); (case k8 => ktr_room); (case k9 => exact BindsTo.of_eq rfl); (case c5 => decide); (case kB => exact locs rfl); (case c2 => exact rfl); (case c3 => exact rfl); (case c4 => exact rfl); k_whole)
  intro L' h' F' N' B' X' T'
  (try dsimp only)
  show (let v₂ : Env := _; let A₂ : Around := Around.deeper _ v₂; wpAny _ A₂ (execs _ v₂) _ _ _)
  intro v₂ A₂
  (try k_fold)
  k_steps
  · (try k_unfold)
    (try dsimp only)
    refine con_endL (f := True) hret (by assumption) (by assumption) (by k_mem) (by assumption) ?_
    rw [flat_zeros, rsL, if_neg]
    exact len_ne (by assumption)
  · (try k_unfold)
    (try dsimp only)
    refine con_endL (f := True) (vs := []) hret (by assumption) (by assumption) (by k_mem) IntsAre.nil ?_
    cases ns with
    | nil => rfl
    | cons c t => exact len_absurd (by assumption)
set_option maxHeartbeats 8000000 in
theorem c_zneg {l : Addr} {vs : List Value} {ns : List Int} (hi : IntsAre vs ns) (hn : ns.length < 1000) : Con 79 1 [.ref l] (fun h => h.IsList l vs.toArray) (fun h h' r => NewL h h' r (ngL ns)) := by
  unfold Con PG
  k_fill
  intro w mean mg mb dp un gd cn cs af ccd cl outer A₀ base h₀ L m s Q E B F X T hk hp hd hu hret
  refine wpAny_call ?_
  k_dflt (refine' code_def0 ?k1 ?k2 ?k3 ?k5 ?kA ?kF ?kK ?k6 ?k7 ?k8 ?k9 ?kB ?_ ?c2 ?c3 ?c4 ?c5; (case kA => exact rfl); (case kF => exact rfl); (case kK => assumption); (case k1 => k_asm); (case k2 => k_asm); (case k3 => k_asm); (case k5 => k_asm); (case k6 => k_is); (case k7 => k_is); (case k8 => ktr_room); (case k9 => exact BindsTo.of_eq rfl); (case c5 => decide); (case kB => exact locs rfl); (case c2 => exact rfl); (case c3 => exact rfl); (case c4 => exact rfl); k_whole)
  intro L' h' F' N' B' X' T'
  (try dsimp only)
  show (let v₂ : Env := _; let A₂ : Around := Around.deeper _ v₂; wpAny _ A₂ (execs _ v₂) _ _ _)
  intro v₂ A₂
  (try k_fold)
  k_steps
  (try dsimp only)
  (try k_unfold)
  (try dsimp only)
  refine con_endP hret (by assumption) (by assumption) (by assumption) (by assumption) (carried_ints (by assumption)) ?_
  simp only [ngL, List.filter_eq_self.mpr (fun _ _ => rfl)]
set_option maxHeartbeats 8000000 in
theorem c_zscale {l : Addr} {vs : List Value} {ns : List Int} {k : Int} {t : Tok} (hi : IntsAre vs ns) (hn : ns.length < 1000) (hm : ∀ n ∈ ns, IntMulOk n k) : Con 91 1 [.ref l, .int k t] (fun h => h.IsList l vs.toArray) (fun h h' r => NewL h h' r (scL ns k)) := by
  unfold Con PG
  k_fill
  intro w mean mg mb dp un gd cn cs af ccd cl outer A₀ base h₀ L m s Q E B F X T hk hp hd hu hret
  refine wpAny_call ?_
  k_dflt (refine' code_def0C ?k1 ?k2 ?k3 ?k5 ?kA ?kF ?kK ?k6 ?k7 ?k8 ?k9 ?kB ?kD ?_ ?c2 ?c3 ?c4; (case kA => exact rfl); (case kF => exact rfl); (case kK => assumption); (case k1 => k_asm); (case k2 => k_asm); (case k3 => k_asm); (case k5 => k_asm); (case k6 => k_is); (case k7 => k_is); (case k8 => ktr_room); (case k9 => exact BindsTo.of_eq rfl); (case kB => exact rfl); (case kD => decide +kernel); (case c2 => exact rfl); (case c3 => exact rfl); (case c4 => exact rfl); k_whole)
  intro L' h' tk' cells' F' N' Y' B' X' T'
  k_cells Y'
  (try simp only [List.cons_append, List.nil_append] at N')
  (try dsimp only)
  show (let v₂ : Env := _; let A₂ : Around := Around.deeper _ v₂; wpAny _ A₂ (execs _ v₂) _ _ _)
  intro v₂ A₂
  (try k_fold)
  k_steps
  · (try k_unfold)
    (try dsimp only)
    refine con_endL (f := True) hret (by assumption) (by assumption) (by k_mem) (by assumption) ?_
    rw [scL, if_pos (by assumption)]
  · (try k_unfold)
    (try dsimp only)
    refine con_endL (f := True) (vs := []) hret (by assumption) (by assumption) (by k_mem) IntsAre.nil ?_
    rw [scL, if_neg (fun e => e (by assumption))]
set_option maxHeartbeats 8000000 in
theorem c_zdivided {l : Addr} {vs : List Value} {ns : List Int} {k : Int} {t : Tok} (hi : IntsAre vs ns) (hn : ns.length < 1000) (hm : k ≠ 0) : Con 110 110 [.ref l, .int k t] (fun h => h.IsList l vs.toArray) (fun h h' r => NewL h h' r (dvL ns k)) := by
  unfold Con PG
  k_fill
  intro w mean mg mb dp un gd cn cs af ccd cl outer A₀ base h₀ L m s Q E B F X T hk hp hd hu hret
  refine wpAny_call ?_
  k_dflt (refine' code_def0C ?k1 ?k2 ?k3 ?k5 ?kA ?kF ?kK ?k6 ?k7 ?k8 ?k9 ?kB ?kD ?_ ?c2 ?c3 ?c4; (case kA => exact rfl); (case kF => exact rfl); (case kK => assumption); (case k1 => k_asm); (case k2 => k_asm); (case k3 => k_asm); (case k5 => k_asm); (case k6 => k_is); (case k7 => k_is); (case k8 => ktr_room); (case k9 => exact BindsTo.of_eq rfl); (case kB => exact rfl); (case kD => decide +kernel); (case c2 => exact rfl); (case c3 => exact rfl); (case c4 => exact rfl); k_whole)
  intro L' h' tk' cells' F' N' Y' B' X' T'
  k_cells Y'
  (try simp only [List.cons_append, List.nil_append] at N')
  (try dsimp only)
  show (let v₂ : Env := _; let A₂ : Around := Around.deeper _ v₂; wpAny _ A₂ (execs _ v₂) _ _ _)
  intro v₂ A₂
  (try k_fold)
  k_steps
  (try k_unfold)
  (try dsimp only)
  refine con_endL (f := True) hret (by assumption) (by assumption) (by k_mem) (by assumption) ?_
  rfl

theorem kw_20 : True := by
  (k_with "call ref" => (k_here; (with_reducible show wpAny _ _ (call (Value.ref 55) _) _ _ _); k_dflt (apply con_useL; (case' hC => apply c_ztrim); (case hpp => (show Heap.IsList _ _ _; is_list)); (case hi => l_ints); (case hn => l_fit); (case hB => k_asm); (case hF => k_asm); (case hX => k_asm); (case hN => k_asm); (case hT => k_asm); (case hkk => first | exact rfl | assumption); (case hdp => ktr_room); (case hun => ktr_units); k_whole); intro zql' zqvs' zqk' zqh' zqtk' zqF' zqN' zql1 zqi1; (try dsimp only); (try k_fold); (try k_sweep)))
  trivial
theorem zif_max (a b : Nat) : ((if (b : Int) > (a : Int) then (b : Int) else (a : Int)) - 0).toNat = max a b := by
  rw [Int.sub_zero]
  split
  · rw [Int.toNat_natCast, Nat.max_eq_right (Nat.le_of_lt (Int.ofNat_lt.mp (by assumption)))]
  · rw [Int.toNat_natCast, Nat.max_eq_left (Int.ofNat_le.mp (Int.not_lt.mp (by assumption)))]
theorem zmax_lt {a b m k : Nat} (ha : a < m) (hb : b < m) (hk : Nat.ble m k = true) : max a b < k := lt_wide (Nat.max_lt.mpr ⟨ha, hb⟩) hk
theorem zadd_in {a b : Nat} {k : Int} (h : k < 0 + ((((if (b : Int) > (a : Int) then (b : Int) else (a : Int)) - 0).toNat : Nat) : Int)) (h' : ¬ k < (a : Int)) : k < (b : Int) := by
  rw [zif_max, Int.zero_add] at h
  rcases Nat.le_total a b with q | q
  · rwa [Nat.max_eq_right q] at h
  · rw [Nat.max_eq_left q] at h
    exact absurd h h'
theorem zadd_63 {a b m : Nat} {k K : Int} (h : k < 0 + ((((if (b : Int) > (a : Int) then (b : Int) else (a : Int)) - 0).toNat : Nat) : Int)) (ha : a < m) (hb : b < m) (hK : decide ((m : Int) ≤ K) = true) : k < K := by
  rw [zif_max, Int.zero_add] at h
  exact Int.lt_trans h (cast_lt_k (Nat.max_lt.mpr ⟨ha, hb⟩) hK)
theorem zadd_n {a b m k : Nat} (ha : a < m) (hb : b < m) (hk : Nat.ble m k = true) : ((if (b : Int) > (a : Int) then (b : Int) else (a : Int)) - 0).toNat < k := by
  rw [zif_max]
  exact zmax_lt ha hb hk
theorem zadd_l {a b : Nat} {K : Int} (hK : decide (K ≤ 0) = true) : K ≤ (if (b : Int) > (a : Int) then (b : Int) else (a : Int)) := by
  split <;> exact Int.le_trans (of_decide_eq_true hK) (Int.natCast_nonneg _)
theorem zadd_h {a b m : Nat} {K : Int} (ha : a < m) (hb : b < m) (hK : decide ((m : Int) ≤ K) = true) : (if (b : Int) > (a : Int) then (b : Int) else (a : Int)) < K := by
  split
  · exact cast_lt_k hb hK
  · exact cast_lt_k ha hK
theorem zadd_end (a b : List Int) : List.map (fun k' : Int => if k' < (a.length : Int) ∧ k' < (b.length : Int) then a.getD k'.toNat 0 + b.getD k'.toNat 0 else if k' < (a.length : Int) ∧ ¬k' < (b.length : Int) then a.getD k'.toNat 0 + 0 else 0 + b.getD k'.toNat 0) (rangeKs 0 ((if (b.length : Int) > (a.length : Int) then (b.length : Int) else (a.length : Int)) - 0).toNat) = sumL a b := by
  rw [zif_max]
  refine ext_getD ?_ fun i hi => ?_
  · rw [List.length_map, rangeKs_length, sumL_length]
  · rw [List.length_map, rangeKs_length] at hi
    rw [sumL_getD]
    have e : (rangeKs 0 (max a.length b.length))[i]? = some (i : Int) := by
      simp [rangeKs, hi]
    rw [List.getD_eq_getElem?_getD, List.getElem?_map, e]
    simp only [Option.map_some, Option.getD_some, Int.toNat_natCast]
    have ha : ¬ (i : Int) < (a.length : Int) → a.getD i 0 = 0 := fun h => by simp [List.getD_eq_getElem?_getD, Int.ofNat_le.mp (Int.not_lt.mp h)]
    have hb : ¬ (i : Int) < (b.length : Int) → b.getD i 0 = 0 := fun h => by simp [List.getD_eq_getElem?_getD, Int.ofNat_le.mp (Int.not_lt.mp h)]
    by_cases qa : (i : Int) < (a.length : Int)
    · by_cases qb : (i : Int) < (b.length : Int)
      · rw [if_pos ⟨qa, qb⟩]
      · rw [if_neg (fun h => qb h.2), if_pos ⟨qa, qb⟩, hb qb]
    · rw [if_neg (fun h => qa h.1), if_neg (fun h => qa h.1), ha qa]
theorem kw_21 : True := by
  (k_with "my omega" => (first | (with_reducible exact zadd_in (by assumption) (by assumption)) | ((with_reducible apply zadd_63); (case h => with_reducible assumption); (case ha => with_reducible assumption); (case hb => with_reducible assumption); exact rfl) | ((with_reducible apply zadd_n); (case ha => with_reducible assumption); (case hb => with_reducible assumption); exact rfl) | ((with_reducible apply zadd_l); exact rfl) | ((with_reducible apply zadd_h); (case ha => with_reducible assumption); (case hb => with_reducible assumption); exact rfl) | fail "zadd"))
  trivial
set_option maxHeartbeats 8000000 in
theorem c_zadd {l1 l2 : Addr} {vs1 vs2 : List Value} {ns1 ns2 : List Int} (hi1 : IntsAre vs1 ns1) (hi2 : IntsAre vs2 ns2) (hn1 : ns1.length < 500) (hn2 : ns2.length < 500) : Con 74 2 [.ref l1, .ref l2] (fun h => h.IsList l1 vs1.toArray ∧ h.IsList l2 vs2.toArray) (fun h h' r => NewL h h' r (adL ns1 ns2)) := by
  unfold Con PG
  k_fill
  intro w mean mg mb dp un gd cn cs af ccd cl outer A₀ base h₀ L m s Q E B F X T hk hp hd hu hret
  obtain ⟨hp1, hp2⟩ := hp
  refine wpAny_call ?_
  k_dflt (refine' code_def0C ?k1 ?k2 ?k3 ?k5 ?kA ?kF ?kK ?k6 ?k7 ?k8 ?k9 ?kB ?kD ?_ ?c2 ?c3 ?c4; (case kA => exact rfl); (case kF => exact rfl); (case kK => assumption); (case k1 => k_asm); (case k2 => k_asm); (case k3 => k_asm); (case k5 => k_asm); (case k6 => k_is); (case k7 => k_is); (case k8 => ktr_room); (case k9 => exact BindsTo.of_eq rfl); (case kB => exact rfl); (case kD => decide +kernel); (case c2 => exact rfl); (case c3 => exact rfl); (case c4 => exact rfl); k_whole)
  intro L' h' tk' cells' F' N' Y' B' X' T'
  k_cells Y'
  (try simp only [List.cons_append, List.nil_append] at N')
  (try dsimp only)
  show (let v₂ : Env := _; let A₂ : Around := Around.deeper _ v₂; wpAny _ A₂ (execs _ v₂) _ _ _)
  intro v₂ A₂
  (try k_fold)
  k_steps
  (try k_unfold)
  (try dsimp only)
  refine con_endL (f := True) hret (by assumption) (by assumption) (by k_mem) (by assumption) ?_
  rw [adL, zadd_end]
theorem kw_22 : True := by
  (k_with "call ref" => (k_here; (with_reducible show wpAny _ _ (call (Value.ref 79) _) _ _ _); k_dflt (apply con_useL; (case' hC => apply c_zneg); (case hpp => (show Heap.IsList _ _ _; is_list)); (case hi => l_ints); (case hn => l_fit); (case hB => k_asm); (case hF => k_asm); (case hX => k_asm); (case hN => k_asm); (case hT => k_asm); (case hkk => first | exact rfl | assumption); (case hdp => ktr_room); (case hun => ktr_units); k_whole); intro zql' zqvs' zqk' zqh' zqtk' zqF' zqN' zql1 zqi1; (try dsimp only); (try k_fold); (try k_sweep)))
  trivial
theorem kw_23 : True := by
  (k_with "call ref" => (k_here; (with_reducible show wpAny _ _ (call (Value.ref 74) _) _ _ _); k_dflt (apply con_useL; (case' hC => apply c_zadd); (case hpp => (constructor; (case left => is_list); (case right => is_list))); (case hi1 => l_ints); (case hi2 => l_ints); (case hn1 => l_fit); (case hn2 => l_fit); (case hB => k_asm); (case hF => k_asm); (case hX => k_asm); (case hN => k_asm); (case hT => k_asm); (case hkk => first | exact rfl | assumption); (case hdp => ktr_room); (case hun => ktr_units); k_whole); intro zql' zqvs' zqk' zqh' zqtk' zqF' zqN' zql1 zqi1; (try dsimp only); (try k_fold); (try k_sweep)))
  trivial
theorem ngL_length (p : List Int) : (ngL p).length = p.length := List.length_map ..
set_option maxHeartbeats 8000000 in
theorem c_zsub {l1 l2 : Addr} {vs1 vs2 : List Value} {ns1 ns2 : List Int} (hi1 : IntsAre vs1 ns1) (hi2 : IntsAre vs2 ns2) (hn1 : ns1.length < 500) (hn2 : ns2.length < 500) : Con 86 3 [.ref l1, .ref l2] (fun h => h.IsList l1 vs1.toArray ∧ h.IsList l2 vs2.toArray) (fun h h' r => NewL h h' r (sbL ns1 ns2)) := by
  unfold Con PG
  k_fill
  intro w mean mg mb dp un gd cn cs af ccd cl outer A₀ base h₀ L m s Q E B F X T hk hp hd hu hret
  obtain ⟨hp1, hp2⟩ := hp
  have hng := ngL_length ns2
  refine wpAny_call ?_
  k_dflt (refine' code_def0 ?k1 ?k2 ?k3 ?k5 ?kA ?kF ?kK ?k6 ?k7 ?k8 ?k9 ?kB ?_ ?c2 ?c3 ?c4 ?c5; (case kA => exact rfl); (case kF => exact rfl); (case kK => assumption); (case k1 => k_asm); (case k2 => k_asm); (case k3 => k_asm); (case k5 => k_asm); (case k6 => k_is); (case k7 => k_is); (case k8 => ktr_room); (case k9 => exact BindsTo.of_eq rfl); (case c5 => decide); (case kB => exact locs rfl); (case c2 => exact rfl); (case c3 => exact rfl); (case c4 => exact rfl); k_whole)
  intro L' h' F' N' B' X' T'
  (try dsimp only)
  show (let v₂ : Env := _; let A₂ : Around := Around.deeper _ v₂; wpAny _ A₂ (execs _ v₂) _ _ _)
  intro v₂ A₂
  (try k_fold)
  k_steps
  (try k_unfold)
  (try dsimp only)
  refine con_endL (f := True) hret (by assumption) (by assumption) (by k_mem) (by assumption) ?_
  rfl
theorem kw_24 : True := by
  (k_with "call ref" => (k_here; (with_reducible show wpAny _ _ (call (Value.ref 105) _) _ _ _); k_dflt (apply con_useI; (case' hC => apply c_zcontent); (case hpp => (show Heap.IsList _ _ _; is_list)); (case hi => l_ints); (case hn => l_fit); (case hB => k_asm); (case hF => k_asm); (case hX => k_asm); (case hN => k_asm); (case hT => k_asm); (case hkk => first | exact rfl | assumption); (case hdp => ktr_room); (case hun => ktr_units); k_whole); intro zqt' zqh' zqtk' zqF' zqN'; (try dsimp only); (try k_fold); (try k_sweep)))
  trivial
theorem kw_25 : True := by
  (k_with "call ref" => (k_here; (with_reducible show wpAny _ _ (call (Value.ref 110) _) _ _ _); k_dflt (apply con_useL; (case' hC => apply c_zdivided); (case hpp => (show Heap.IsList _ _ _; is_list)); (case hi => l_ints); (case hn => l_fit); (case hm => first | assumption | omega); (case hB => k_asm); (case hF => k_asm); (case hX => k_asm); (case hN => k_asm); (case hT => k_asm); (case hkk => first | exact rfl | assumption); (case hdp => ktr_room); (case hun => ktr_units); k_whole); intro zql' zqvs' zqk' zqh' zqtk' zqF' zqN' zql1 zqi1; (try dsimp only); (try k_fold); (try k_sweep)))
  trivial
theorem imp_ne {ns : List Int} {x : Int} (h : ns ≠ [] → x ≠ 0) (q : (ns.length : Int) ≠ 0) : x ≠ 0 := h fun e => q (by rw [e]; rfl)
theorem len_zero {ns : List Int} (q : (ns.length : Int) = 0) : ns = [] := List.eq_nil_of_length_eq_zero (by omega)
theorem len_some {ns : List Int} (q : (ns.length : Int) ≠ 0) : ¬ ns = [] := fun e => q (by rw [e]; rfl)
theorem ld_at {ns : List Int} : ns.getD (-1 + (ns.length : Int)).toNat 0 = ldL ns := by
  rw [ldL_getD]
  congr 1
  omega
set_option maxHeartbeats 8000000 in
theorem c_zprimitive {l : Addr} {vs : List Value} {ns : List Int} (hi : IntsAre vs ns) (hn : ns.length < 1000) (h0 : ns ≠ [] → gcA ns ≠ 0) : Con 117 111 [.ref l] (fun h => h.IsList l vs.toArray) (fun h h' r => NewL h h' r (prL ns)) := by
  unfold Con PG
  k_fill
  intro w mean mg mb dp un gd cn cs af ccd cl outer A₀ base h₀ L m s Q E B F X T hk hp hd hu hret
  refine wpAny_call ?_
  k_dflt (refine' code_def0 ?k1 ?k2 ?k3 ?k5 ?kA ?kF ?kK ?k6 ?k7 ?k8 ?k9 ?kB ?_ ?c2 ?c3 ?c4 ?c5; (case kA => exact rfl); (case kF => exact rfl); (case kK => assumption); (case k1 => k_asm); (case k2 => k_asm); (case k3 => k_asm); (case k5 => k_asm); (case k6 => k_is); (case k7 => k_is); (case k8 => ktr_room); (case k9 => exact BindsTo.of_eq rfl); (case c5 => decide); (case kB => exact locs rfl); (case c2 => exact rfl); (case c3 => exact rfl); (case c4 => exact rfl); k_whole)
  intro L' h' F' N' B' X' T'
  (try dsimp only)
  show (let v₂ : Env := _; let A₂ : Around := Around.deeper _ v₂; wpAny _ A₂ (execs _ v₂) _ _ _)
  intro v₂ A₂
  (try k_fold)
  k_steps
  · (try k_unfold)
    (try dsimp only)
    refine con_endL (f := True) (vs := []) hret (by assumption) (by assumption) (by k_mem) IntsAre.nil ?_
    rw [prL, if_pos (len_zero (by assumption))]
  · have hz := imp_ne h0 (by assumption)
    k_steps
    (try k_unfold)
    (try dsimp only)
    refine con_endL (f := True) hret (by assumption) (by assumption) (by k_mem) (by assumption) ?_
    rw [prL, if_neg (len_some (by assumption)), if_pos (by rw [← ld_at]; assumption)]
  · have hz := imp_ne h0 (by assumption)
    k_steps
    (try k_unfold)
    (try dsimp only)
    refine con_endL (f := True) hret (by assumption) (by assumption) (by k_mem) (by assumption) ?_
    rw [prL, if_neg (len_some (by assumption)), if_neg (by rw [← ld_at]; assumption)]

theorem kw_26 : True := by
  (k_with "subscriptTail" => (k_here; (with_reducible show wpAny _ _ (subscriptTail (PySem.Expr.ListComp _ _ _ _) _ _ _) _ _ _); k_dflt (refine tail_swap (n := Str.ofString "p") (q := default) ?_)))
  trivial
theorem kw_27 : True := by
  (k_with "call type:enumerate" => (k_here; k_dflt (apply call_enumerate_list (items := List.toArray _)); (case hL => is_list); intro zqh' zqhE' zqhI' zqhz' zqhk'))
  trivial
theorem ints_enum {vs : List Value} {ns : List Int} (hi : IntsAre vs ns) : ∀ (k : Nat) (zs : List Value), zs.length = vs.length →
    (∀ (i : Nat) (v : Value), vs[i]? = some v → ∃ z, zs[i]? = some z ∧ ∃ (n : Int) (t u : Tok), v = .int n t ∧ z = .int (n * ((k + i : Nat) : Int)) u) → IntsAre zs (deF k ns) := by
  induction hi with
  | nil =>
    intro k zs hl _
    rw [List.eq_nil_of_length_eq_zero hl]
    exact IntsAre.nil
  | cons n t _ ih =>
    intro k zs hl h
    cases zs with
    | nil => cases hl
    | cons z zs =>
      obtain ⟨z', q1, m, t', u, q2, q3⟩ := h 0 _ rfl
      cases q1
      cases q2
      rw [q3]
      refine IntsAre.cons _ u (ih (k + 1) zs (Nat.succ.inj hl) fun i v hv => ?_)
      obtain ⟨z', r1, m, t', u, r2, r3⟩ := h (i + 1) v hv
      exact ⟨z', r1, m, t', u, r2, by rw [r3]; congr 2; omega⟩
theorem ints_at {vs : List Value} {ns : List Int} (hi : IntsAre vs ns) : ∀ {i : Nat} {v : Value}, vs[i]? = some v → ∃ n t, v = .int n t ∧ n ∈ ns ∧ i < ns.length := by
  induction hi with
  | nil => intro i v h; simp at h
  | cons n t _ ih =>
    intro i v h
    cases i with
    | zero => cases h; exact ⟨n, t, rfl, List.mem_cons_self, by simp⟩
    | succ i =>
      obtain ⟨m, t', e, h1, h2⟩ := ih (i := i) (v := v) (by simpa using h)
      exact ⟨m, t', e, List.mem_cons_of_mem _ h1, by simpa using h2⟩
set_option maxHeartbeats 8000000 in
theorem c_zderive {l : Addr} {vs : List Value} {ns : List Int} (hi : IntsAre vs ns) (hn : ns.length < 1000) (hm : ∀ n ∈ ns, ∀ k : Int, 0 ≤ k → k < 1000 → IntMulOk n k) : Con 122 2 [.ref l] (fun h => h.IsList l vs.toArray) (fun h h' r => NewL h h' r (deL ns)) := by
  unfold Con PG
  k_fill
  intro w mean mg mb dp un gd cn cs af ccd cl outer A₀ base h₀ L m s Q E B F X T hk hp hd hu hret
  refine wpAny_call ?_
  k_dflt (refine' code_def0 ?k1 ?k2 ?k3 ?k5 ?kA ?kF ?kK ?k6 ?k7 ?k8 ?k9 ?kB ?_ ?c2 ?c3 ?c4 ?c5; (case kA => exact rfl); (case kF => exact rfl); (case kK => assumption); (case k1 => k_asm); (case k2 => k_asm); (case k3 => k_asm); (case k5 => k_asm); (case k6 => k_is); (case k7 => k_is); (case k8 => ktr_room); (case k9 => exact BindsTo.of_eq rfl); (case c5 => decide); (case kB => exact locs rfl); (case c2 => exact rfl); (case c3 => exact rfl); (case c4 => exact rfl); k_whole)
  intro L' h' F' N' B' X' T'
  (try dsimp only)
  show (let v₂ : Env := _; let A₂ : Around := Around.deeper _ v₂; wpAny _ A₂ (execs _ v₂) _ _ _)
  intro v₂ A₂
  (try k_fold)
  iterate 4 walk1
  k_dflt (refine comp_enum (fun i v z => ∃ n t u, v = .int n t ∧ z = .int (n * (i : Int)) u) rfl (by with_unfolding_all rfl) (by decide) (by rfl) (by decide) (by rfl) (by rfl) (by decide) ?_)
  iterate 6 walk1
  k_dflt (refine call_enumerate_list (items := List.toArray vs) ?el ?_)
  (case el => is_list)
  intro h₂ hE hI hz hk₂
  have hl₀ := (by assumption : Fr s.heap L' h' _).keep
  have hll : h'.IsList l vs.toArray := hp.at fun o e => hl₀ _ o e
  have hlt : l < h'.objs.size := by obtain ⟨o, e, _⟩ := hll; exact Heap.lt_size e
  refine ⟨_, _, l, vs.toArray, rfl, Nat.succ_ne_self _, Nat.ne_of_lt (Nat.lt_succ_of_lt hlt), Nat.ne_of_lt hlt, hE, hI, hll.at (fun o e => hk₂ _ o e), ?sz, ?turn, ?fin⟩
  case sz =>
    rw [List.size_toArray, hi.length, sizeLine_eq]
    omega
  case turn =>
    intro C i v t s₂ m₂ E' hv hns hp1 hp2
    obtain ⟨n, u, rfl, hmem, hlt2⟩ := ints_at hi (i := i) (v := v) (by simpa using hv)
    refine wpAny_BinOp (wpAny_Name (wpAny_loadName_local (by rfl) (by with_unfolding_all rfl) hns hp2 ?_) (by decide))
    refine wpAny_Name (wpAny_loadName_local (by rfl) (by with_unfolding_all rfl) hns hp1 ?_) (by decide)
    refine mul_int ?_ (hm n hmem _ (by omega) (by omega))
    exact ⟨⟨n, u, _, rfl, rfl⟩, _, _, rfl, fun _ _ e => e⟩
  case fin =>
    intro D h₃ tk₃ zs hD hk₃ hD₃ hlen hG
    have F₃ : Fr s.heap L' h₃ _ := fr_of_keep (by assumption : Fr s.heap L' h' _) fun b o e => hk₃ b o (Nat.ne_of_lt (Nat.lt_succ_of_lt (Heap.lt_size e))) (Nat.ne_of_lt (Heap.lt_size e)) (hk₂ b o e)
    have hDn : h'.get? D = none := by
      cases q : h'.get? D with
      | none => rfl
      | some o => have := hk₂ _ _ q; rw [hD] at this; cases this
    have N₃ : News s.heap L' h₃ [(D, LCg.lst zs)] := news_new (by assumption : Fr s.heap L' h' _) (News.nil) (fun b o e => hk₃ b o (Nat.ne_of_lt (Nat.lt_succ_of_lt (Heap.lt_size e))) (Nat.ne_of_lt (Heap.lt_size e)) (hk₂ b o e)) hD₃ hDn
    have iz : IntsAre zs (deF 0 ns) := ints_enum hi 0 zs (by simpa using hlen) fun i v hv => by
      obtain ⟨z, q1, n, t, u, q2, q3⟩ := hG i v (by simpa using hv)
      exact ⟨z, q1, n, t, u, q2, by rw [q3, Nat.zero_add]⟩
    have hdl := deF_length 0 ns
    clear hE hI hz hk₂ hll hk₃ F' N'
    (try dsimp only)
    (try k_fold)
    k_steps
    (try k_unfold)
    (try dsimp only)
    refine con_endL (f := True) hret (by assumption) (by assumption) (by k_mem) (by assumption) ?_
    rw [deL, List.drop_one]

theorem c_check_bottom {l : Addr} {vs : List Value} {ns : List Int} (hi : IntsAre vs ns) (hn : ns.length < 1000) (h0 : 0 < ns.length) : Con 129 2 [.ref l] (fun h => h.IsList l vs.toArray) (fun h h' r => r = .none) := by
  unfold Con PG
  k_fill
  intro w mean mg mb dp un gd cn cs af ccd cl outer A₀ base h₀ L m s Q E B F X T hk hp hd hu hret
  refine wpAny_call ?_
  k_dflt (refine' code_def0 ?k1 ?k2 ?k3 ?k5 ?kA ?kF ?kK ?k6 ?k7 ?k8 ?k9 ?kB ?_ ?c2 ?c3 ?c4 ?c5; (case kA => exact rfl); (case kF => exact rfl); (case kK => assumption); (case k1 => k_asm); (case k2 => k_asm); (case k3 => k_asm); (case k5 => k_asm); (case k6 => k_is); (case k7 => k_is); (case k8 => ktr_room); (case k9 => exact BindsTo.of_eq rfl); (case c5 => decide); (case kB => exact locs rfl); (case c2 => exact rfl); (case c3 => exact rfl); (case c4 => exact rfl); k_whole)
  intro L' h' F' N' B' X' T'
  (try dsimp only)
  show (let v₂ : Env := _; let A₂ : Around := Around.deeper _ v₂; wpAny _ A₂ (execs _ v₂) _ _ _)
  intro v₂ A₂
  (try k_fold)
  k_steps
  · exfalso; omega
  · (try dsimp only)
    (try k_unfold)
    (try dsimp only)
    exact con_endN hret (by assumption)
theorem kw_28 : True := by
  (k_with "call ref" => (k_here; (with_reducible show wpAny _ _ (call (Value.ref 129) _) _ _ _); k_dflt (apply con_useN; (case' hC => apply c_check_bottom); (case hpp => (show Heap.IsList _ _ _; is_list)); (case hi => l_ints); (case hn => l_fit); (case h0 => omega); (case hB => k_asm); (case hF => k_asm); (case hX => k_asm); (case hN => k_asm); (case hT => k_asm); (case hkk => first | exact rfl | assumption); (case hdp => ktr_room); (case hun => ktr_units); k_whole); intro zqh' zqtk' zqF' zqN'; (try dsimp only); (try k_fold); (try k_sweep)))
  trivial
theorem kw_29 : True := by
  (k_with "call ref" => (k_here; (with_reducible show wpAny _ _ (call (Value.ref 91) _) _ _ _); k_dflt (apply con_useL; (case' hC => apply c_zscale); (case hpp => (show Heap.IsList _ _ _; is_list)); (case hi => l_ints); (case hn => l_fit); (case hm => assumption); (case hB => k_asm); (case hF => k_asm); (case hX => k_asm); (case hN => k_asm); (case hT => k_asm); (case hkk => first | exact rfl | assumption); (case hdp => ktr_room); (case hun => ktr_units); k_whole); intro zql' zqvs' zqk' zqh' zqtk' zqF' zqN' zql1 zqi1; (try dsimp only); (try k_fold); (try k_sweep)))
  trivial
theorem kw_30 : True := by
  (k_with "call ref" => (k_here; (with_reducible show wpAny _ _ (call (Value.ref 98) _) _ _ _); k_dflt (apply con_useL; (case' hC => apply c_zraise); (case hpp => (show Heap.IsList _ _ _; is_list)); (case hi => l_ints); (case hn => l_fit); (case h0 => first | omega | l_fact); (case h1 => first | omega | l_fact); (case hB => k_asm); (case hF => k_asm); (case hX => k_asm); (case hN => k_asm); (case hT => k_asm); (case hkk => first | exact rfl | assumption); (case hdp => ktr_room); (case hun => ktr_units); k_whole); intro zql' zqvs' zqk' zqh' zqtk' zqF' zqN' zql1 zqi1; (try dsimp only); (try k_fold); (try k_sweep)))
  trivial
theorem kw_31 : True := by
  (k_with "call ref" => (k_here; (with_reducible show wpAny _ _ (call (Value.ref 86) _) _ _ _); k_dflt (apply con_useL; (case' hC => apply c_zsub); (case hpp => (constructor; (case left => is_list); (case right => is_list))); (case hi1 => l_ints); (case hi2 => l_ints); (case hn1 => l_fit); (case hn2 => l_fit); (case hB => k_asm); (case hF => k_asm); (case hX => k_asm); (case hN => k_asm); (case hT => k_asm); (case hkk => first | exact rfl | assumption); (case hdp => ktr_room); (case hun => ktr_units); k_whole); intro zql' zqvs' zqk' zqh' zqtk' zqF' zqN' zql1 zqi1; (try dsimp only); (try k_fold); (try k_sweep)))
  trivial

def OptL (r : Option (List Int)) (h h' : Heap) (v : Value) : Prop := match r with
  | some q => NewL h h' v q
  | none => v = .none
inductive ExRun (b : List Int) : List Int → List Int → Option (List Int) → Prop
  | done {found : List Int} : 0 < b.length → ExRun b [] found (some (trL found))
  | left {rest found : List Int} : rest.length < b.length → rest ≠ [] → ExRun b rest found none
  | nodiv {rest found : List Int} : b.length ≤ rest.length → (ldL rest).fmod (ldL b) ≠ 0 → ExRun b rest found none
  | step {rest found : List Int} {r : Option (List Int)} : b.length ≤ rest.length → (ldL rest).fmod (ldL b) = 0 → (∀ n ∈ b, IntMulOk n ((ldL rest).fdiv (ldL b))) → rest.length - b.length < found.length →
      (sbL rest (rsL (scL b ((ldL rest).fdiv (ldL b))) (rest.length - b.length))).length < rest.length →
      ExRun b (sbL rest (rsL (scL b ((ldL rest).fdiv (ldL b))) (rest.length - b.length))) (found.set (rest.length - b.length) ((ldL rest).fdiv (ldL b))) r → ExRun b rest found r
set_option maxHeartbeats 8000000 in
theorem c_zexact {la lb : Addr} {va vb : List Value} {a b : List Int} {r : Option (List Int)} (hi1 : IntsAre va a) (hi2 : IntsAre vb b) (hn1 : a.length < 100) (hn2 : b.length < 100) (h0 : 0 < b.length) (hb : ldL b ≠ 0)
    (hr : ExRun b a (List.replicate (a.length + 1 - b.length) 0) r) : Con 136 200 [.ref la, .ref lb] (fun h => h.IsList la va.toArray ∧ h.IsList lb vb.toArray) (OptL r) := by
  unfold Con PG
  k_fill
  intro w mean mg mb dp un gd cn cs af ccd cl outer A₀ base h₀ L m s Q E B F X T hk hp hd hu hret
  obtain ⟨hp1, hp2⟩ := hp
  refine wpAny_call ?_
  k_dflt (refine' code_def0 ?k1 ?k2 ?k3 ?k5 ?kA ?kF ?kK ?k6 ?k7 ?k8 ?k9 ?kB ?_ ?c2 ?c3 ?c4 ?c5; (case kA => exact rfl); (case kF => exact rfl); (case kK => assumption); (case k1 => k_asm); (case k2 => k_asm); (case k3 => k_asm); (case k5 => k_asm); (case k6 => k_is); (case k7 => k_is); (case k8 => ktr_room); (case k9 => exact BindsTo.of_eq rfl); (case c5 => decide); (case kB => exact locs rfl); (case c2 => exact rfl); (case c3 => exact rfl); (case c4 => exact rfl); k_whole)
  intro L' h' F' N' B' X' T'
  (try dsimp only)
  show (let v₂ : Env := _; let A₂ : Around := Around.deeper _ v₂; wpAny _ A₂ (execs _ v₂) _ _ _)
  intro v₂ A₂
  (try k_fold)
  k_steps
  refine wh_ind (h₀ := s.heap) (L := L') (J := fun (x : List Int × List Int) m news => ∃ lr lf vr vf kr kf, news = [(lr, listOf (List.toArray vr) kr), (lf, listOf (List.toArray vf) kf)] ∧ lr ≠ lf ∧ m "rest" = some (.ref lr) ∧ m "found" = some (.ref lf) ∧ m "b" = some (.ref lb) ∧ IntsAre vr x.1 ∧ IntsAre vf x.2 ∧ x.1.length < 100 ∧ x.2.length < 300 ∧ ExRun b x.1 x.2 r) (meas := fun x => x.1.length) ?step (a, List.replicate (a.length + 1 - b.length) 0) (by assumption) ?hJ
  case hJ =>
    have N9 := (by assumption : News s.heap L' _ (_ :: _ :: _ :: _ :: _))
    refine' ⟨_, ⟨_, _, _, _, _, _, rfl, ?j1, ?j2, ?j3, ?j4, ?j5, ?j6, ?j7, ?j8, hr⟩, ?jN⟩
    case j2 => with_unfolding_all rfl
    case j3 => with_unfolding_all rfl
    case j4 => with_unfolding_all rfl
    case jN => exact news_c N9 (by k_mem) (news_1 N9 (by k_mem))
    case j1 => k_ne
    case j5 => exact hi1
    case j6 =>
      have q6 := (by assumption : IntsAre _ (List.flatten _))
      have e9 : (if (a.length : Int) - (b.length : Int) + 1 > 0 then (a.length : Int) - (b.length : Int) + 1 else 0).toNat = a.length + 1 - b.length := by split <;> omega
      simpa only [e9, flat_zeros] using q6
    case j7 => exact hn1
    case j8 => simp only [List.length_replicate]; omega
  case step =>
    rintro ⟨rest, found⟩ h tk m news ⟨lr, lf, vr, vf, kr, kf, rfl, hne, hm1, hm2, hm3, ir, jf, hl1, hl2, hrun⟩ F' N' IH
    dsimp only at ir jf hl1 hl2 hrun
    rw [map_at3 hm1 hm2 hm3] at F'
    refine wh_turn (by first | passes_own | with_unfolding_all passes_own) ?_
    clear hr
    have hbg : b.getD (-1 + (b.length : Int)).toNat 0 ≠ 0 := by rw [ld_at]; exact hb
    cases hrun with
    | done h1 =>
      k_steps
      (try k_unfold)
      (try dsimp only)
      refine con_endL (f := True) hret (by assumption) (by assumption) (by k_mem) (by assumption) ?_
      rfl
    | left h1 h2 =>
      k_steps
      · exact absurd (len_zero (by assumption)) h2
      · (try dsimp only)
        (try k_unfold)
        (try dsimp only)
        exact con_endN hret (by assumption)
    | nodiv h1 h2 =>
      have h2 : (rest.getD (-1 + (rest.length : Int)).toNat 0).fmod (b.getD (-1 + (b.length : Int)).toNat 0) ≠ 0 := by rw [ld_at, ld_at]; exact h2
      k_steps
      · (try dsimp only)
        (try k_unfold)
        (try dsimp only)
        exact con_endN hret (by assumption)
      · exact absurd (by assumption) h2
    | step h1 h2 h3 h4 h5 h6 =>
      have h2' : (rest.getD (-1 + (rest.length : Int)).toNat 0).fmod (b.getD (-1 + (b.length : Int)).toNat 0) = 0 := by rw [ld_at, ld_at]; exact h2
      have h3' : ∀ n ∈ b, IntMulOk n ((rest.getD (-1 + (rest.length : Int)).toNat 0).fdiv (b.getD (-1 + (b.length : Int)).toNat 0)) := by rw [ld_at, ld_at]; exact h3
      have g1 := scL_length_le b ((rest.getD (-1 + (rest.length : Int)).toNat 0).fdiv (b.getD (-1 + (b.length : Int)).toNat 0))
      have g2 := rsL_length_le (scL b ((rest.getD (-1 + (rest.length : Int)).toNat 0).fdiv (b.getD (-1 + (b.length : Int)).toNat 0))) ((rest.length : Int) - (b.length : Int)).toNat
      have ep : ((rest.length : Int) - (b.length : Int)).toNat = rest.length - b.length := by omega
      k_steps
      · exact absurd h2' (by assumption)
      · refine IH (sbL rest (rsL (scL b ((ldL rest).fdiv (ldL b))) (rest.length - b.length)), found.set (rest.length - b.length) ((ldL rest).fdiv (ldL b))) _ _ _ h5 (by assumption) ?_
        have N9 := (by assumption : News s.heap L' _ (_ :: _ :: _ :: _ :: _ :: _ :: _))
        refine' ⟨_, ⟨_, _, _, _, _, _, rfl, ?j1, ?j2, ?j3, ?j4, ?j5, ?j6, ?j7, ?j8, ?j9⟩, ?jN⟩
        case j2 => with_unfolding_all rfl
        case j3 => with_unfolding_all rfl
        case j4 => with_unfolding_all rfl
        case jN => exact news_c N9 (by k_mem) (news_1 N9 (by k_mem))
        case j1 => k_ne
        case j5 =>
          have q5 := (by assumption : IntsAre _ (sbL rest _))
          simpa only [ld_at, ep] using q5
        case j6 =>
          have q6 := (by assumption : IntsAre _ (List.set found _ _))
          simpa only [ld_at, ep] using q6
        case j7 => exact Nat.lt_trans h5 hl1
        case j8 => simpa only [List.length_set] using hl2
        case j9 => exact h6

theorem kw_32 : True := by
  (k_with "binaryOp Pow int int" => (k_here; (with_reducible refine pow_int (by first | assumption | omega) (by assumption) ?_)))
  trivial
theorem kw_33 : True := by
  (k_with "call ref" => (k_here; (with_reducible show wpAny _ _ (call (Value.ref 69) _) _ _ _); k_dflt (apply con_useI; (case' hC => apply c_zlead); (case hpp => (show Heap.IsList _ _ _; is_list)); (case hi => l_ints); (case hn => l_fit); (case hB => k_asm); (case hF => k_asm); (case hX => k_asm); (case hN => k_asm); (case hT => k_asm); (case hkk => first | exact rfl | assumption); (case hdp => ktr_room); (case hun => ktr_units); k_whole); intro zqt' zqh' zqtk' zqF' zqN'; (try dsimp only); (try k_fold); (try k_sweep)))
  trivial
def TupPs (out : List Int) (h h' : Heap) (v : Value) : Prop := ∃ T q l vs k c x, v = .ref T ∧ h'.get? T = some { cls := .type "tuple", data := .seq #[.ref q, .ref l, x] c } ∧ h.get? T = none ∧ h'.get? l = some (listOf (List.toArray vs) k) ∧ h.get? l = none ∧ T ≠ l ∧ IntsAre vs out
theorem con_endT {s : Shared} {out : List Int} {L' T q l : Addr} {k c tk : Nat} {x : Value} {vs : List Value} {h' : Heap} {m' : Str → Option Value} {news : List (Addr × Obj)} {Q E : Value → Shared → Prop}
    (hret : ∀ (r : Value) (h' : Heap) (tk' : Nat), (∀ (b : Addr) (o : Obj), s.heap.get? b = some o → h'.get? b = some o) → TupPs out s.heap h' r → Q r { s with heap := h', toks := tk' })
    (F' : Fr s.heap L' h' m') (N' : News s.heap L' h' news) (hT : (T, ({ cls := .type "tuple", data := .seq #[.ref q, .ref l, x] c } : Obj)) ∈ news) (hm : (l, listOf (List.toArray vs) k) ∈ news) (hi : IntsAre vs out) :
    Lv s.heap (fun r s' => match r with | .ok (.ret v) => Q v s' | .ok _ => False | .error e => E e s') (.ref T) { s with heap := h', toks := tk } := by
  refine ⟨F'.keep, hret _ _ _ F'.keep ⟨T, q, l, vs, k, c, x, rfl, (N' _ hT).1, (N' _ hT).2.2, (N' _ hm).1, (N' _ hm).2.2, fun e => ?_, hi⟩⟩
  have h1 := (N' _ hT).1
  have h2 := (N' _ hm).1
  simp only at h1 h2
  rw [e, h2] at h1
  have e2 := congrArg (fun o => o.cls) (Option.some.inj h1)
  exact absurd (Value.type.inj e2) (by decide)
inductive PsRun (b : List Int) : List Int → List Int → Int → List Int → Prop
  | done {rest found : List Int} {left : Int} : rest.length < b.length → 0 ≤ left → (Builtin.Int.intBits (ldL b) : Int) * left ≤ 2 ^ 27 →
      (∀ n ∈ found, IntMulOk n (ldL b ^ left.toNat)) → (∀ n ∈ rest, IntMulOk n (ldL b ^ left.toNat)) → PsRun b rest found left (scL rest (ldL b ^ left.toNat))
  | step {rest found out : List Int} {left : Int} : b.length ≤ rest.length →
      (∀ n ∈ found, IntMulOk n (ldL b)) → (∀ n ∈ rest, IntMulOk n (ldL b)) → (∀ n ∈ b, IntMulOk n (ldL rest)) →
      (sbL (scL rest (ldL b)) (rsL (scL b (ldL rest)) (rest.length - b.length))).length < rest.length →
      PsRun b (sbL (scL rest (ldL b)) (rsL (scL b (ldL rest)) (rest.length - b.length))) (sbL (scL found (ldL b)) (rsL [-ldL rest] (rest.length - b.length))) (left - 1) out → PsRun b rest found left out
set_option maxHeartbeats 8000000 in
theorem c_pseudo {la lb : Addr} {va vb : List Value} {a b out : List Int} (hi1 : IntsAre va a) (hi2 : IntsAre vb b) (hn1 : a.length < 100) (hn2 : b.length < 100) (h0 : 0 < b.length)
    (hr : PsRun b a [] (a.length + 1 - b.length : Nat) out) : Con 150 200 [.ref la, .ref lb] (fun h => h.IsList la va.toArray ∧ h.IsList lb vb.toArray) (TupPs out) := by
  unfold Con PG
  k_fill
  intro w mean mg mb dp un gd cn cs af ccd cl outer A₀ base h₀ L m s Q E B F X T hk hp hd hu hret
  obtain ⟨hp1, hp2⟩ := hp
  refine wpAny_call ?_
  k_dflt (refine' code_def0 ?k1 ?k2 ?k3 ?k5 ?kA ?kF ?kK ?k6 ?k7 ?k8 ?k9 ?kB ?_ ?c2 ?c3 ?c4 ?c5; (case kA => exact rfl); (case kF => exact rfl); (case kK => assumption); (case k1 => k_asm); (case k2 => k_asm); (case k3 => k_asm); (case k5 => k_asm); (case k6 => k_is); (case k7 => k_is); (case k8 => ktr_room); (case k9 => exact BindsTo.of_eq rfl); (case c5 => decide); (case kB => exact locs rfl); (case c2 => exact rfl); (case c3 => exact rfl); (case c4 => exact rfl); k_whole)
  intro L' h' F' N' B' X' T'
  (try dsimp only)
  show (let v₂ : Env := _; let A₂ : Around := Around.deeper _ v₂; wpAny _ A₂ (execs _ v₂) _ _ _)
  intro v₂ A₂
  (try k_fold)
  k_steps
  refine wh_ind (h₀ := s.heap) (L := L') (J := fun (x : List Int × List Int × Int) m news => ∃ lr lf vr vf kr kf t1 t2 x9, news = [(lr, listOf (List.toArray vr) kr), (lf, listOf (List.toArray vf) kf)] ∧ lr ≠ lf ∧ m "rest" = some (.ref lr) ∧ m "found" = some (.ref lf) ∧ m "b" = some (.ref lb) ∧ m "first" = some (.int (ldL b) t1) ∧ m "left" = some (.int x.2.2 t2) ∧ m "many" = some x9 ∧ IntsAre vr x.1 ∧ IntsAre vf x.2.1 ∧ x.1.length < 100 ∧ x.2.1.length < 300 ∧ PsRun b x.1 x.2.1 x.2.2 out) (meas := fun x => x.1.length) ?step (a, [], ((a.length + 1 - b.length : Nat) : Int)) (by assumption) ?hJ
  case hJ =>
    have N9 := (by assumption : News s.heap L' _ (_ :: _ :: _ :: _))
    have e9 : (if (a.length : Int) - (b.length : Int) + 1 > 0 then (a.length : Int) - (b.length : Int) + 1 else 0) = ((a.length + 1 - b.length : Nat) : Int) := by split <;> omega
    refine' ⟨_, ⟨_, _, _, [], _, _, _, _, _, rfl, ?j1, ?j2, ?j3, ?j4, ?j5, ?j6, ?j7, ?j8, IntsAre.nil, ?j9, ?j10, hr⟩, ?jN⟩
    case j2 => with_unfolding_all rfl
    case j3 => with_unfolding_all rfl
    case j4 => with_unfolding_all rfl
    case j5 => with_unfolding_all rfl
    case j6 => rw [← e9]; with_unfolding_all rfl
    case j7 => with_unfolding_all rfl
    case jN => exact news_c N9 (by k_mem) (news_1 N9 (by k_mem))
    case j1 => k_ne
    case j8 => exact hi1
    case j9 => exact hn1
    case j10 => exact (by decide : 0 < 300)
  case step =>
    rintro ⟨rest, found, left⟩ h tk m news ⟨lr, lf, vr, vf, kr, kf, t1, t2, x9, rfl, hne, hm1, hm2, hm3, hm4, hm5, hm6, ir, jf, hl1, hl2, hrun⟩ F' N' IH
    dsimp only at ir jf hl1 hl2 hrun hm5
    rw [map_at6 hm1 hm2 hm3 hm4 hm5 hm6] at F'
    refine wh_turn (by first | passes_own | with_unfolding_all passes_own) ?_
    clear hr
    cases hrun with
    | done h1 h2 h3 h4 h5 =>
      k_steps
      (try k_unfold)
      (try dsimp only)
      refine con_endT hret (by assumption) (by assumption) (by k_mem) (by k_mem) (by assumption)
    | step h1 h2 h3 h4 h5 h6 =>
      have ep : ((rest.length : Int) - (b.length : Int)).toNat = rest.length - b.length := by omega
      have h4' : ∀ n ∈ b, IntMulOk n (rest.getD (-1 + (rest.length : Int)).toNat 0) := by rw [ld_at]; exact h4
      have g8 : (sbL (scL found (ldL b)) (rsL [-ldL rest] (rest.length - b.length))).length < 300 := by
        have g4 := scL_length_le found (ldL b)
        have g6 := sbL_length_le (scL found (ldL b)) (rsL [-ldL rest] (rest.length - b.length))
        have g7 := rsL_length_le [-ldL rest] (rest.length - b.length)
        simp only [List.length_cons, List.length_nil] at g7
        omega
      have G1 : (scL b (rest.getD (-1 + (rest.length : Int)).toNat 0)).length < 100 := Nat.lt_of_le_of_lt (scL_length_le _ _) hn2
      have G2 : (rsL (scL b (rest.getD (-1 + (rest.length : Int)).toNat 0)) ((rest.length : Int) - (b.length : Int)).toNat).length < 300 := by
        have g2 := rsL_length_le (scL b (rest.getD (-1 + (rest.length : Int)).toNat 0)) ((rest.length : Int) - (b.length : Int)).toNat
        omega
      have G3 : (scL rest (ldL b)).length < 100 := Nat.lt_of_le_of_lt (scL_length_le _ _) hl1
      have G4 : (scL found (ldL b)).length < 300 := Nat.lt_of_le_of_lt (scL_length_le _ _) hl2
      have G5 : (rsL [-rest.getD (-1 + (rest.length : Int)).toNat 0] ((rest.length : Int) - (b.length : Int)).toNat).length < 300 := by
        have g5 := rsL_length_le [-rest.getD (-1 + (rest.length : Int)).toNat 0] ((rest.length : Int) - (b.length : Int)).toNat
        simp only [List.length_cons, List.length_nil] at g5
        omega
      k_steps
      refine IH (sbL (scL rest (ldL b)) (rsL (scL b (ldL rest)) (rest.length - b.length)), sbL (scL found (ldL b)) (rsL [-ldL rest] (rest.length - b.length)), left - 1) _ _ _ h5 (by assumption) ?_
      have N9 := (by assumption : News s.heap L' _ (_ :: _ :: _ :: _ :: _ :: _ :: _))
      refine' ⟨_, ⟨_, _, _, _, _, _, _, _, _, rfl, ?j1, ?j2, ?j3, ?j4, ?j5, ?j6, ?j7, ?j8, ?j9, ?j10, g8, h6⟩, ?jN⟩
      case j2 => with_unfolding_all rfl
      case j3 => with_unfolding_all rfl
      case j4 => with_unfolding_all rfl
      case j5 => with_unfolding_all rfl
      case j6 => with_unfolding_all rfl
      case j7 => with_unfolding_all rfl
      case jN => exact news_c N9 (by k_mem) (news_1 N9 (by k_mem))
      case j1 => k_ne
      case j8 =>
        have q5 := (by assumption : IntsAre _ (sbL (scL rest _) _))
        simpa only [ld_at, ep] using q5
      case j9 =>
        have q6 := (by assumption : IntsAre _ (sbL (scL found _) _))
        simpa only [ld_at, ep] using q6
      case j10 => exact Nat.lt_trans h5 hl1

theorem con_useT {out : List Int} {w : World} {A₀ : Around} {s : Shared} {base h₀ : Heap} {outer : List Env} {L : Addr} {m : Str → Option Value} {mean : ExcName → Option Value} {mg mb : Str → Option Value}
    {f : Addr} {n : Nat} {args : List Value} {Pre : Heap → Prop} (hC : Con f n args Pre (TupPs out))
    {dp un : Nat} {gd : Option (List Code)} {cn : Str} {cs : Scope} {a : Addr} {ccd : Value} {cl : List (Str × Addr)} {news : List (Addr × Obj)} {Q E : Value → Shared → Prop}
    (hB : Below A₀ base outer h₀) (hF : Fr h₀ L s.heap m) (hX : (hd.heap_19 w.params).In h₀) (hN : News h₀ L s.heap news) (hT : Top hd.view_19 (looseW hd.view_19 []) mean mg mb h₀) (hkk : cs.kind = .function)
    (hpp : Pre s.heap) (hdp : dp + n < recursionLimit) (hun : un + 8 * n < cLine)
    (ret : ∀ T q l vs k c x h' tk', Fr h₀ L h' m → News h₀ L h' ((T, ({ cls := .type "tuple", data := .seq #[.ref q, .ref l, x] c } : Obj)) :: (l, listOf (List.toArray vs) k) :: news) → T ≠ l → AllNe T news → AllNe l news → IntsAre vs out → Q (.ref T) { s with heap := h', toks := tk' }) :
    wpAny (model PG w) (ktrTop dp un gd cn cs L a ccd cl outer) (call (.ref f) args) Q E s := by
  refine hC w mean mg mb dp un gd cn cs a ccd cl outer A₀ base h₀ L m s Q E hB hF hX hT hkk hpp hdp hun ?_
  rintro r h' tk' k ⟨T, q, l, vs, c1, c2, x, rfl, hT, hT0, hl, hl0, hne, hi⟩
  refine ret T q l vs c1 c2 x h' tk' (fr_of_keep hF k) (news_c (news_new hF hN k hT hT0) (.head _) ?_) hne (allNe_of (news_ne hN hT0)) (allNe_of (news_ne hN hl0)) hi
  exact news_new hF hN k hl hl0
theorem kw_34 : True := by
  (k_with "call ref" => (k_here; (with_reducible show wpAny _ _ (call (Value.ref 150) _) _ _ _); k_dflt (apply con_useT; (case' hC => apply c_pseudo); (case hpp => (constructor; (case left => is_list); (case right => is_list))); (case hi1 => l_ints); (case hi2 => l_ints); (case hn1 => l_fit); (case hn2 => l_fit); (case h0 => assumption); (case hr => assumption); (case hB => k_asm); (case hF => k_asm); (case hX => k_asm); (case hN => k_asm); (case hT => k_asm); (case hkk => first | exact rfl | assumption); (case hdp => ktr_room); (case hun => ktr_units); k_whole); intro zqT' zqq' zql' zqvs' zqk' zqc' zqx' zqh' zqtk' zqF' zqN' zql1 zql2 zql3 zqi1; (try dsimp only); (try k_fold); (try k_sweep)))
  trivial
set_option maxHeartbeats 8000000 in
theorem c_zpseudo_rest {la lb : Addr} {va vb : List Value} {a b out : List Int} (hi1 : IntsAre va a) (hi2 : IntsAre vb b) (hn1 : a.length < 100) (hn2 : b.length < 100) (h0 : 0 < b.length)
    (hr : PsRun b a [] (a.length + 1 - b.length : Nat) out) : Con 157 201 [.ref la, .ref lb] (fun h => h.IsList la va.toArray ∧ h.IsList lb vb.toArray) (fun h h' r => NewL h h' r out) := by
  unfold Con PG
  k_fill
  intro w mean mg mb dp un gd cn cs af ccd cl outer A₀ base h₀ L m s Q E B F X T hk hp hd hu hret
  obtain ⟨hp1, hp2⟩ := hp
  refine wpAny_call ?_
  k_dflt (refine' code_def0 ?k1 ?k2 ?k3 ?k5 ?kA ?kF ?kK ?k6 ?k7 ?k8 ?k9 ?kB ?_ ?c2 ?c3 ?c4 ?c5; (case kA => exact rfl); (case kF => exact rfl); (case kK => assumption); (case k1 => k_asm); (case k2 => k_asm); (case k3 => k_asm); (case k5 => k_asm); (case k6 => k_is); (case k7 => k_is); (case k8 => ktr_room); (case k9 => exact BindsTo.of_eq rfl); (case c5 => decide); (case kB => exact locs rfl); (case c2 => exact rfl); (case c3 => exact rfl); (case c4 => exact rfl); k_whole)
  intro L' h' F' N' B' X' T'
  (try dsimp only)
  show (let v₂ : Env := _; let A₂ : Around := Around.deeper _ v₂; wpAny _ A₂ (execs _ v₂) _ _ _)
  intro v₂ A₂
  (try k_fold)
  k_steps
  (try k_unfold)
  (try dsimp only)
  refine con_endL (f := True) hret (by assumption) (by assumption) (by k_mem) (by assumption) ?_
  rfl
def nhL (front step height : Int) : Int := if step = 0 then height else (front ^ step.toNat).fdiv (height ^ (step - 1).toNat)
theorem pow_nz {h : Int} (hz : h ≠ 0) (n : Nat) : h ^ n ≠ 0 := fun e => hz (by
  induction n with
  | zero => simp at e
  | succ n ih =>
    rw [Int.pow_succ] at e
    rcases Int.mul_eq_zero.mp e with q | q
    · exact ih q
    · exact q)
set_option maxHeartbeats 8000000 in
theorem c_next_height {front step height : Int} {t1 t2 t3 : Tok} (h0 : 0 ≤ step) (hh : height ≠ 0) (p1 : (Builtin.Int.intBits front : Int) * step ≤ 2 ^ 27) (p2 : (Builtin.Int.intBits height : Int) * (step - 1) ≤ 2 ^ 27) :
    Con 164 110 [.int front t1, .int step t2, .int height t3] (fun h => True) (fun h h' r => ∃ t, r = .int (nhL front step height) t) := by
  have hz := pow_nz hh (step - 1).toNat
  unfold Con PG
  k_fill
  intro w mean mg mb dp un gd cn cs af ccd cl outer A₀ base h₀ L m s Q E B F X T hk hp hd hu hret
  refine wpAny_call ?_
  k_dflt (refine' code_def0 ?k1 ?k2 ?k3 ?k5 ?kA ?kF ?kK ?k6 ?k7 ?k8 ?k9 ?kB ?_ ?c2 ?c3 ?c4 ?c5; (case kA => exact rfl); (case kF => exact rfl); (case kK => assumption); (case k1 => k_asm); (case k2 => k_asm); (case k3 => k_asm); (case k5 => k_asm); (case k6 => k_is); (case k7 => k_is); (case k8 => ktr_room); (case k9 => exact BindsTo.of_eq rfl); (case c5 => decide); (case kB => exact locs rfl); (case c2 => exact rfl); (case c3 => exact rfl); (case c4 => exact rfl); k_whole)
  intro L' h' F' N' B' X' T'
  (try dsimp only)
  show (let v₂ : Env := _; let A₂ : Around := Around.deeper _ v₂; wpAny _ A₂ (execs _ v₂) _ _ _)
  intro v₂ A₂
  (try k_fold)
  k_steps
  · (try dsimp only)
    (try k_unfold)
    (try dsimp only)
    refine con_endI hret (by assumption) ?_
    rw [nhL, if_pos (by assumption)]
  · (try dsimp only)
    (try k_unfold)
    (try dsimp only)
    refine con_endI hret (by assumption) ?_
    rw [nhL, if_neg (by assumption)]

theorem kw_35 : True := by
  (k_with "call ref" => (k_here; (with_reducible show wpAny _ _ (call (Value.ref 157) _) _ _ _); k_dflt (apply con_useL; (case' hC => apply c_zpseudo_rest); (case hpp => (constructor; (case left => is_list); (case right => is_list))); (case hi1 => l_ints); (case hi2 => l_ints); (case hn1 => l_fit); (case hn2 => l_fit); (case h0 => omega); (case hr => assumption); (case hB => k_asm); (case hF => k_asm); (case hX => k_asm); (case hN => k_asm); (case hT => k_asm); (case hkk => first | exact rfl | assumption); (case hdp => ktr_room); (case hun => ktr_units); k_whole); intro zql' zqvs' zqk' zqh' zqtk' zqF' zqN' zql1 zqi1; (try dsimp only); (try k_fold); (try k_sweep)))
  trivial
theorem kw_36 : True := by
  (k_with "call ref" => (k_here; (with_reducible show wpAny _ _ (call (Value.ref 164) _) _ _ _); k_dflt (apply con_useI; (case' hC => apply c_next_height); (case hpp => exact True.intro); (case h0 => omega); (case hh => assumption); (case p1 => assumption); (case p2 => assumption); (case hB => k_asm); (case hF => k_asm); (case hX => k_asm); (case hN => k_asm); (case hT => k_asm); (case hkk => first | exact rfl | assumption); (case hdp => ktr_room); (case hun => ktr_units); k_whole); intro zqt' zqh' zqtk' zqF' zqN'; (try dsimp only); (try k_fold); (try k_sweep)))
  trivial
def ConN (f : Addr) (n : Nat) (args : List Value) (as : List (Addr × Obj)) (Post : Heap → Addr → Heap → Value → Prop) : Prop :=
  ∀ (w : World) (mean : ExcName → Option Value) (mg mb : Str → Option Value) (dp un : Nat) (gd : Option (List Code)) (cn : Str) (cs : Scope) (a : Addr) (ccd : Value) (cl : List (Str × Addr)) (outer : List Env) (A₀ : Around) (base h₀ : Heap) (L : Addr) (m : Str → Option Value) (s : Shared) (Q E : Value → Shared → Prop),
    Below A₀ base outer h₀ → Fr h₀ L s.heap m → (hd.heap_19 w.params).In h₀ → News h₀ L s.heap as → Top hd.view_19 (looseW hd.view_19 []) mean mg mb h₀ → cs.kind = .function → dp + n < recursionLimit → un + 8 * n < cLine →
    (∀ r h' tk', Fr h₀ L h' m → Post h₀ L h' r → Q r { s with heap := h', toks := tk' }) →
    wpAny (model PG w) (ktrTop dp un gd cn cs L a ccd cl outer) (call (.ref f) args) Q E s
def RowP (last : List Int) (h₀ : Heap) (L : Addr) (h' : Heap) (v : Value) : Prop :=
  ∃ R its k l vs c, v = .ref R ∧ NeA R l ∧ News h₀ L h' [(R, listOf (List.toArray (its ++ [.ref l])) k), (l, listOf (List.toArray vs) c)] ∧ its.length < 1000 ∧ IntsAre vs last
inductive SubRun : List Int → List Int → Int → Int → List Int → Prop
  | done {a b : List Int} {f h : Int} : b.length ≤ 1 → SubRun a b f h b
  | zero {a b : List Int} {f h : Int} : 1 < b.length → b.length ≤ a.length → PsRun b a [] (a.length + 1 - b.length : Nat) [] → SubRun a b f h b
  | step {a b rest last : List Int} {f h : Int} : 1 < b.length → b.length ≤ a.length → PsRun b a [] (a.length + 1 - b.length : Nat) rest → 0 < rest.length → rest.length < b.length →
      h ≠ 0 → ldL b ≠ 0 → (Builtin.Int.intBits h : Int) * ((a.length : Int) - b.length) ≤ 2 ^ 27 → IntMulOk f (h ^ ((a.length : Int) - b.length).toNat) → f * h ^ ((a.length : Int) - b.length).toNat ≠ 0 →
      (Builtin.Int.intBits (ldL b) : Int) * ((a.length : Int) - b.length) ≤ 2 ^ 27 → (Builtin.Int.intBits h : Int) * ((a.length : Int) - b.length - 1) ≤ 2 ^ 27 →
      SubRun b (dvL rest (f * h ^ ((a.length : Int) - b.length).toNat)) (ldL b) (nhL (ldL b) ((a.length : Int) - b.length) h) last → SubRun a b f h last
def SubJ (last : List Int) (x : List Int × List Int × Int × Int) (m : Str → Option Value) (news : List (Addr × Obj)) : Prop :=
  ∃ R its kr la lb lr va vb vr ka kb kc t1 t2, news = [(R, listOf (List.toArray (its ++ [Value.ref lr])) kr), (la, listOf (List.toArray va) ka), (lb, listOf (List.toArray vb) kb), (lr, listOf (List.toArray vr) kc)] ∧ NeA R la ∧ NeA R lb ∧ NeA R lr ∧ m "row" = some (.ref R) ∧ m "a" = some (.ref la) ∧ m "b" = some (.ref lb) ∧ m "front" = some (.int x.2.2.1 t1) ∧ m "height" = some (.int x.2.2.2 t2) ∧ IntsAre va x.1 ∧ IntsAre vb x.2.1 ∧ IntsAre vr x.2.1 ∧ its.length + x.2.1.length < 300 ∧ x.1.length < 100 ∧ x.2.1.length < 100 ∧ SubRun x.1 x.2.1 x.2.2.1 x.2.2.2 last
section
variable {prog : Program} {w : World} {A : Around} {E : Value → Shared → Prop} {s : Shared} {env : Env} {test : PySem.Expr} {body orelse : List Stmt} {Q : Flow → Shared → Prop}
/-- a loop shown once, for the ways that come to it -/
def LoopOK {σ : Type} (prog : Program) (w : World) (A : Around) (E : Value → Shared → Prop) (env : Env) (test : PySem.Expr) (body orelse : List Stmt) (Q : Flow → Shared → Prop) (s : Shared) (h₀ : Heap) (L : Addr) (J : σ → (Str → Option Value) → List (Addr × Obj) → Prop) : Prop :=
  ∀ (x : σ) (h : Heap) (tk : Nat) (m : Str → Option Value), Fr h₀ L h m → (∃ news, J x m news ∧ News h₀ L h news) → Wh prog w A E env test body orelse Q { s with heap := h, toks := tk }
theorem wh_all {σ : Type} {h₀ : Heap} {L : Addr} (J : σ → (Str → Option Value) → List (Addr × Obj) → Prop) (meas : σ → Nat)
    (step : ∀ (x : σ) (h : Heap) (tk : Nat) (m : Str → Option Value) (news : List (Addr × Obj)), J x m news → Fr h₀ L h m → News h₀ L h news →
      (∀ (y : σ) (h' : Heap) (tk' : Nat) (m' : Str → Option Value), meas y < meas x → Fr h₀ L h' m' → (∃ news', J y m' news' ∧ News h₀ L h' news') → Wh prog w A E env test body orelse Q { s with heap := h', toks := tk' }) →
      Wh prog w A E env test body orelse Q { s with heap := h, toks := tk }) : LoopOK prog w A E env test body orelse Q s h₀ L J := fun x h tk m F hJ => wh_ind J meas step x F hJ
theorem wh_use {σ : Type} {h₀ : Heap} {L : Addr} {J : σ → (Str → Option Value) → List (Addr × Obj) → Prop} (key : LoopOK prog w A E env test body orelse Q s h₀ L J) (x : σ) {h : Heap} {tk : Nat} {m : Str → Option Value} (F : Fr h₀ L h m) (hJ : ∃ news, J x m news ∧ News h₀ L h news) :
    Wh prog w A E env test body orelse Q { s with heap := h, toks := tk } := key x h tk m F hJ
/-- kept out of assumption's sight -/
structure Hid (P : Prop) : Prop where
  out : P
theorem share_goal {P G : Prop} (h : P) (k : Hid P → G) : G := k ⟨h⟩
end
set_option maxHeartbeats 8000000 in
theorem c_subresultants {la lb : Addr} {va vb : List Value} {ka kb : Nat} {a b last : List Int} (hi1 : IntsAre va a) (hi2 : IntsAre vb b) (hn1 : a.length < 100) (hn2 : b.length < 100)
    (hr : if a.length < b.length then SubRun b a 1 1 last else SubRun a b 1 1 last) : ConN 171 310 [.ref la, .ref lb] [(la, listOf (List.toArray va) ka), (lb, listOf (List.toArray vb) kb)] (RowP last) := by
  unfold ConN PG
  k_fill
  intro w mean mg mb dp un gd cn cs af ccd cl outer A₀ base h₀ L m s Q E B F X N T hk hd hu hret
  refine wpAny_call ?_
  k_dflt ktr_enter
  (try dsimp only)
  (try k_fold)
  apply share_goal
  case k =>
    intro key
    k_steps
    · rw [if_pos (by omega)] at hr
      refine wh_use (J := SubJ last) (Hid.out key) (b, a, 1, 1) (by assumption) ?hJx
      case hJx =>
        have N9 := (by assumption : News _ _ _ (_ :: _ :: _ :: _ :: _))
        refine' ⟨_, ⟨_, [Value.ref _], _, _, _, _, _, _, _, _, _, _, _, _, rfl, ?j1x, ?j2x, ?j2bx, ?j3x, ?j4x, ?j5x, ?j6x, ?j7x, (by assumption), (by assumption), (by assumption), ?j10x, ?j11x, ?j12x, hr⟩, ?jNx⟩
        case j3x => with_unfolding_all rfl
        case j4x => with_unfolding_all rfl
        case j5x => with_unfolding_all rfl
        case j6x => with_unfolding_all rfl
        case j7x => with_unfolding_all rfl
        case jNx => exact news_c N9 (by k_mem) (news_c N9 (by k_mem) (news_c N9 (by k_mem) (news_1 N9 (by k_mem))))
        case j1x => exact NeA.of (by k_ne)
        case j2x => exact NeA.of (by k_ne)
        case j2bx => exact NeA.of (by k_ne)
        case j10x => simp only [List.length_cons, List.length_nil]; omega
        case j11x => assumption
        case j12x => assumption
    · rw [if_neg (by omega)] at hr
      refine wh_use (J := SubJ last) (Hid.out key) (a, b, 1, 1) (by assumption) ?hJy
      case hJy =>
        have N9 := (by assumption : News _ _ _ (_ :: _ :: _ :: _ :: _))
        refine' ⟨_, ⟨_, [Value.ref _], _, _, _, _, _, _, _, _, _, _, _, _, rfl, ?j1y, ?j2y, ?j2by, ?j3y, ?j4y, ?j5y, ?j6y, ?j7y, (by assumption), (by assumption), (by assumption), ?j10y, ?j11y, ?j12y, hr⟩, ?jNy⟩
        case j3y => with_unfolding_all rfl
        case j4y => with_unfolding_all rfl
        case j5y => with_unfolding_all rfl
        case j6y => with_unfolding_all rfl
        case j7y => with_unfolding_all rfl
        case jNy => exact news_c N9 (by k_mem) (news_c N9 (by k_mem) (news_c N9 (by k_mem) (news_1 N9 (by k_mem))))
        case j1y => exact NeA.of (by k_ne)
        case j2y => exact NeA.of (by k_ne)
        case j2by => exact NeA.of (by k_ne)
        case j10y => simp only [List.length_cons, List.length_nil]; omega
        case j11y => assumption
        case j12y => assumption
  case h =>
    refine wh_all (SubJ last) (fun x => x.2.1.length) ?step
    case step =>
      rintro ⟨a, b, front, height⟩ h tk m news ⟨R, its, kr, la, lb, lr, va, vb, vr, ka, kb, kc, t1, t2, rfl, ne1, ne2, ne3, hm1, hm2, hm3, hm4, hm5, ia, ib, ir, hl1, hl2, hl3, hrun⟩ F' N' IH
      dsimp only at ia ib ir hl1 hl2 hl3 hrun hm4 hm5
      rw [map_at5 hm1 hm2 hm3 hm4 hm5] at F'
      refine wh_turn (by first | passes_own | with_unfolding_all passes_own) ?_
      cases hrun with
      | done h1 =>
        k_steps
        have N9 := (by assumption : News h₀ L _ _)
        exact hret _ _ _ (by assumption) ⟨R, its, kr, lr, vr, kc, rfl, ne3, news_c N9 (by k_mem) (news_1 N9 (by k_mem)), by omega, ir⟩
      | zero h1 h2 h3 =>
        k_steps
        have N9 := (by assumption : News h₀ L _ _)
        exact hret _ _ _ (by assumption) ⟨R, its, kr, lr, vr, kc, rfl, ne3, news_c N9 (by k_mem) (news_1 N9 (by k_mem)), by omega, ir⟩
      | @step _ _ rest' _ _ _ h1 h2 h3 h4 h5 h6 h7 h8 h9 h10 h11 h12 h13 =>
        have hdl : ∀ k : Int, (dvL rest' k).length = rest'.length := fun k => List.length_map ..
        k_steps
        · exfalso; omega
        · refine IH (b, dvL rest' (front * height ^ ((a.length : Int) - b.length).toNat), ldL b, nhL (ldL b) ((a.length : Int) - b.length) height) _ _ _ (by show (dvL _ _).length < b.length; rw [hdl]; exact h5) (by assumption) ?_
          have N9 := (by assumption : News _ _ _ (_ :: _ :: _ :: _ :: _ :: _ :: _ :: _))
          simp only [List.push_toArray] at N9
          refine' ⟨_, ⟨_, its ++ [.ref lr], _, _, _, _, _, _, _, _, _, _, _, _, rfl, ?j1, ?j2, ?j2b, ?j3, ?j4, ?j5, ?j6, ?j7, ib, ?j8, ?j9, ?j10, ?j11, ?j12, h13⟩, ?jN⟩
          case j3 => with_unfolding_all rfl
          case j4 => with_unfolding_all rfl
          case j5 => with_unfolding_all rfl
          case j6 => with_unfolding_all rfl
          case j7 => with_unfolding_all rfl
          case jN => exact news_c N9 (by k_mem) (news_c N9 (by k_mem) (news_c N9 (by k_mem) (news_1 N9 (by k_mem))))
          case j1 => exact NeA.of (by k_ne)
          case j2 => exact NeA.of (by k_ne)
          case j2b => exact NeA.of (by k_ne)
          case j8 => assumption
          case j9 => assumption
          case j10 =>
            show (its ++ [Value.ref lr]).length + (dvL _ _).length < 300
            rw [hdl, List.length_append, List.length_singleton]
            omega
          case j11 => exact hl3
          case j12 => show (dvL _ _).length < 100; rw [hdl]; omega

theorem con_useR {out : List Int} {w : World} {A₀ : Around} {s : Shared} {base h₀ : Heap} {outer : List Env} {L : Addr} {m : Str → Option Value} {mean : ExcName → Option Value} {mg mb : Str → Option Value}
    {f : Addr} {n : Nat} {args : List Value} {as : List (Addr × Obj)} (hC : ConN f n args as (RowP out))
    {dp un : Nat} {gd : Option (List Code)} {cn : Str} {cs : Scope} {a : Addr} {ccd : Value} {cl : List (Str × Addr)} {Q E : Value → Shared → Prop}
    (hB : Below A₀ base outer h₀) (hF : Fr h₀ L s.heap m) (hX : (hd.heap_19 w.params).In h₀) (hN : News h₀ L s.heap as) (hT : Top hd.view_19 (looseW hd.view_19 []) mean mg mb h₀) (hkk : cs.kind = .function)
    (hdp : dp + n < recursionLimit) (hun : un + 8 * n < cLine)
    (ret : ∀ R its k l vs c h' tk', Fr h₀ L h' m → News h₀ L h' [(R, listOf (List.toArray (its ++ [.ref l])) k), (l, listOf (List.toArray vs) c)] → NeA R l → its.length < 1000 → IntsAre vs out → Q (.ref R) { s with heap := h', toks := tk' }) :
    wpAny (model PG w) (ktrTop dp un gd cn cs L a ccd cl outer) (call (.ref f) args) Q E s := by
  refine hC w mean mg mb dp un gd cn cs a ccd cl outer A₀ base h₀ L m s Q E hB hF hX hN hT hkk hdp hun ?_
  rintro r h' tk' F' ⟨R, its, k, l, vs, c, rfl, hne, N', hl, hi⟩
  exact ret R its k l vs c h' tk' F' N' hne hl hi
theorem row_last {prog : Program} {w : World} {A : Around} {E : Value → Shared → Prop} {s : Shared} {h₀ : Heap} {L R l : Addr} {news : List (Addr × Obj)} {value slice : PySem.Expr} {its : List Value} {k : Nat} {u : Tok} {Q : Value → Shared → Prop}
    (N : News h₀ L s.heap news) (hm : (R, listOf (List.toArray (its ++ [.ref l])) k) ∈ news) (hl : its.length < 1000) (h : Q (.ref l) s)
    (hs : subscripted slice false (.ref R) (.int (-1) u) = operate [.ref R, .int (-1) u] (getItem (.ref R) (.int (-1) u))) :
    wpAny (model prog w) A (subscriptTail value slice (.ref R) (.int (-1) u)) Q E s := by
  refine tail_any (T := "list") ⟨_, (N _ hm).1, rfl⟩ slot_list_getitem.lookup (wpAny_getItem_list_neg (items := List.toArray (its ++ [.ref l])) ⟨_, (N _ hm).1, rfl, _, rfl⟩ (by decide) ?_ (by decide) ?_ h) hs
  · simp only [List.size_toArray, List.length_append, List.length_singleton]; omega
  · have e : ((-1 : Int) + ((its ++ [Value.ref l]).toArray.size : Int)).toNat = its.length := by
      simp only [List.size_toArray, List.length_append, List.length_singleton]; omega
    rw [e]
    simp
theorem kw_37 : True := by
  (k_with "call ref" => (k_here; (with_reducible show wpAny _ _ (call (Value.ref 117) _) _ _ _); k_dflt (apply con_useL; (case' hC => apply c_zprimitive); (case hpp => (show Heap.IsList _ _ _; is_list)); (case hi => l_ints); (case hn => l_fit); (case h0 => first | assumption | (intro _; assumption)); (case hB => k_asm); (case hF => k_asm); (case hX => k_asm); (case hN => k_asm); (case hT => k_asm); (case hkk => first | exact rfl | assumption); (case hdp => ktr_room); (case hun => ktr_units); k_whole); intro zql' zqvs' zqk' zqh' zqtk' zqF' zqN' zql1 zqi1; (try dsimp only); (try k_fold); (try k_sweep)))
  trivial
theorem kw_38 : True := by
  (k_with "call ref" => (k_here; (with_reducible show wpAny _ _ (call (Value.ref 171) _) _ _ _); k_dflt (apply con_useR; (case' hC => apply c_subresultants); (case hN => (exact news_c (by k_asm) (by k_mem) (news_1 (by k_asm) (by k_mem)))); (case hi1 => l_ints); (case hi2 => l_ints); (case hn1 => l_fit); (case hn2 => l_fit); (case hr => assumption); (case hB => k_asm); (case hF => k_asm); (case hX => k_asm); (case hT => k_asm); (case hkk => first | exact rfl | assumption); (case hdp => ktr_room); (case hun => ktr_units); k_whole); intro zqR' zqits' zqk' zql' zqvs' zqc' zqh' zqtk' zqF' zqN' zql1 zql2 zqi1; (try dsimp only); (try k_fold); (try k_sweep)))
  trivial
theorem kw_39 : True := by
  (k_with "subscriptTail" => (k_here; (with_reducible show wpAny _ _ (subscriptTail (PySem.Expr.Call _ _ _ _) _ (Value.ref _) (Value.int _ _)) _ _ _); k_dflt (apply row_last; (case N => k_asm); (case hm => k_mem); (case hl => assumption); (case hs => with_unfolding_all rfl); k_whole)))
  trivial
theorem prL_length (p : List Int) : (prL p).length = p.length := by
  unfold prL
  split
  · next h => rw [h]
  · exact List.length_map ..
set_option maxHeartbeats 8000000 in
theorem c_zgcd0 {la lb : Addr} {va vb : List Value} {a b : List Int} (hi1 : IntsAre va a) (hi2 : IntsAre vb b) (hn1 : a.length < 100) (hn2 : b.length < 100) (h0 : b.length = 0) (h1 : 0 < a.length) (h2 : gcA a ≠ 0) (h3 : ∀ n ∈ prL a, IntMulOk n (gcA a)) :
    Con 178 320 [.ref la, .ref lb] (fun h => h.IsList la va.toArray ∧ h.IsList lb vb.toArray) (fun h h' r => NewL h h' r (scL (prL a) (gcA a))) := by
  have hp := prL_length a
  unfold Con PG
  k_fill
  intro w mean mg mb dp un gd cn cs af ccd cl outer A₀ base h₀ L m s Q E B F X T hk hp hd hu hret
  obtain ⟨hp1, hp2⟩ := hp
  refine wpAny_call ?_
  k_dflt (refine' code_def0 ?k1 ?k2 ?k3 ?k5 ?kA ?kF ?kK ?k6 ?k7 ?k8 ?k9 ?kB ?_ ?c2 ?c3 ?c4 ?c5; (case kA => exact rfl); (case kF => exact rfl); (case kK => assumption); (case k1 => k_asm); (case k2 => k_asm); (case k3 => k_asm); (case k5 => k_asm); (case k6 => k_is); (case k7 => k_is); (case k8 => ktr_room); (case k9 => exact BindsTo.of_eq rfl); (case c5 => decide); (case kB => exact locs rfl); (case c2 => exact rfl); (case c3 => exact rfl); (case c4 => exact rfl); k_whole)
  intro L' h' F' N' B' X' T'
  (try dsimp only)
  show (let v₂ : Env := _; let A₂ : Around := Around.deeper _ v₂; wpAny _ A₂ (execs _ v₂) _ _ _)
  intro v₂ A₂
  (try k_fold)
  k_steps
  all_goals (first | (exfalso; omega) | ((try k_unfold); (try dsimp only); refine con_endL (f := True) hret (by assumption) (by assumption) (by k_mem) (by assumption) ?_; rfl))
set_option maxHeartbeats 8000000 in
theorem c_zgcd1 {la lb : Addr} {va vb : List Value} {a b last : List Int} (hi1 : IntsAre va a) (hi2 : IntsAre vb b) (hn1 : a.length < 100) (hn2 : b.length < 100) (hb : 0 < b.length) (ha : 0 < a.length) (h2 : gcA a ≠ 0) (h3 : gcA b ≠ 0)
    (hr : if (prL a).length < (prL b).length then SubRun (prL b) (prL a) 1 1 last else SubRun (prL a) (prL b) 1 1 last) (hl : last.length < 100) (h5 : gcA last ≠ 0) (h6 : ∀ n ∈ prL last, IntMulOk n (Int.gcd (gcA a) (gcA b))) :
    Con 178 320 [.ref la, .ref lb] (fun h => h.IsList la va.toArray ∧ h.IsList lb vb.toArray) (fun h h' r => NewL h h' r (if 1 < last.length then scL (prL last) (Int.gcd (gcA a) (gcA b)) else [(Int.gcd (gcA a) (gcA b) : Int)])) := by
  have hla := prL_length a
  have hlb := prL_length b
  have hll := prL_length last
  unfold Con PG
  k_fill
  intro w mean mg mb dp un gd cn cs af ccd cl outer A₀ base h₀ L m s Q E B F X T hk hp hd hu hret
  obtain ⟨hp1, hp2⟩ := hp
  refine wpAny_call ?_
  k_dflt (refine' code_def0 ?k1 ?k2 ?k3 ?k5 ?kA ?kF ?kK ?k6 ?k7 ?k8 ?k9 ?kB ?_ ?c2 ?c3 ?c4 ?c5; (case kA => exact rfl); (case kF => exact rfl); (case kK => assumption); (case k1 => k_asm); (case k2 => k_asm); (case k3 => k_asm); (case k5 => k_asm); (case k6 => k_is); (case k7 => k_is); (case k8 => ktr_room); (case k9 => exact BindsTo.of_eq rfl); (case c5 => decide); (case kB => exact locs rfl); (case c2 => exact rfl); (case c3 => exact rfl); (case c4 => exact rfl); k_whole)
  intro L' h' F' N' B' X' T'
  (try dsimp only)
  show (let v₂ : Env := _; let A₂ : Around := Around.deeper _ v₂; wpAny _ A₂ (execs _ v₂) _ _ _)
  intro v₂ A₂
  (try k_fold)
  k_steps
  all_goals (first
    | (exfalso; omega)
    | ((try k_unfold); (try dsimp only); refine con_endL (f := True) hret (by assumption) (by assumption) (by k_mem) (by assumption) ?_; rw [if_pos (by omega)])
    | ((try k_unfold); (try dsimp only); refine con_endL (f := True) hret (by assumption) (by assumption) (by k_mem) (IntsAre.cons _ _ IntsAre.nil) ?_; rw [if_neg (by omega)]))

inductive GcdRun : List Int → List Int → List Int → Prop
  | zero {a b : List Int} : b.length = 0 → 0 < a.length → gcA a ≠ 0 → (∀ n ∈ prL a, IntMulOk n (gcA a)) → GcdRun a b (scL (prL a) (gcA a))
  | many {a b last : List Int} : 0 < b.length → 0 < a.length → gcA a ≠ 0 → gcA b ≠ 0 → (if (prL a).length < (prL b).length then SubRun (prL b) (prL a) 1 1 last else SubRun (prL a) (prL b) 1 1 last) → last.length < 100 → gcA last ≠ 0 →
      (∀ n ∈ prL last, IntMulOk n (Int.gcd (gcA a) (gcA b))) → 1 < last.length → GcdRun a b (scL (prL last) (Int.gcd (gcA a) (gcA b)))
  | one {a b last : List Int} : 0 < b.length → 0 < a.length → gcA a ≠ 0 → gcA b ≠ 0 → (if (prL a).length < (prL b).length then SubRun (prL b) (prL a) 1 1 last else SubRun (prL a) (prL b) 1 1 last) → last.length < 100 → gcA last ≠ 0 →
      (∀ n ∈ prL last, IntMulOk n (Int.gcd (gcA a) (gcA b))) → ¬ 1 < last.length → GcdRun a b [(Int.gcd (gcA a) (gcA b) : Int)]
theorem c_zgcd {la lb : Addr} {va vb : List Value} {a b g : List Int} (hi1 : IntsAre va a) (hi2 : IntsAre vb b) (hn1 : a.length < 100) (hn2 : b.length < 100) (hg : GcdRun a b g) :
    Con 178 320 [.ref la, .ref lb] (fun h => h.IsList la va.toArray ∧ h.IsList lb vb.toArray) (fun h h' r => NewL h h' r g) := by
  cases hg with
  | zero h1 h2 h3 h4 => exact c_zgcd0 hi1 hi2 hn1 hn2 h1 h2 h3 h4
  | many h1 h2 h3 h4 h5 h6 h7 h8 h9 =>
    have := c_zgcd1 (la := la) (lb := lb) hi1 hi2 hn1 hn2 h1 h2 h3 h4 h5 h6 h7 h8
    rwa [if_pos h9] at this
  | one h1 h2 h3 h4 h5 h6 h7 h8 h9 =>
    have := c_zgcd1 (la := la) (lb := lb) hi1 hi2 hn1 hn2 h1 h2 h3 h4 h5 h6 h7 h8
    rwa [if_neg h9] at this
def ExOK (a b q : List Int) : Prop := 0 < b.length ∧ ldL b ≠ 0 ∧ ExRun b a (List.replicate (a.length + 1 - b.length) 0) (some q)
theorem c_zexactS {la lb : Addr} {va vb : List Value} {a b q : List Int} (hi1 : IntsAre va a) (hi2 : IntsAre vb b) (hn1 : a.length < 100) (hn2 : b.length < 100) (hg : ExOK a b q) :
    Con 136 200 [.ref la, .ref lb] (fun h => h.IsList la va.toArray ∧ h.IsList lb vb.toArray) (fun h h' r => NewL h h' r q) := c_zexact hi1 hi2 hn1 hn2 hg.1 hg.2.1 hg.2.2
def DeOK (p : List Int) : Prop := ∀ n ∈ p, ∀ k : Int, 0 ≤ k → k < 1000 → IntMulOk n k
inductive YunRun : Nat → List Int → List Int → Int → List (List Int × Int) → List (List Int × Int) → Prop
  | done {k : Nat} {left rest : List Int} {many : Int} {found : List (List Int × Int)} : left.length ≤ 1 → YunRun k left rest many found found
  | keep {k : Nat} {left rest part left' rest' : List Int} {many : Int} {found out : List (List Int × Int)} : 1 < left.length → rest.length < 100 → part.length < 100 → left'.length < 100 → rest'.length < 100 → GcdRun left rest part → 1 < part.length → ExOK left part left' → ExOK rest part rest' → DeOK left' →
      YunRun k left' (sbL rest' (deL left')) (many + 1) (found ++ [(part, many)]) out → YunRun (k + 1) left rest many found out
  | skip {k : Nat} {left rest part left' rest' : List Int} {many : Int} {found out : List (List Int × Int)} : 1 < left.length → rest.length < 100 → part.length < 100 → left'.length < 100 → rest'.length < 100 → GcdRun left rest part → part.length ≤ 1 → ExOK left part left' → ExOK rest part rest' → DeOK left' →
      YunRun k left' (sbL rest' (deL left')) (many + 1) found out → YunRun (k + 1) left rest many found out
def foundD (found : List (List Int × Int)) : PyData := .list (found.map fun x => .tuple [.list (x.1.map PyData.int), .int x.2])
def RI (items : List (Addr × Obj)) (vs : List Value) (found : List (List Int × Int)) : Prop :=
  ∀ h : Heap, (∀ p ∈ items, h.get? p.1 = some p.2) → ∃ as, ReadsAll h vs (found.map fun x => .tuple [.list (x.1.map PyData.int), .int x.2]) as
theorem readsAll_append {h : Heap} {vs ws : List Value} {ds es : List PyData} {as bs : List Addr} (x : ReadsAll h vs ds as) (y : ReadsAll h ws es bs) : ∃ cs, ReadsAll h (vs ++ ws) (ds ++ es) cs := by
  induction vs generalizing ds as with
  | nil => cases x; exact ⟨_, y⟩
  | cons v vs ih =>
    cases x with
    | cons q r =>
      obtain ⟨cs, z⟩ := ih r
      exact ⟨_, .cons q z⟩
theorem reads_ints {h : Heap} {vs : List Value} {ns : List Int} (hi : IntsAre vs ns) : ∃ as, ReadsAll h vs (ns.map PyData.int) as := by
  induction hi with
  | nil => exact ⟨_, .nil⟩
  | cons n t _ ih =>
    obtain ⟨as, x⟩ := ih
    exact ⟨_, .cons (.int n t) x⟩
theorem ri_snoc {items : List (Addr × Obj)} {vs vp : List Value} {found : List (List Int × Int)} {D lp : Addr} {c k : Nat} {part : List Int} {many : Int} {t : Tok} (h : RI items vs found) (hi : IntsAre vp part) :
    RI ((D, ({ cls := .type "tuple", data := .seq #[.ref lp, .int many t] c } : Obj)) :: (lp, listOf (List.toArray vp) k) :: items) (vs ++ [.ref D]) (found ++ [(part, many)]) := by
  intro H hH
  obtain ⟨as, x⟩ := h H fun p hp => hH p (.tail _ (.tail _ hp))
  have h1 := hH _ (.head _)
  have h2 := hH _ (.tail _ (.head _))
  obtain ⟨bs, y⟩ := reads_ints (h := H) hi
  rw [List.map_append]
  exact readsAll_append x (.cons (.tuple h1 rfl rfl (.cons (.list h2 rfl rfl y) (.cons (.int many t) .nil))) .nil)
theorem news_all {h₀ h : Heap} {L : Addr} {news r : List (Addr × Obj)} (N : News h₀ L h news) (hs : ∀ p ∈ r, p ∈ news) : News h₀ L h r := fun p hp => N p (hs p hp)
local macro_rules | `(tactic| k_all) => `(tactic| k_extra "my k_all")
theorem kw_40 : True := by
  (k_with "my k_all" => assumption)
  trivial
theorem kw_41 : True := by
  (k_with "call ref" => (k_here; (with_reducible show wpAny _ _ (call (Value.ref 178) _) _ _ _); k_dflt (apply con_useL; (case' hC => apply c_zgcd); (case hpp => (constructor; (case left => is_list); (case right => is_list))); (case hi1 => l_ints); (case hi2 => l_ints); (case hn1 => l_fit); (case hn2 => l_fit); (case hg => assumption); (case hB => k_asm); (case hF => k_asm); (case hX => k_asm); (case hN => k_asm); (case hT => k_asm); (case hkk => first | exact rfl | assumption); (case hdp => ktr_room); (case hun => ktr_units); k_whole); intro zql' zqvs' zqk' zqh' zqtk' zqF' zqN' zql1 zqi1; (try dsimp only); (try k_fold); (try k_sweep)))
  trivial
theorem kw_42 : True := by
  (k_with "call ref" => (k_here; (with_reducible show wpAny _ _ (call (Value.ref 136) _) _ _ _); k_dflt (apply con_useL; (case' hC => apply c_zexactS); (case hpp => (constructor; (case left => is_list); (case right => is_list))); (case hi1 => l_ints); (case hi2 => l_ints); (case hn1 => l_fit); (case hn2 => l_fit); (case hg => assumption); (case hB => k_asm); (case hF => k_asm); (case hX => k_asm); (case hN => k_asm); (case hT => k_asm); (case hkk => first | exact rfl | assumption); (case hdp => ktr_room); (case hun => ktr_units); k_whole); intro zql' zqvs' zqk' zqh' zqtk' zqF' zqN' zql1 zqi1; (try dsimp only); (try k_fold); (try k_sweep)))
  trivial
theorem kw_43 : True := by
  (k_with "call ref" => (k_here; (with_reducible show wpAny _ _ (call (Value.ref 122) _) _ _ _); k_dflt (apply con_useL; (case' hC => apply c_zderive); (case hpp => (show Heap.IsList _ _ _; is_list)); (case hi => l_ints); (case hn => l_fit); (case hm => assumption); (case hB => k_asm); (case hF => k_asm); (case hX => k_asm); (case hN => k_asm); (case hT => k_asm); (case hkk => first | exact rfl | assumption); (case hdp => ktr_room); (case hun => ktr_units); k_whole); intro zql' zqvs' zqk' zqh' zqtk' zqF' zqN' zql1 zqi1; (try dsimp only); (try k_fold); (try k_sweep)))
  trivial
theorem kw_44 : True := by
  (k_with "call ref" => (k_here; (with_reducible show wpAny _ _ (call (Value.ref 62) _) _ _ _); k_dflt (apply con_useI; (case' hC => apply c_zdegree); (case hpp => (show Heap.IsList _ _ _; is_list)); (case hi => l_ints); (case hn => l_fit); (case hB => k_asm); (case hF => k_asm); (case hX => k_asm); (case hN => k_asm); (case hT => k_asm); (case hkk => first | exact rfl | assumption); (case hdp => ktr_room); (case hun => ktr_units); k_whole); intro zqt' zqh' zqtk' zqF' zqN'; (try dsimp only); (try k_fold); (try k_sweep)))
  trivial
theorem deL_length (p : List Int) : (deL p).length = p.length - 1 := by
  rw [deL, List.length_tail, deF_length]
set_option maxHeartbeats 8000000 in
theorem c_yun {l : Addr} {vs : List Value} {p whole common left rest0 : List Int} {k : Nat} {out : List (List Int × Int)} (hi : IntsAre vs p) (hn : p.length < 100) (h0 : p ≠ [] → gcA p ≠ 0) (hw : prL p = whole) (h1 : ∀ n ∈ whole, ∀ k : Int, 0 ≤ k → k < 1000 → IntMulOk n k)
    (hg : GcdRun whole (deL whole) common) (hcl : common.length < 100) (hx : ExOK whole common left) (hll : left.length < 100) (hx2 : ExOK (deL whole) common rest0) (hrl : rest0.length < 100) (h2 : ∀ n ∈ left, ∀ k : Int, 0 ≤ k → k < 1000 → IntMulOk n k)
    (hr : YunRun k left (sbL rest0 (deL left)) 1 [] out) (hk9 : k < 100) : Con 185 420 [.ref l] (fun h => h.IsList l vs.toArray) (fun h h' r => ∃ as, Reads h' r (foundD out) as) := by
  have e1 : whole.length < 100 := by rw [← hw, prL_length]; exact hn
  have e2 : (deL whole).length < 100 := by rw [deL_length]; omega
  have e3 : (deL left).length < 100 := by rw [deL_length]; omega
  unfold Con PG
  k_fill
  intro w mean mg mb dp un gd cn cs af ccd cl outer A₀ base h₀ L m s Q E B F X T hk hp hd hu hret
  refine wpAny_call ?_
  k_dflt (refine' code_def0 ?k1 ?k2 ?k3 ?k5 ?kA ?kF ?kK ?k6 ?k7 ?k8 ?k9 ?kB ?_ ?c2 ?c3 ?c4 ?c5; (case kA => exact rfl); (case kF => exact rfl); (case kK => assumption); (case k1 => k_asm); (case k2 => k_asm); (case k3 => k_asm); (case k5 => k_asm); (case k6 => k_is); (case k7 => k_is); (case k8 => ktr_room); (case k9 => exact BindsTo.of_eq rfl); (case c5 => decide); (case kB => exact locs rfl); (case c2 => exact rfl); (case c3 => exact rfl); (case c4 => exact rfl); k_whole)
  intro L' h' F' N' B' X' T'
  (try dsimp only)
  show (let v₂ : Env := _; let A₂ : Around := Around.deeper _ v₂; wpAny _ A₂ (execs _ v₂) _ _ _)
  intro v₂ A₂
  (try k_fold)
  rw [← hw] at *
  k_steps
  refine wh_ind (h₀ := s.heap) (L := L') (J := fun (x : Nat × List Int × List Int × Int × List (List Int × Int)) m news => ∃ R vs kR ll lr vl vr kl kr t items, news = (R, listOf (List.toArray vs) kR) :: (ll, listOf (List.toArray vl) kl) :: (lr, listOf (List.toArray vr) kr) :: items ∧ NeA R ll ∧ NeA R lr ∧ (∀ p ∈ items, p.1 ≠ R) ∧ RI items vs x.2.2.2.2 ∧
    m "found" = some (.ref R) ∧ m "left" = some (.ref ll) ∧ m "rest" = some (.ref lr) ∧ m "many" = some (.int x.2.2.2.1 t) ∧ IntsAre vl x.2.1 ∧ IntsAre vr x.2.2.1 ∧ vs.length + x.1 < 200 ∧ x.2.1.length < 100 ∧ x.2.2.1.length < 100 ∧ YunRun x.1 x.2.1 x.2.2.1 x.2.2.2.1 x.2.2.2.2 out) (meas := fun x => x.1) ?step (k, left, sbL rest0 (deL left), 1, []) (by assumption) ?hJ
  case hJ =>
    have N9 := (by assumption : News s.heap L' _ (_ :: _ :: _ :: _ :: _ :: _ :: _))
    refine' ⟨_, ⟨_, [], _, _, _, _, _, _, _, _, [], rfl, ?j1, ?j2, ?j3, ?j4, ?j5, ?j6, ?j7, ?j8, ?j9, ?j10, ?j11, ?j12, ?j13, hr⟩, ?jN⟩
    case j5 => with_unfolding_all rfl
    case j6 => with_unfolding_all rfl
    case j7 => with_unfolding_all rfl
    case j8 => with_unfolding_all rfl
    case jN => exact news_c N9 (by k_mem) (news_c N9 (by k_mem) (news_1 N9 (by k_mem)))
    case j1 => exact NeA.of (by k_ne)
    case j2 => exact NeA.of (by k_ne)
    case j3 => exact fun p hp => nomatch hp
    case j4 => exact fun h _ => ⟨_, .nil⟩
    case j9 => assumption
    case j10 => assumption
    case j11 => show 0 + k < 200; omega
    case j12 => exact hll
    case j13 => have := sbL_length_le rest0 (deL left); show (sbL rest0 (deL left)).length < 100; omega
  case step =>
    rintro ⟨k, left, rest, many, found⟩ h tk m news ⟨R, vs, kR, ll, lr, vl, vr, kl, kr, t, items, rfl, ne1, ne2, ne3, hri, hm1, hm2, hm3, hm4, il, ir, hl1, hl2, hl3, hrun⟩ F' N' IH
    dsimp only at hri hm4 il ir hl1 hl2 hl3 hrun
    rw [map_at4 hm1 hm2 hm3 hm4] at F'
    refine wh_turn (by first | passes_own | with_unfolding_all passes_own) ?_
    clear hr hg hx hx2
    cases hrun with
    | done h1 =>
      k_steps
      (try dsimp only)
      k_unfold
      (try dsimp only)
      have N9 := (by assumption : News s.heap L' _ (_ :: _ :: _ :: items))
      obtain ⟨as, hA⟩ := hri _ fun p hp => (N9 p (.tail _ (.tail _ (.tail _ hp)))).1
      exact con_endG (P := fun h h' r => ∃ as, Reads h' r (foundD out) as) hret (by assumption) ⟨_, .list (N9 _ (.head _)).1 rfl rfl hA⟩
    | @keep k left rest part left' rest' many found out h1 a1 a2 a3 a4 h2 h3 h4 h5 h6 h7 =>
      have b1 : (deL left').length < 100 := by rw [deL_length]; omega
      have h6 : ∀ n ∈ left', ∀ k : Int, 0 ≤ k → k < 1000 → IntMulOk n k := h6
      k_steps
      refine IH (k, left', sbL rest' (deL left'), many + 1, found ++ [(part, many)]) _ _ _ (Nat.lt_succ_self _) (by assumption) ?_
      have N9 := (by assumption : News s.heap L' _ (_ :: _ :: _ :: _ :: _ :: _))
      simp only [List.push_toArray] at N9
      refine' ⟨_, ⟨_, vs ++ [.ref _], _, _, _, _, _, _, _, _, (_, ({ cls := .type "tuple", data := .seq #[.ref ?lp, .int many _] _ } : Obj)) :: (?lp, listOf (List.toArray _) _) :: items, rfl, ?j1x, ?j2x, ?j3x, ?j4x, ?j5x, ?j6x, ?j7x, ?j8x, ?j9x, ?j10x, ?j11x, ?j12x, ?j13x, h7⟩, ?jNx⟩
      case j5x => with_unfolding_all rfl
      case j6x => with_unfolding_all rfl
      case j7x => with_unfolding_all rfl
      case j8x => with_unfolding_all rfl
      case jNx => exact news_c N9 (by k_mem) (news_c N9 (by k_mem) (news_c N9 (by k_mem) (news_c N9 (by k_mem) (news_c N9 (by k_mem) (news_all N9 (fun p hp => by repeat' (first | exact hp | refine List.Mem.tail _ ?_)))))))
      case j1x => exact NeA.of (by k_ne)
      case j2x => exact NeA.of (by k_ne)
      case j3x => exact List.forall_mem_cons.mpr ⟨by k_ne, List.forall_mem_cons.mpr ⟨by k_ne, ne3⟩⟩
      case j4x => exact ri_snoc hri (by assumption)
      case j9x => assumption
      case j10x => assumption
      case j11x => show (vs ++ [_]).length + k < 200; rw [List.length_append, List.length_singleton]; omega
      case j12x => exact a3
      case j13x => have := sbL_length_le rest' (deL left'); show (sbL rest' (deL left')).length < 100; omega
    | @skip k left rest part left' rest' many found out h1 a1 a2 a3 a4 h2 h3 h4 h5 h6 h7 =>
      have b1 : (deL left').length < 100 := by rw [deL_length]; omega
      have h6 : ∀ n ∈ left', ∀ k : Int, 0 ≤ k → k < 1000 → IntMulOk n k := h6
      k_steps
      refine IH (k, left', sbL rest' (deL left'), many + 1, found) _ _ _ (Nat.lt_succ_self _) (by assumption) ?_
      have N9 := (by assumption : News s.heap L' _ (_ :: _ :: _ :: _ :: _ :: _))
      refine' ⟨_, ⟨_, vs, _, _, _, _, _, _, _, _, items, rfl, ?j1y, ?j2y, ?j3y, ?j4y, ?j5y, ?j6y, ?j7y, ?j8y, ?j9y, ?j10y, ?j11y, ?j12y, ?j13y, h7⟩, ?jNy⟩
      case j5y => with_unfolding_all rfl
      case j6y => with_unfolding_all rfl
      case j7y => with_unfolding_all rfl
      case j8y => with_unfolding_all rfl
      case jNy => exact news_c N9 (by k_mem) (news_c N9 (by k_mem) (news_c N9 (by k_mem) (news_all N9 (fun p hp => by repeat' (first | exact hp | refine List.Mem.tail _ ?_)))))
      case j1y => exact NeA.of (by k_ne)
      case j2y => exact NeA.of (by k_ne)
      case j3y => exact ne3
      case j4y => exact hri
      case j9y => assumption
      case j10y => assumption
      case j11y => show vs.length + k < 200; omega
      case j12y => exact a3
      case j13y => have := sbL_length_le rest' (deL left'); show (sbL rest' (deL left')).length < 100; omega

/-! for loops by an invariant over the turn's number, the map and the ledger -/
section
variable {prog : Program} {w : World} {A : Around} {E : Value → Shared → Prop} {s : Shared} {env : Env} {h₀ : Heap} {body : List Stmt} {Q : Flow → Shared → Prop}
def Stop (P : Prop) : Prop := P
theorem stop_out {P : Prop} (h : Stop P) : P := h
theorem stop_in {P : Prop} (h : P) : Stop P := h
def FEnd (h₀ : Heap) (L : Addr) (own : List (Addr × Obj)) (J : (Str → Option Value) → List (Addr × Obj) → Prop) (s₁ : Shared) (s₂ : Shared) : Prop :=
  ∃ h' tk m' news', s₂ = { s₁ with heap := h', toks := tk } ∧ Fr h₀ L h' m' ∧ News h₀ L h' (own ++ news') ∧ (∀ p ∈ news', ∀ q ∈ own, p.1 ≠ q.1) ∧ J m' news'
def FPost (h₀ : Heap) (L : Addr) (own : List (Addr × Obj)) (J : (Str → Option Value) → List (Addr × Obj) → Prop) (s₁ : Shared) (Q : Flow → Shared → Prop) (f : Flow) (s₂ : Shared) : Prop :=
  match f with
  | .next => FEnd h₀ L own J s₁ s₂
  | .cont => FEnd h₀ L own J s₁ s₂
  | .brk => Q .next s₂
  | .ret v => Q (.ret v) s₂
theorem fend_U {L : Addr} {wr : List Addr} {own own' : List (Addr × Obj)} {J : (Str → Option Value) → List (Addr × Obj) → Prop} {s₁ s₂ : Shared}
    (hs : ∀ p ∈ own, p ∈ own') (hw : ∀ b ∈ wr, ∃ q ∈ own', q.1 = b) (h : FEnd h₀ L own' J s₁ s₂) : LoopStepU h₀ L wr own J s₁ .next s₂ := by
  obtain ⟨h', tk, m', news', e, F, N, ha, hJ⟩ := h
  refine ⟨rfl, h', tk, m', news', e, F, fun p hp => ?_, fun p hp hb => ?_, hJ⟩
  · rcases List.mem_append.mp hp with hp | hp
    · exact N p (List.mem_append_left _ (hs p hp))
    · exact N p (List.mem_append_right _ hp)
  · obtain ⟨q, hq, e⟩ := hw _ hb
    exact ha p hp q hq e.symm
theorem fpost_V {L : Addr} {wr : List Addr} {own own' : List (Addr × Obj)} {J : (Str → Option Value) → List (Addr × Obj) → Prop} {s₁ s₂ : Shared} {f : Flow}
    (hs : ∀ p ∈ own, p ∈ own') (hw : ∀ b ∈ wr, ∃ q ∈ own', q.1 = b) (h : FPost h₀ L own' J s₁ Q f s₂) : LoopStepV h₀ L wr own J s₁ (fun v s' => Q (.ret v) s') (fun s' => Q .next s') f s₂ := by
  cases f with
  | next => exact fend_U hs hw h
  | cont => exact fend_U hs hw h
  | brk => exact h
  | ret v => exact h
theorem get_new {h h₀ : Heap} {L b : Addr} {m : Str → Option Value} (F : Fr h₀ L h m) (hb : h.objs.size ≤ b) : h₀.get? b = none := by
  cases q : h₀.get? b with
  | none => rfl
  | some o => exact absurd (Heap.lt_size (F.keep _ _ q)) (Nat.not_lt.mpr hb)

theorem for_enum {x y : Str} {px py tp : Pos} {kk : Nat} {l : Addr} {vs : List Value} {ns : List Int} {m₀ : Str → Option Value} (J : Nat → (Str → Option Value) → List (Addr × Obj) → Prop)
    (hh : A.handled = none) (hl : h₀.IsList l vs.toArray) (hi : IntsAre vs ns) (F : Fr h₀ env.locals s.heap m₀) (hJN : ∃ news, J 0 m₀ news ∧ News h₀ env.locals s.heap news)
    (hx : env.kindOf x = some .local) (hy : env.kindOf y = some .local) (hp : (env.scope.kind == .class || (env.scope.kind == .module && env.locals != env.globals)) = false)
    (turn : ∀ (i : Nat) (n : Int) (t u : Tok) (m₁ : Str → Option Value) (nx : List (Addr × Obj)) (h : Heap) (tk : Nat) (e it : Addr) (oe oi : Obj), ns[i]? = some n → (∀ p ∈ nx, p.1 ≠ e) → (∀ p ∈ nx, p.1 ≠ it) → J i m₁ nx →
      Fr h₀ env.locals h (fun z => if z = y then some (.int n t) else if z = x then some (.int (i : Int) u) else m₁ z) → News h₀ env.locals h ((e, oe) :: (it, oi) :: nx) →
      wpAny (model prog w) A (execs body env) (FPost h₀ env.locals [(e, oe), (it, oi)] (J (i + 1)) { s with heap := h, toks := tk } Q) E { s with heap := h, toks := tk })
    (done : ∀ (m₁ : Str → Option Value) (nx : List (Addr × Obj)) (h : Heap) (tk : Nat), J ns.length m₁ nx → Fr h₀ env.locals h m₁ → News h₀ env.locals h nx → Q .next { s with heap := h, toks := tk }) :
    wpAny (model prog w) A (call (.type "enumerate") [.ref l]) (fun xv s₁ => wpAny (model prog w) A (pyIter xv) (fun it s₂ => TurnsAt prog w A h₀ env (.Tuple [.Name x px, .Name y py] kk tp) body Q E it s₂) E s₁) E s := by
  obtain ⟨news, hj, N⟩ := hJN
  have hls : s.heap.IsList l vs.toArray := hl.at fun o e => F.keep l o e
  obtain ⟨ol, hol, _⟩ := id hl
  have hlt : l < s.heap.objs.size := Heap.lt_size (F.keep _ _ hol)
  have hlen : vs.toArray.size = ns.length := by simp [hi.length]
  refine call_enumerate_list hls fun h' hE hI hz hk => ?_
  refine wpAny_pyIter_enum hE ?_
  have W := WalksT.enumerate (prog := prog) (w := w) hh (s.heap.objs.size + 1) s.heap.objs.size l (Nat.succ_ne_self _) (Nat.ne_of_lt (Nat.lt_succ_of_lt hlt)) (Nat.ne_of_lt hlt) vs.toArray
  rw [hlen] at W
  have hLs : env.locals < s.heap.objs.size := F.ns.lt
  refine ⟨_, _, _, ns.length, _, _, _, m₀, news, J, rfl, KTurns.ofWalksU W.toU, ?_, ?_, ?_, ⟨⟨_, hE⟩, hI, hls.at fun o q => hk _ o q⟩, F.keeps hk, N.grown hk, hj, ?_, ?_⟩
  · intro hm
    rcases List.mem_cons.mp hm with q | hm
    · exact absurd hLs (by rw [q]; exact Nat.not_lt.mpr (Nat.le_succ _))
    · rcases List.mem_cons.mp hm with q | hm
      · exact absurd hLs (by rw [q]; exact Nat.lt_irrefl _)
      · have q := List.mem_singleton.mp hm
        have := F.above
        rw [q] at this
        exact absurd (Heap.lt_size hol) (Nat.not_lt.mpr this)
  · intro b hb
    rcases List.mem_cons.mp hb with rfl | hb
    · exact get_new F (Nat.le_succ _)
    · rw [List.mem_singleton.mp hb]; exact get_new F (Nat.le_refl _)
  · intro p hpn hb
    have := Heap.lt_size (N p hpn).1
    rcases List.mem_cons.mp hb with q | hb
    · rw [q] at this; exact absurd this (Nat.not_lt.mpr (Nat.le_succ _))
    · rw [List.mem_singleton.mp hb] at this; exact absurd this (Nat.lt_irrefl _)
  · rintro i v m₁ nx h₁ tk₁ own hin ⟨T, vals, rfl, ⟨t, x', hv, rfl⟩, hT⟩ hJ hnw hofp hown hmem hst F₁ N₁
    obtain ⟨⟨old, he⟩, ⟨oi, hoi, hic, hid⟩, _⟩ := hst
    obtain ⟨n, t', rfl, _, _⟩ := ints_get' hi i x' (by simpa using hv)
    have hoe : ∃ oe, h₁.get? (s.heap.objs.size + 1) = some oe := ⟨_, he⟩
    obtain ⟨oe, hoe⟩ := hoe
    have hsub : ∀ p ∈ own, p ∈ [(s.heap.objs.size + 1, oe), (s.heap.objs.size, oi)] := by
      intro p hp
      have h1 := hown p hp
      rcases List.mem_cons.mp (hofp p hp) with q | hb
      · rw [q, hoe] at h1
        exact List.mem_cons.mpr (.inl (Prod.ext q (Option.some.inj h1).symm))
      · rcases List.mem_cons.mp hb with q | hb
        · rw [q, hoi] at h1
          exact List.mem_cons.mpr (.inr (List.mem_cons.mpr (.inl (Prod.ext q (Option.some.inj h1).symm))))
        · have q := List.mem_singleton.mp hb
          have := (N₁ p (List.mem_append_left _ hp)).2.2
          rw [q, hol] at this
          cases this
    have hwr : ∀ b ∈ [s.heap.objs.size + 1, s.heap.objs.size], ∃ q ∈ [(s.heap.objs.size + 1, oe), (s.heap.objs.size, oi)], q.1 = b := by
      intro b hb
      rcases List.mem_cons.mp hb with rfl | hb
      · exact ⟨_, .head _, rfl⟩
      · rw [List.mem_singleton.mp hb]; exact ⟨_, .tail _ (.head _), rfl⟩
    have ge : h₀.get? (s.heap.objs.size + 1) = none := get_new F (Nat.le_succ _)
    have gi : h₀.get? s.heap.objs.size = none := get_new F (Nat.le_refl _)
    have N₂ : News h₀ env.locals h₁ ((s.heap.objs.size + 1, oe) :: (s.heap.objs.size, oi) :: nx) := by
      intro p hp
      rcases List.mem_cons.mp hp with rfl | hp
      · exact ⟨hoe, fun q => absurd hLs (by have q : s.heap.objs.size + 1 = env.locals := q; rw [← q]; exact Nat.not_lt.mpr (Nat.le_succ _)), ge⟩
      · rcases List.mem_cons.mp hp with rfl | hp
        · exact ⟨hoi, fun q => absurd hLs (by have q : s.heap.objs.size = env.locals := q; rw [← q]; exact Nat.lt_irrefl _), gi⟩
        · exact N₁ p (List.mem_append_right _ hp)
    refine assign_Tuple_tuple hh hT rfl rfl fun h₄ he₄ => ?_
    have up : ∀ b o, h₁.get? b = some o → h₄.get? b = some o := fun b o q => he₄ b o (Nat.ne_of_lt (Heap.lt_size q)) q
    have F₄ := F₁.keeps up
    have N₄ := N₂.grown up
    refine assignInOrder_cons (wpAny_assign_Name (wpAny_storeName_local hx F₄.ns (fun h₅ hn₅ hs₅ => ?_) hp))
    have F₅ := F₄.set hn₅ hs₅
    have N₅ := N₄.set hs₅
    refine assignInOrder_cons (wpAny_assign_Name (wpAny_storeName_local hy F₅.ns (fun h₆ hn₆ hs₆ => ?_) hp))
    refine assignInOrder_nil ?_
    refine wpAny_mono (turn i n t' t m₁ nx h₆ _ _ _ oe oi ?_ (fun p hp q => hnw p hp (by rw [q]; exact .head _)) (fun p hp q => hnw p hp (by rw [q]; exact .tail _ (.head _))) hJ (F₅.set hn₆ hs₆) (N₅.set hs₆)) (fun f s₂ q => ?_) fun _ _ e => e
    · assumption
    · exact fpost_V hsub hwr q
  · intro h' tk m' news' F' N' _ hJ
    exact done m' news' h' tk hJ F' N'
theorem small_1 {a b : Int} (ha : -1000 ≤ a) (ha2 : a ≤ 1000) (hb : -1000 ≤ b) (hb2 : b ≤ 1000) : Builtin.Range.small a b 1 = true := by
  have hs : Builtin.Range.rangeSize a b 1 = if a < b then b - a else 0 := rangeSize_one a b
  have f : ∀ x : Int, -3000 ≤ x → x ≤ 3000 → Builtin.Range.rangeFitsLong x = true := by
    intro x h1 h2
    unfold Builtin.Range.rangeFitsLong
    simp only [Bool.and_eq_true, decide_eq_true_eq]
    constructor <;> omega
  unfold Builtin.Range.small
  rw [hs, f a (by omega) (by omega), f b (by omega) (by omega), f 1 (by omega) (by omega), f (if a < b then b - a else 0) (by split <;> omega) (by split <;> omega),
    show (if (1 : Int) > 0 then Builtin.Range.rangeFitsLong (b + (1 - 1)) else Builtin.Range.rangeFitsLong (b + (1 + 1))) = true from by rw [if_pos (by decide)]; exact f _ (by omega) (by omega)]
  simp
theorem for_range_iter {x : Str} {px : Pos} {r : Addr} {a b : Int} {t u v : Tok} {m₀ : Str → Option Value} (J : Nat → (Str → Option Value) → List (Addr × Obj) → Prop)
    (hh : A.handled = none) (hr : IsRange s.heap r a b 1 t u v) (ha : -1000 ≤ a) (ha2 : a ≤ 1000) (hb : -1000 ≤ b) (hb2 : b ≤ 1000) (F : Fr h₀ env.locals s.heap m₀) (hJN : ∃ news, J 0 m₀ news ∧ News h₀ env.locals s.heap news)
    (hx : env.kindOf x = some .local) (hp : (env.scope.kind == .class || (env.scope.kind == .module && env.locals != env.globals)) = false)
    (turn : ∀ (i : Nat) (t : Tok) (m₁ : Str → Option Value) (nx : List (Addr × Obj)) (h : Heap) (tk : Nat) (it : Addr) (oi : Obj), i < (b - a).toNat → (∀ p ∈ nx, p.1 ≠ it) → J i m₁ nx →
      Fr h₀ env.locals h (fun z => if z = x then some (.int (a + (i : Int)) t) else m₁ z) → News h₀ env.locals h ((it, oi) :: nx) →
      wpAny (model prog w) A (execs body env) (FPost h₀ env.locals [(it, oi)] (J (i + 1)) { s with heap := h, toks := tk } Q) E { s with heap := h, toks := tk })
    (done : ∀ (m₁ : Str → Option Value) (nx : List (Addr × Obj)) (h : Heap) (tk : Nat), J (b - a).toNat m₁ nx → Fr h₀ env.locals h m₁ → News h₀ env.locals h nx → Q .next { s with heap := h, toks := tk }) :
    wpAny (model prog w) A (pyIter (.ref r)) (fun it s₂ => TurnsAt prog w A h₀ env (.Name x px) body Q E it s₂) E s := by
  obtain ⟨news, hj, N⟩ := hJN
  refine wpAny_pyIter_range hr (small_1 ha ha2 hb hb2) ?_
  have hs : Builtin.Range.rangeSize a b 1 = ((b - a).toNat : Int) := rangeSize_nat a b
  rw [hs]
  have W := Walks.range (prog := prog) (w := w) hh s.heap.objs.size a 1 (b - a).toNat
  have hLs : env.locals < s.heap.objs.size := F.ns.lt
  refine ⟨_, _, _, (b - a).toNat, _, _, _, m₀, news, J, rfl, KTurns.ofWalks W (fun i v s Q E _ q => ?_), ?_, ?_, ?_, ?_, F.push _, (fun p hp => ⟨Heap.get?_push_of_some _ (N p hp).1, (N p hp).2⟩), hj, ?_, ?_⟩
  · exact wpAny_pure q
  · intro hm
    rw [List.mem_singleton.mp hm] at hLs
    exact Nat.lt_irrefl _ hLs
  · intro b hb
    rw [List.mem_singleton.mp hb]; exact get_new F (Nat.le_refl _)
  · intro p hpn hb
    have := Heap.lt_size (N p hpn).1
    rw [List.mem_singleton.mp hb] at this; exact absurd this (Nat.lt_irrefl _)
  · show (s.heap.push _).get? _ = _
    rw [Heap.get?_push_size _ rfl]
    simp
  · rintro i v m₁ nx h₁ tk₁ own hin ⟨t', rfl⟩ hJ hnw hofp hown hmem hst F₁ N₁
    have hoi : ∃ oi, h₁.get? s.heap.objs.size = some oi := ⟨_, hst⟩
    obtain ⟨oi, hoi⟩ := hoi
    have hsub : ∀ p ∈ own, p ∈ [(s.heap.objs.size, oi)] := by
      intro p hp
      have h1 := hown p hp
      have q := List.mem_singleton.mp (hofp p hp)
      rw [q, hoi] at h1
      exact List.mem_singleton.mpr (Prod.ext q (Option.some.inj h1).symm)
    have hwr : ∀ b ∈ [s.heap.objs.size], ∃ q ∈ [(s.heap.objs.size, oi)], q.1 = b := by
      intro b hb
      rw [List.mem_singleton.mp hb]; exact ⟨_, .head _, rfl⟩
    have N₂ : News h₀ env.locals h₁ ((s.heap.objs.size, oi) :: nx) := by
      intro p hp
      rcases List.mem_cons.mp hp with rfl | hp
      · exact ⟨hoi, fun q => absurd hLs (by have q : s.heap.objs.size = env.locals := q; rw [← q]; exact Nat.lt_irrefl _), get_new F (Nat.le_refl _)⟩
      · exact N₁ p (List.mem_append_right _ hp)
    refine wpAny_assign_Name (wpAny_storeName_local hx F₁.ns (fun h₅ hn₅ hs₅ => ?_) hp)
    have F₅ := F₁.set hn₅ hs₅
    rw [Int.mul_one] at F₅
    refine wpAny_mono (turn i t' m₁ nx h₅ _ _ oi hin (fun p hp q => hnw p hp (by rw [q]; exact .head _)) hJ F₅ (N₂.set hs₅)) (fun f s₂ q => ?_) fun _ _ e => e
    exact fpost_V hsub hwr q
  · intro h' tk m' news' F' N' _ hJ
    exact done m' news' h' tk hJ F' N'
theorem own_list {h : Heap} : ∀ wn : List Addr, (∀ b ∈ wn, ∃ o, h.get? b = some o) → ∃ ow : List (Addr × Obj), ow.map (·.1) = wn ∧ ∀ p ∈ ow, h.get? p.1 = some p.2
  | [], _ => ⟨[], rfl, fun _ hp => nomatch hp⟩
  | b :: r, hb => by
    obtain ⟨ow, h1, h2⟩ := own_list r fun c hc => hb c (.tail _ hc)
    obtain ⟨o, ho⟩ := hb b (.head _)
    refine ⟨(b, o) :: ow, by rw [List.map_cons, h1], fun p hp => ?_⟩
    rcases List.mem_cons.mp hp with rfl | hp
    · exact ho
    · exact h2 p hp
theorem for_walks {target : PySem.Expr} {I : Addr} {fp wr wn : List Addr} {n : Nat} {P Md : Nat → Value → Heap → Prop} {St : Nat → Heap → Prop} {m₀ : Str → Option Value} {news : List (Addr × Obj)} (W : KTurns prog w A target I fp wr n P Md St) (J : Nat → (Str → Option Value) → List (Addr × Obj) → Prop)
    (hfp : ∀ b ∈ fp, b ∈ wn ∨ ∃ o, h₀.get? b = some o) (hwr : ∀ b ∈ wr, b ∈ wn) (hwn : ∀ b ∈ wn, h₀.get? b = none ∧ b ≠ env.locals ∧ ∀ p ∈ news, p.1 ≠ b) (hex : ∀ i h, St i h → ∀ b ∈ wn, ∃ o, h.get? b = some o)
    (hst : St 0 s.heap) (F : Fr h₀ env.locals s.heap m₀) (N : News h₀ env.locals s.heap news) (hj : J 0 m₀ news)
    (turn : ∀ (i : Nat) (v : Value) (m₁ : Str → Option Value) (nx ow : List (Addr × Obj)) (h : Heap) (tk : Nat), i < n → P i v h → (∀ p ∈ nx, ∀ q ∈ ow, p.1 ≠ q.1) → J i m₁ nx → Fr h₀ env.locals h m₁ → News h₀ env.locals h (nx ++ ow) →
      wpAny (model prog w) A (assign target env v) (fun _ s₃ => wpAny (model prog w) A (execs body env) (FPost h₀ env.locals ow (J (i + 1)) { s with heap := h, toks := tk } Q) E s₃) E { s with heap := h, toks := tk })
    (done : ∀ (m₁ : Str → Option Value) (nx : List (Addr × Obj)) (h : Heap) (tk : Nat), J n m₁ nx → Fr h₀ env.locals h m₁ → News h₀ env.locals h nx → Q .next { s with heap := h, toks := tk }) :
    TurnsAt prog w A h₀ env target body Q E (.ref I) s := by
  have hLf : env.locals ∉ fp := fun hm => by
    rcases hfp _ hm with q | ⟨o, q⟩
    · exact (hwn _ q).2.1 rfl
    · have := F.above
      exact absurd (Heap.lt_size q) (Nat.not_lt.mpr this)
  refine ⟨I, fp, wr, n, P, Md, St, m₀, news, fun i m nx => (∀ p ∈ nx, p.1 ∉ wn) ∧ J i m nx, rfl, W, hLf, fun b hb => (hwn b (hwr b hb)).1, fun p hp hb => (hwn _ (hwr _ hb)).2.2 p hp rfl, hst, F, N, ⟨fun p hp hb => (hwn _ hb).2.2 p hp rfl, hj⟩, ?_, fun h' tk m' news' F' N' _ hJ => done m' news' h' tk hJ.2 F' N'⟩
  rintro i v m₁ nx h₁ tk₁ own hin hP ⟨hnn, hJ⟩ hnw hofp hown hmem hst' F₁ N₁
  obtain ⟨ow, e1, e2⟩ := own_list wn (hex _ _ hst')
  have hmw : ∀ p ∈ ow, p.1 ∈ wn := fun p hp => e1 ▸ List.mem_map_of_mem hp
  have hsub : ∀ p ∈ own, p ∈ ow := by
    intro p hp
    rcases hfp _ (hofp p hp) with q | ⟨o, q⟩
    · rw [← e1] at q
      obtain ⟨p', hp', e⟩ := List.mem_map.mp q
      have := e2 p' hp'
      rw [e, hown p hp] at this
      have ee : p' = p := Prod.ext e (Option.some.inj this).symm
      exact ee ▸ hp'
    · have := (N₁ p (List.mem_append_left _ hp)).2.2
      rw [q] at this
      cases this
  have hwr' : ∀ b ∈ wr, ∃ q ∈ ow, q.1 = b := by
    intro b hb
    have := hwr b hb
    rw [← e1] at this
    exact List.mem_map.mp this
  have hap : ∀ p ∈ nx, ∀ q ∈ ow, p.1 ≠ q.1 := fun p hp q hq e => hnn p hp (e ▸ hmw q hq)
  have hup : ∀ s₂, FEnd h₀ env.locals ow (J (i + 1)) { s with heap := h₁, toks := tk₁ } s₂ → FEnd h₀ env.locals ow (fun m nx => (∀ p ∈ nx, p.1 ∉ wn) ∧ J (i + 1) m nx) { s with heap := h₁, toks := tk₁ } s₂ := by
    rintro s₂ ⟨h', tk, m', news', e, F', N', ha, hJ'⟩
    refine ⟨h', tk, m', news', e, F', N', ha, fun p hp hb => ?_, hJ'⟩
    rw [← e1] at hb
    obtain ⟨q, hq, e⟩ := List.mem_map.mp hb
    exact ha p hp q hq e.symm
  have hps : ∀ f s₂, FPost h₀ env.locals ow (J (i + 1)) { s with heap := h₁, toks := tk₁ } Q f s₂ → FPost h₀ env.locals ow (fun m nx => (∀ p ∈ nx, p.1 ∉ wn) ∧ J (i + 1) m nx) { s with heap := h₁, toks := tk₁ } Q f s₂ := by
    intro f s₂ q
    cases f with
    | next => exact hup _ q
    | cont => exact hup _ q
    | brk => exact q
    | ret v => exact q
  refine wpAny_mono (turn i v m₁ nx ow h₁ tk₁ hin hP hap hJ F₁ fun p hp => ?_) (fun _ s₃ q => wpAny_mono q (fun f s₂ r => fpost_V hsub hwr' (hps f s₂ r)) fun _ _ e => e) fun _ _ e => e
  rcases List.mem_append.mp hp with hp | hp
  · exact N₁ p (List.mem_append_right _ hp)
  · exact ⟨e2 p hp, (hwn _ (hmw p hp)).2.1, (hwn _ (hmw p hp)).1⟩
theorem for_zip {x y : Str} {px py tp : Pos} {kk : Nat} {l₁ l₂ : Addr} {ps vs : List Value} {ns : List Int} {m₀ : Str → Option Value} (J : Nat → (Str → Option Value) → List (Addr × Obj) → Prop)
    (hh : A.handled = none) (hl₁ : h₀.IsList l₁ ps.toArray) (hl₂ : h₀.IsList l₂ vs.toArray) (hi : IntsAre vs ns) (hlen : ps.length = ns.length) (F : Fr h₀ env.locals s.heap m₀) (hJN : ∃ news, J 0 m₀ news ∧ News h₀ env.locals s.heap news)
    (hx : env.kindOf x = some .local) (hy : env.kindOf y = some .local) (hp : (env.scope.kind == .class || (env.scope.kind == .module && env.locals != env.globals)) = false)
    (turn : ∀ (i : Nat) (v : Value) (n : Int) (t : Tok) (m₁ : Str → Option Value) (nx ow : List (Addr × Obj)) (h : Heap) (tk : Nat), ps[i]? = some v → ns[i]? = some n → (∀ p ∈ nx, ∀ q ∈ ow, p.1 ≠ q.1) → J i m₁ nx →
      Fr h₀ env.locals h (fun z => if z = y then some (.int n t) else if z = x then some v else m₁ z) → News h₀ env.locals h (nx ++ ow) →
      wpAny (model prog w) A (execs body env) (FPost h₀ env.locals ow (J (i + 1)) { s with heap := h, toks := tk } Q) E { s with heap := h, toks := tk })
    (done : ∀ (m₁ : Str → Option Value) (nx : List (Addr × Obj)) (h : Heap) (tk : Nat), J ns.length m₁ nx → Fr h₀ env.locals h m₁ → News h₀ env.locals h nx → Q .next { s with heap := h, toks := tk }) :
    wpAny (model prog w) A (call (.type "zip") [.ref l₁, .ref l₂]) (fun xv s₁ => wpAny (model prog w) A (pyIter xv) (fun it s₂ => TurnsAt prog w A h₀ env (.Tuple [.Name x px, .Name y py] kk tp) body Q E it s₂) E s₁) E s := by
  obtain ⟨news, hj, N⟩ := hJN
  have hs₁ : s.heap.IsList l₁ ps.toArray := hl₁.at fun o e => F.keep l₁ o e
  have hs₂ : s.heap.IsList l₂ vs.toArray := hl₂.at fun o e => F.keep l₂ o e
  obtain ⟨o₁, ho₁, _⟩ := id hl₁
  obtain ⟨o₂, ho₂, _⟩ := id hl₂
  have hlt₁ : l₁ < s.heap.objs.size := Heap.lt_size (F.keep _ _ ho₁)
  have hlt₂ : l₂ < s.heap.objs.size := Heap.lt_size (F.keep _ _ ho₂)
  have hLs : env.locals < s.heap.objs.size := F.ns.lt
  have D : ZipApart (s.heap.objs.size + 4) (s.heap.objs.size + 2) (s.heap.objs.size + 3) s.heap.objs.size (s.heap.objs.size + 1) l₁ l₂ := ktu_apart _ _ _ hlt₁ hlt₂
  refine call_zip_2 hs₁ hs₂ fun h' hz hTI hTO hi1 hi2 hsz hk => ?_
  refine wpAny_pyIter_zip hz ?_
  have W := WalksT.zip2 (prog := prog) (w := w) hh _ _ _ _ _ _ _ D ps.toArray vs.toArray
  have hn : min ps.toArray.size vs.toArray.size = ns.length := by simp [hi.length, hlen]
  rw [hn] at W
  have big : ∀ b ∈ [s.heap.objs.size + 4, s.heap.objs.size + 2, s.heap.objs.size + 3, s.heap.objs.size, s.heap.objs.size + 1], s.heap.objs.size ≤ b := by
    intro b hb
    simp only [List.mem_cons, List.not_mem_nil, or_false] at hb
    rcases hb with rfl | rfl | rfl | rfl | rfl
    · exact Nat.le_add_right _ _
    · exact Nat.le_add_right _ _
    · exact Nat.le_add_right _ _
    · exact Nat.le_refl _
    · exact Nat.le_add_right _ _
  refine for_walks (wn := [s.heap.objs.size + 4, s.heap.objs.size + 2, s.heap.objs.size + 3, s.heap.objs.size, s.heap.objs.size + 1]) (KTurns.ofWalksU W.toU) J ?_ ?_ ?_ ?_ ⟨hz, hTI, ⟨_, _, hTO⟩, hi1, hi2, hs₁.at fun o e => hk _ o e, hs₂.at fun o e => hk _ o e⟩ (F.keeps hk) (N.grown hk) hj ?_ done
  · intro b hb
    simp only [List.mem_cons, List.not_mem_nil, or_false] at hb ⊢
    rcases hb with rfl | rfl | rfl | rfl | rfl | rfl | rfl
    · exact .inl (by simp)
    · exact .inl (by simp)
    · exact .inl (by simp)
    · exact .inl (by simp)
    · exact .inl (by simp)
    · exact .inr ⟨_, ho₁⟩
    · exact .inr ⟨_, ho₂⟩
  · intro b hb
    simp only [List.mem_cons, List.not_mem_nil, or_false] at hb ⊢
    rcases hb with rfl | rfl | rfl | rfl <;> simp
  · intro b hb
    have := big b hb
    exact ⟨get_new F this, fun e => absurd hLs (by rw [← e]; exact Nat.not_lt.mpr this), fun p hp e => absurd (Heap.lt_size (N p hp).1) (by rw [e]; exact Nat.not_lt.mpr this)⟩
  · rintro i h ⟨q1, q2, ⟨_, _, q3⟩, ⟨o4, q4, _⟩, ⟨o5, q5, _⟩, _, _⟩ b hb
    simp only [List.mem_cons, List.not_mem_nil, or_false] at hb
    rcases hb with rfl | rfl | rfl | rfl | rfl
    · exact ⟨_, q1⟩
    · exact ⟨_, q2⟩
    · exact ⟨_, q3⟩
    · exact ⟨_, q4⟩
    · exact ⟨_, q5⟩
  · rintro i v m₁ nx ow h₁ tk₁ hin ⟨T, vals, rfl, ⟨u, v', hu, hv, rfl⟩, hT⟩ hap hJ F₁ N₁
    obtain ⟨n, t', rfl, hnn, _⟩ := ints_get' hi i v' (by simpa using hv)
    refine assign_Tuple_tuple hh hT rfl rfl fun h₄ he₄ => ?_
    have up : ∀ b o, h₁.get? b = some o → h₄.get? b = some o := fun b o q => he₄ b o (Nat.ne_of_lt (Heap.lt_size q)) q
    have F₄ := F₁.keeps up
    have N₄ := N₁.grown up
    refine assignInOrder_cons (wpAny_assign_Name (wpAny_storeName_local hx F₄.ns (fun h₅ hn₅ hs₅ => ?_) hp))
    have F₅ := F₄.set hn₅ hs₅
    have N₅ := N₄.set hs₅
    refine assignInOrder_cons (wpAny_assign_Name (wpAny_storeName_local hy F₅.ns (fun h₆ hn₆ hs₆ => ?_) hp))
    refine assignInOrder_nil ?_
    exact turn i u n t' m₁ nx ow h₆ _ (by simpa using hu) hnn hap hJ (F₅.set hn₆ hs₆) (N₅.set hs₆)
end

section
/-! evaluation: a list is what it gives at every int -/
def ev : List Int → Int → Int
  | [], _ => 0
  | c :: t, x => c + x * ev t x
theorem ev_append (a b : List Int) (x : Int) : ev (a ++ b) x = ev a x + x ^ a.length * ev b x := by
  induction a with
  | nil => simp [ev]
  | cons c t ih => simp only [List.cons_append, ev, ih, List.length_cons, Int.pow_succ]; grind
theorem ev_zeros (k : Nat) (x : Int) : ev (List.replicate k 0) x = 0 := by
  induction k with
  | zero => rfl
  | succ k ih => simp [List.replicate_succ, ev, ih]
theorem ev_take_succ (a : List Int) (x : Int) (i : Nat) {n : Int} (h : a[i]? = some n) : ev (a.take (i + 1)) x = ev (a.take i) x + x ^ i * n := by
  have hi : i < a.length := by
    rcases Nat.lt_or_ge i a.length with q | q
    · exact q
    · rw [List.getElem?_eq_none q] at h; cases h
  rw [List.take_succ_eq_append_getElem hi, ev_append, List.length_take, Nat.min_eq_left (Nat.le_of_lt hi)]
  have e : a[i] = n := by rw [List.getElem?_eq_getElem hi] at h; exact Option.some.inj h
  simp only [ev, e]
  grind
theorem ev_set (l : List Int) (x v : Int) : ∀ k : Nat, k < l.length → ev (l.set k v) x = ev l x + x ^ k * (v - l.getD k 0) := by
  induction l with
  | nil => intro k h; exact absurd h (Nat.not_lt_zero _)
  | cons c t ih =>
    intro k h
    cases k with
    | zero => simp [ev]; grind
    | succ k =>
      have := ih k (by simpa using h)
      simp only [List.set_cons_succ, ev, this, List.getD_cons_succ, Int.pow_succ]
      grind
theorem ev_sum (x : Int) : ∀ a b : List Int, ev (sumL a b) x = ev a x + ev b x
  | [], b => by simp [sumL, ev]
  | c :: a, [] => by simp [sumL, ev]
  | c :: a, d :: b => by simp only [sumL, ev, ev_sum x a b]; grind
theorem ev_map_mul (k x : Int) (a : List Int) : ev (a.map fun y => y * k) x = ev a x * k := by
  induction a with
  | nil => simp [ev]
  | cons c t ih => simp only [List.map_cons, ev, ih]; grind
/-- a list whose value is 0 from some int on is a list of zeros -/
theorem ev_zero (p : List Int) : ∀ N : Int, (∀ x, N ≤ x → ev p x = 0) → ∀ c ∈ p, c = 0 := by
  induction p with
  | nil => intro _ _ c hc; cases hc
  | cons d t ih =>
    intro N h
    have hd : d = 0 := by
      have hx := h (max N (d.natAbs + 1)) (Int.le_max_left ..)
      simp only [ev] at hx
      have hdvd : (max N ((d.natAbs : Int) + 1)) ∣ d := ⟨-ev t (max N (d.natAbs + 1)), by rw [Int.mul_neg]; omega⟩
      rcases Int.natAbs_eq_zero.mp (Nat.eq_zero_of_dvd_of_lt (Int.natAbs_dvd_natAbs.mpr hdvd) (by omega)) with q
      exact q
    subst hd
    have ht : ∀ x, max N 1 ≤ x → ev t x = 0 := by
      intro x hx
      have := h x (by omega)
      simp only [ev, Int.zero_add] at this
      rcases Int.mul_eq_zero.mp this with q | q
      · omega
      · exact q
    intro c hc
    rcases List.mem_cons.mp hc with rfl | hc
    · rfl
    · exact ih _ ht c hc
theorem ev_ext {a b : List Int} (hl : a.length = b.length) (h : ∀ x, ev a x = ev b x) : a = b := by
  induction a generalizing b with
  | nil => exact (List.eq_nil_of_length_eq_zero (by simpa using hl.symm)).symm
  | cons c t ih =>
    cases b with
    | nil => cases hl
    | cons d r =>
      have z := ev_zero (sumL (c :: t) ((d :: r).map fun y => y * (-1))) 0 fun x _ => by
        rw [ev_sum, ev_map_mul, h x]; omega
      have hc : c = d := by
        have := z (c + d * (-1)) (by simp [sumL])
        omega
      subst hc
      have ht : ∀ x, ev t x = ev r x := by
        have z2 : ∀ x, ev (sumL t (r.map fun y => y * (-1))) x = 0 := by
          intro x
          have zz : ∀ (l : List Int), (∀ c ∈ l, c = 0) → ev l x = 0 := by
            intro l
            induction l with
            | nil => intro _; rfl
            | cons u v ihv =>
              intro hl
              rw [ev, hl u (by simp), ihv fun c hc => hl c (by simp [hc])]
              simp
          exact zz _ fun e he => z e (by rw [List.map_cons, sumL]; exact List.mem_cons_of_mem _ he)
        intro x
        have := z2 x
        rw [ev_sum, ev_map_mul] at this
        omega
      rw [ih (Nat.succ.inj hl) ht]
/-- the product -/
def mulL : List Int → List Int → List Int
  | [], _ => []
  | [c], b => b.map fun y => y * c
  | c :: t, b => sumL (b.map fun y => y * c) (0 :: mulL t b)
theorem ev_mul (x : Int) : ∀ a b : List Int, ev (mulL a b) x = ev a x * ev b x
  | [], b => by simp [mulL, ev]
  | [c], b => by simp only [mulL, ev, ev_map_mul]; grind
  | c :: d :: t, b => by
    have ih := ev_mul x (d :: t) b
    show ev (sumL (b.map fun y => y * c) (0 :: mulL (d :: t) b)) x = _
    rw [ev_sum, ev_map_mul]
    show ev b x * c + (0 + x * ev (mulL (d :: t) b) x) = (c + x * ev (d :: t) x) * ev b x
    rw [ih]
    grind
theorem mulL_length : ∀ a b : List Int, 0 < a.length → 0 < b.length → (mulL a b).length = a.length + b.length - 1
  | [], b, h, _ => absurd h (Nat.lt_irrefl _)
  | [c], b, _, hb => by simp [mulL]
  | c :: d :: t, b, _, hb => by
    have ih := mulL_length (d :: t) b (by simp) hb
    simp only [mulL, sumL_length, List.length_map, List.length_cons, ih] at ih ⊢
    omega
def powL (row p : List Int) : Nat → List Int
  | 0 => row
  | k + 1 => mulL (powL row p k) p
def builtL (row : List Int) : List (List Int) → List Int → List Int
  | p :: ps, t :: ts => builtL (powL row p t.toNat) ps ts
  | _, _ => row
theorem builtL_snoc (p : List Int) (t : Int) : ∀ (row : List Int) (ps : List (List Int)) (ts : List Int), ps.length = ts.length → builtL row (ps ++ [p]) (ts ++ [t]) = powL (builtL row ps ts) p t.toNat
  | row, [], [], _ => rfl
  | row, [], _ :: _, h => by cases h
  | row, _ :: _, [], h => by cases h
  | row, q :: ps, u :: ts, h => by
    simp only [List.cons_append, builtL]
    exact builtL_snoc p t _ ps ts (Nat.succ.inj h)

end
theorem kw_45 : True := by
  (k_with "exec For Tuple Call" => (k_here; k_dflt (refine For_turns (by k_asm) ?_)))
  trivial
theorem kw_46 : True := by
  (k_with "exec For Tuple Call cons nil" => (k_here; k_dflt (refine For_turns (by k_asm) ?_)))
  trivial
theorem kw_47 : True := by
  (k_with "FPost" => (dsimp only [FPost]))
  trivial
theorem kw_48 : True := by
  (k_with "call type:enumerate" => (k_here; (with_reducible show wpAny _ _ (call (Value.type _) [Value.ref _]) (fun xv s₁ => wpAny _ _ (pyIter xv) _ _ _) _ _); k_dflt (refine stop_out ?_)))
  trivial
theorem kw_49 : True := by
  (k_with "pyIter ref" => (k_here; (with_reducible show wpAny _ _ (pyIter (Value.ref _)) (fun it s₂ => TurnsAt _ _ _ _ _ _ _ _ _ it s₂) _ _); k_dflt (refine stop_out ?_)))
  trivial
set_option maxHeartbeats 8000000 in
theorem c_law_times {la lb : Addr} {va vb : List Value} {a b : List Int} (hi1 : IntsAre va a) (hi2 : IntsAre vb b) (hn1 : a.length < 100) (hn2 : b.length < 100) (h1 : 0 < a.length) (h2 : 0 < b.length) (hm : ∀ x ∈ a, ∀ y ∈ b, IntMulOk x y) :
    Con 199 10 [.ref la, .ref lb] (fun h => h.IsList la va.toArray ∧ h.IsList lb vb.toArray) (fun h h' r => NewL h h' r (mulL a b)) := by
  unfold Con PG
  k_fill
  intro w mean mg mb dp un gd cn cs af ccd cl outer A₀ base h₀ L m s Q E B F X T hk hp hd hu hret
  obtain ⟨hp1, hp2⟩ := hp
  refine wpAny_call ?_
  k_dflt (refine' code_def0 ?k1 ?k2 ?k3 ?k5 ?kA ?kF ?kK ?k6 ?k7 ?k8 ?k9 ?kB ?_ ?c2 ?c3 ?c4 ?c5; (case kA => exact rfl); (case kF => exact rfl); (case kK => assumption); (case k1 => k_asm); (case k2 => k_asm); (case k3 => k_asm); (case k5 => k_asm); (case k6 => k_is); (case k7 => k_is); (case k8 => ktr_room); (case k9 => exact BindsTo.of_eq rfl); (case c5 => decide); (case kB => exact locs rfl); (case c2 => exact rfl); (case c3 => exact rfl); (case c4 => exact rfl); k_whole)
  intro L' h' F' N' B' X' T'
  (try dsimp only)
  show (let v₂ : Env := _; let A₂ : Around := Around.deeper _ v₂; wpAny _ A₂ (execs _ v₂) _ _ _)
  intro v₂ A₂
  (try k_fold)
  k_steps
  refine stop_in ?_
  k_dflt (refine for_enum (J := fun i m news => ∃ R vs k row, news = [(R, listOf (List.toArray vs) k)] ∧ m "row" = some (.ref R) ∧ m "b" = some (.ref lb) ∧ IntsAre vs row ∧ row.length = a.length + b.length - 1 ∧ ∀ x, ev row x = ev (a.take i) x * ev b x) rfl hp1 hi1 (by assumption) ?hJ (by with_unfolding_all rfl) (by with_unfolding_all rfl) (by with_unfolding_all rfl) ?turn ?done)
  case hJ =>
    have N9 := (by assumption : News s.heap L' _ (_ :: _ :: _))
    have q6 := (by assumption : IntsAre _ (List.flatten _))
    refine' ⟨_, ⟨_, _, _, _, rfl, ?j1, ?j2, q6, ?j3, ?j4⟩, ?jN⟩
    case j1 => with_unfolding_all rfl
    case j2 => with_unfolding_all rfl
    case jN => exact news_1 N9 (by k_mem)
    case j3 => rw [flat_zeros, List.length_replicate]; omega
    case j4 => intro x; rw [flat_zeros, ev_zeros, List.take_zero]; simp [ev]
  case done =>
    rintro m₁ nx h tk ⟨R, vs, k, row, rfl, hm1, hm2, ir, hl, hev⟩ F' N'
    rw [map_at2 hm1 hm2] at F'
    (try dsimp only)
    (try k_fold)
    k_steps
    (try k_unfold)
    (try dsimp only)
    refine con_endL (f := True) hret (by assumption) (by assumption) (by k_mem) (by assumption) ?_
    refine ev_ext (by rw [hl, mulL_length a b h1 h2]) fun x => ?_
    rw [hev, ev_mul, List.take_length]
  case turn =>
    rintro i n t u m₁ nx h tk e it oe oi hn ne1 ne2 ⟨R, vs, k, row, rfl, hm1, hm2, ir, hl, hev⟩ F' N'
    have hia : i < a.length := by
      rcases Nat.lt_or_ge i a.length with q | q
      · exact q
      · rw [List.getElem?_eq_none q] at hn; cases hn
    have hna : n ∈ a := List.mem_of_getElem? hn
    have w1 : NeA R e := ne1 _ (.head _)
    have w2 : NeA R it := ne2 _ (.head _)
    rw [map_at2 hm1 hm2] at F'
    (try dsimp only)
    (try k_fold)
    k_steps
    refine stop_in ?_
    k_dflt (refine for_enum (J := fun j m news => ∃ vs k row2 t u, news = [(R, listOf (List.toArray vs) k), (e, oe), (it, oi)] ∧ m "row" = some (.ref R) ∧ m "one" = some (.int (i : Int) u) ∧ m "left" = some (.int n t) ∧ m "b" = some (.ref lb) ∧ IntsAre vs row2 ∧ row2.length = a.length + b.length - 1 ∧ ∀ x, ev row2 x = ev row x + x ^ i * n * ev (b.take j) x) rfl hp2 hi2 (by assumption) ?hJ2 (by with_unfolding_all rfl) (by with_unfolding_all rfl) (by with_unfolding_all rfl) ?turn2 ?done2)
    case hJ2 =>
      have N9 := (by assumption : News s.heap L' _ (_ :: _ :: _ :: _))
      refine' ⟨_, ⟨_, _, row, _, _, rfl, ?i1, ?i2, ?i3, ?i4, ir, hl, ?i5⟩, ?iN⟩
      case i1 => with_unfolding_all rfl
      case i2 => with_unfolding_all rfl
      case i3 => with_unfolding_all rfl
      case i4 => with_unfolding_all rfl
      case iN => exact news_c N9 (by k_mem) (news_c N9 (by k_mem) (news_1 N9 (by k_mem)))
      case i5 => intro x; rw [List.take_zero]; simp [ev]
    case done2 =>
      rintro m₂ nx2 h2 tk2 ⟨vs, k, row2, t, u, rfl, g1, g2, g3, g4, ir2, hl2, hev2⟩ F' N'
      rw [map_at4 g1 g2 g3 g4] at F'
      (try dsimp only)
      (try k_fold)
      k_steps
      have N9 := (by assumption : News s.heap L' _ (_ :: _ :: _ :: _))
      refine' ⟨_, _, _, _, rfl, (by assumption), ?nN, ?nA, _, _, _, row2, rfl, ?n1, ?n2, ir2, hl2, ?n3⟩
      case n1 => with_unfolding_all rfl
      case n2 => with_unfolding_all rfl
      case nN => exact news_c N9 (by k_mem) (news_c N9 (by k_mem) (news_1 N9 (by k_mem)))
      case nA =>
        intro p hp q hq
        rw [List.mem_singleton.mp hp]
        rcases List.mem_cons.mp hq with rfl | hq
        · exact w1
        · rw [List.mem_singleton.mp hq]; exact w2
      case n3 => intro x; rw [hev2, hev, ev_take_succ a x i hn, List.take_length]; grind
    case turn2 =>
      rintro j n2 t2 u2 m₂ nx2 h2 tk2 e2 it2 oe2 oi2 hn2 ne3 ne4 ⟨vs, k, row2, t, u, rfl, g1, g2, g3, g4, ir2, hl2, hev2⟩ F' N'
      have hjb : j < b.length := by
        rcases Nat.lt_or_ge j b.length with q | q
        · exact q
        · rw [List.getElem?_eq_none q] at hn2; cases hn2
      have hmul : IntMulOk n n2 := hm n hna n2 (List.mem_of_getElem? hn2)
      have w3 : NeA R e2 := ne3 _ (.head _)
      have w4 : NeA R it2 := ne4 _ (.head _)
      rw [map_at4 g1 g2 g3 g4] at F'
      (try dsimp only)
      (try k_fold)
      k_steps
      have N9 := (by assumption : News s.heap L' _ (_ :: _ :: _ :: _ :: _))
      have eij : ((i : Int) + (j : Int)).toNat = i + j := by omega
      have q6 := (by assumption : IntsAre _ (List.set row2 _ _))
      refine' ⟨_, _, _, _, rfl, (by assumption), ?kN, ?kA, _, _, _, _, _, rfl, ?k1, ?k2, ?k3, ?k4, q6, ?k5, ?k6⟩
      case k1 => with_unfolding_all rfl
      case k2 => with_unfolding_all rfl
      case k3 => with_unfolding_all rfl
      case k4 => with_unfolding_all rfl
      case kN => exact news_c N9 (by k_mem) (news_c N9 (by k_mem) (news_c N9 (by k_mem) (news_c N9 (by k_mem) (news_1 N9 (by k_mem)))))
      case kA =>
        have y1 := ne3 _ (.tail _ (.head _))
        have y2 := ne3 _ (.tail _ (.tail _ (.head _)))
        have y3 := ne4 _ (.tail _ (.head _))
        have y4 := ne4 _ (.tail _ (.tail _ (.head _)))
        intro p hp q hq
        rcases List.mem_cons.mp hp with rfl | hp
        · rcases List.mem_cons.mp hq with rfl | hq
          · exact w3
          · rw [List.mem_singleton.mp hq]; exact w4
        · rcases List.mem_cons.mp hp with rfl | hp
          · rcases List.mem_cons.mp hq with rfl | hq
            · exact y1
            · rw [List.mem_singleton.mp hq]; exact y3
          · rw [List.mem_singleton.mp hp]
            rcases List.mem_cons.mp hq with rfl | hq
            · exact y2
            · rw [List.mem_singleton.mp hq]; exact y4
      case k5 => rw [List.length_set]; exact hl2
      case k6 =>
        intro x
        rw [eij, ev_set _ _ _ _ (by omega), hev2, ev_take_succ b x j hn2, Int.pow_add]
        grind

theorem kw_50 : True := by
  (k_with "exec For Name Call" => (k_here; k_dflt (refine For_turns (by k_asm) ?_)))
  trivial
theorem kw_51 : True := by
  (k_with "exec For Name Call cons nil" => (k_here; k_dflt (refine For_turns (by k_asm) ?_)))
  trivial
theorem kw_52 : True := by
  (k_with "call type:zip" => (k_here; (with_reducible show wpAny _ _ (call (Value.type _) [Value.ref _, Value.ref _]) (fun xv s₁ => wpAny _ _ (pyIter xv) _ _ _) _ _); k_dflt (refine stop_out ?_)))
  trivial
def PcsAt (h : Heap) (ps : List Value) (pcs : List (List Int)) : Prop :=
  ps.length = pcs.length ∧ ∀ (i : Nat) (v : Value), ps[i]? = some v → ∃ l vs p, v = .ref l ∧ pcs[i]? = some p ∧ h.IsList l (List.toArray vs) ∧ IntsAre vs p
theorem kw_53 : True := by
  (k_with "call ref" => (k_here; (with_reducible show wpAny _ _ (call (Value.ref 199) _) _ _ _); k_dflt (apply con_useL; (case' hC => apply c_law_times); (case hpp => (constructor; (case left => is_list); (case right => is_list))); (case hi1 => l_ints); (case hi2 => l_ints); (case hn1 => l_fit); (case hn2 => l_fit); (case h1 => assumption); (case h2 => assumption); (case hm => assumption); (case hB => k_asm); (case hF => k_asm); (case hX => k_asm); (case hN => k_asm); (case hT => k_asm); (case hkk => first | exact rfl | assumption); (case hdp => ktr_room); (case hun => ktr_units); k_whole); intro zql' zqvs' zqk' zqh' zqtk' zqF' zqN' zql1 zqi1; (try dsimp only); (try k_fold); (try k_sweep)))
  trivial
set_option maxHeartbeats 8000000 in
theorem c_law_built {lp lt : Addr} {ps vt : List Value} {kP : Nat} {number : Int} {t : Tok} {pcs : List (List Int)} {times : List Int} (hit : IntsAre vt times) (hln : pcs.length = times.length) (h3 : times.length ≤ 3)
    (hpc : ∀ p ∈ pcs, 0 < p.length ∧ p.length ≤ 3 ∧ ∀ y ∈ p, Builtin.Int.intBits y ≤ 64) (htm : ∀ n ∈ times, 0 ≤ n ∧ n ≤ 3) :
    Con 206 20 [.int number t, .ref lp, .ref lt] (fun h => h.IsList lp ps.toArray ∧ h.IsList lt vt.toArray ∧ PcsAt h ps pcs) (fun h h' r => NewL h h' r (builtL [number] pcs times)) := by
  unfold Con PG
  k_fill
  intro w mean mg mb dp un gd cn cs af ccd cl outer A₀ base h₀ L m s Q E B F X T hk hp hd hu hret
  obtain ⟨hp1, hp2, hp3⟩ := hp
  refine wpAny_call ?_
  k_dflt (refine' code_def0 ?k1 ?k2 ?k3 ?k5 ?kA ?kF ?kK ?k6 ?k7 ?k8 ?k9 ?kB ?_ ?c2 ?c3 ?c4 ?c5; (case kA => exact rfl); (case kF => exact rfl); (case kK => assumption); (case k1 => k_asm); (case k2 => k_asm); (case k3 => k_asm); (case k5 => k_asm); (case k6 => k_is); (case k7 => k_is); (case k8 => ktr_room); (case k9 => exact BindsTo.of_eq rfl); (case c5 => decide); (case kB => exact locs rfl); (case c2 => exact rfl); (case c3 => exact rfl); (case c4 => exact rfl); k_whole)
  intro L' h' F' N' B' X' T'
  (try dsimp only)
  show (let v₂ : Env := _; let A₂ : Around := Around.deeper _ v₂; wpAny _ A₂ (execs _ v₂) _ _ _)
  intro v₂ A₂
  (try k_fold)
  k_steps
  refine stop_in ?_
  k_dflt (refine for_zip (ps := ps) (J := fun i m news => ∃ R vs k row, news = [(R, listOf (List.toArray vs) k)] ∧ m "row" = some (.ref R) ∧ IntsAre vs row ∧ row = builtL [number] (pcs.take i) (times.take i) ∧ 0 < row.length ∧ row.length ≤ 1 + 6 * i) rfl hp1 hp2 hit (hp3.1.trans hln) (by assumption) ?hJ (by with_unfolding_all rfl) (by with_unfolding_all rfl) (by with_unfolding_all rfl) ?turn ?done)
  case hJ =>
    have N9 := (by assumption : News s.heap L' _ (_ :: _))
    refine' ⟨_, ⟨_, [.int number t], _, [number], rfl, ?j1, IntsAre.cons _ _ IntsAre.nil, rfl, Nat.succ_pos 0, Nat.le_refl 1⟩, ?jN⟩
    case j1 => with_unfolding_all rfl
    case jN => exact N9
  case done =>
    rintro m₁ nx h tk ⟨R, vs, k, row, rfl, hm1, ir, hrow, hl0, hl1⟩ F' N'
    rw [map_at hm1] at F'
    (try dsimp only)
    (try k_fold)
    k_steps
    (try k_unfold)
    (try dsimp only)
    refine con_endL (f := True) hret (by assumption) (by assumption) (by k_mem) (by assumption) ?_
    rw [hrow, List.take_length, ← hln, List.take_length]
  case turn =>
    rintro i v n t m₁ nx ow h tk hpi hni hap ⟨R, vs, k, row, rfl, hm1, ir, hrow, hl0, hl1⟩ F' N'
    obtain ⟨l, vp, p, rfl, hpp, hlp, hip⟩ := hp3.2 i v hpi
    have hit3 : i < times.length := by
      rcases Nat.lt_or_ge i times.length with q | q
      · exact q
      · rw [List.getElem?_eq_none q] at hni; cases hni
    have hn3 := htm n (List.mem_of_getElem? hni)
    obtain ⟨hpl, hpl3, hpb⟩ := hpc p (List.mem_of_getElem? hpp)
    rw [map_at hm1] at F'
    have N' : News s.heap L' h ((R, listOf (List.toArray vs) k) :: ow) := N'
    (try dsimp only)
    (try k_fold)
    k_steps
    refine stop_in ?_
    k_dflt (refine for_range_iter (J := fun j m news => ∃ R vs k row2, news = (R, listOf (List.toArray vs) k) :: ow ∧ m "row" = some (.ref R) ∧ m "piece" = some (.ref l) ∧ IntsAre vs row2 ∧ row2 = powL row p j ∧ 0 < row2.length ∧ row2.length ≤ 1 + 6 * i + 2 * j ∧ ∀ q ∈ ow, q.1 ≠ R) rfl (by assumption) (by omega) (by omega) (by omega) (by omega) (by assumption) ?hJ2 (by with_unfolding_all rfl) (by with_unfolding_all rfl) ?turn2 ?done2)
    case hJ2 =>
      refine' ⟨_, ⟨_, _, _, row, rfl, ?i1, ?i2, ir, rfl, hl0, hl1, ?i3⟩, (by assumption)⟩
      case i1 => with_unfolding_all rfl
      case i2 => with_unfolding_all rfl
      case i3 => exact fun q hq e => hap _ (.head _) q hq e.symm
    case done2 =>
      rintro m₂ nx2 h2 tk2 ⟨R, vs, k, row2, rfl, g1, g2, ir2, hrow2, gl0, gl1, gap⟩ F' N'
      rw [map_at2 g1 g2] at F'
      (try dsimp only)
      (try k_fold)
      k_steps
      refine' ⟨_, _, _, [_], rfl, (by assumption), ?nN, ?nA, _, _, _, row2, rfl, ?n1, ir2, ?n2, gl0, ?n3⟩
      case n1 => with_unfolding_all rfl
      case nN => exact fun q hq => N' q ((List.mem_append.mp hq).elim (fun a => .tail _ a) fun a => by rw [List.mem_singleton.mp a]; exact .head _)
      case nA =>
        intro q hq o ho
        rw [List.mem_singleton.mp hq]
        exact fun e => gap o ho e.symm
      case n2 =>
        have e1 : pcs.take (i + 1) = pcs.take i ++ [p] := by rw [List.take_add_one, hpp]; rfl
        have e2 : times.take (i + 1) = times.take i ++ [n] := by rw [List.take_add_one, hni]; rfl
        rw [hrow2, e1, e2, builtL_snoc _ _ _ _ _ (by rw [List.length_take, List.length_take, hln]), hrow, Int.sub_zero]
      case n3 => rw [Int.sub_zero] at gl1; omega
    case turn2 =>
      rintro j t2 m₂ nx2 h2 tk2 it oi hj nit ⟨R, vs, k, row2, rfl, g1, g2, ir2, hrow2, gl0, gl1, gap⟩ F' N'
      have hbits : ∀ x ∈ row2, ∀ y ∈ p, IntMulOk x y := fun x _ y hy => IntMulOk.of_right (hpb y hy)
      have hj3 : j < 3 := by omega
      have hrl : row2.length < 100 := by omega
      have w1 : NeA R it := nit _ (.head _)
      rw [map_at2 g1 g2] at F'
      (try dsimp only)
      (try k_fold)
      k_steps
      have N9 := (by assumption : News s.heap L' _ (_ :: _ :: _ :: ow))
      have A8 := (by assumption : AllNe _ (_ :: _ :: ow))
      have A9 := A8.2.2
      have B9 : it ≠ _ := neGet A8 (by k_mem)
      refine' ⟨_, _, _, (_, _) :: ow, rfl, (by assumption), ?kN, ?kA, _, _, _, _, rfl, ?k1, ?k2, (by assumption), ?k3, ?k4, ?k5, ?k6⟩
      case k1 => with_unfolding_all rfl
      case k2 => with_unfolding_all rfl
      case kN => exact news_c N9 (by k_mem) (news_c N9 (by k_mem) (news_all N9 (fun p hp => by repeat' (first | exact hp | refine List.Mem.tail _ ?_))))
      case kA =>
        intro q hq o ho
        rw [List.mem_singleton.mp ho]
        rcases List.mem_cons.mp hq with rfl | hq
        · exact fun e => B9 e.symm
        · exact nit q (.tail _ hq)
      case k3 => rw [hrow2]; rfl
      case k4 => rw [mulL_length _ _ gl0 hpl]; omega
      case k5 => rw [mulL_length _ _ gl0 hpl]; omega
      case k6 => exact allNe_out A9

theorem con_useB {w : World} {A₀ : Around} {s : Shared} {base h₀ : Heap} {outer : List Env} {L : Addr} {m : Str → Option Value} {mean : ExcName → Option Value} {mg mb : Str → Option Value}
    {f : Addr} {n : Nat} {args : List Value} {Pre : Heap → Prop} {v : Bool} (C : Con f n args Pre (fun h h' r => r = .bool v))
    {dp un : Nat} {gd : Option (List Code)} {cn : Str} {cs : Scope} {a : Addr} {ccd : Value} {cl : List (Str × Addr)} {news : List (Addr × Obj)} {Q E : Value → Shared → Prop}
    (B : Below A₀ base outer h₀) (F : Fr h₀ L s.heap m) (X : (hd.heap_19 w.params).In h₀) (N : News h₀ L s.heap news) (T : Top hd.view_19 (looseW hd.view_19 []) mean mg mb h₀) (hk : cs.kind = .function)
    (hp : Pre s.heap) (h1 : dp + n < recursionLimit) (h2 : un + 8 * n < cLine)
    (ret : ∀ h' tk', Fr h₀ L h' m → News h₀ L h' news → Q (.bool v) { s with heap := h', toks := tk' }) :
    wpAny (model PG w) (ktrTop dp un gd cn cs L a ccd cl outer) (call (.ref f) args) Q E s := by
  refine C w mean mg mb dp un gd cn cs a ccd cl outer A₀ base h₀ L m s Q E B F X T hk hp h1 h2 ?_
  rintro r h' tk' k rfl
  exact ret h' tk' (fr_of_keep F k) (news_of_keep N k)
def ExAny (a b : List Int) (r : Option (List Int)) : Prop := 0 < b.length ∧ ldL b ≠ 0 ∧ ExRun b a (List.replicate (a.length + 1 - b.length) 0) r
theorem c_zexactN {la lb : Addr} {va vb : List Value} {a b : List Int} (hi1 : IntsAre va a) (hi2 : IntsAre vb b) (hn1 : a.length < 100) (hn2 : b.length < 100) (hg : ExAny a b none) :
    Con 136 200 [.ref la, .ref lb] (fun h => h.IsList la va.toArray ∧ h.IsList lb vb.toArray) (fun h h' r => r = .none) := c_zexact hi1 hi2 hn1 hn2 hg.1 hg.2.1 hg.2.2
theorem kw_54 : True := by
  (k_with "call ref" => (k_here; (with_reducible show wpAny _ _ (call (Value.ref 136) _) _ _ _); k_dflt (apply con_useN; (case' hC => apply c_zexactN); (case hpp => (constructor; (case left => is_list); (case right => is_list))); (case hi1 => l_ints); (case hi2 => l_ints); (case hn1 => l_fit); (case hn2 => l_fit); (case hg => assumption); (case hB => k_asm); (case hF => k_asm); (case hX => k_asm); (case hN => k_asm); (case hT => k_asm); (case hkk => first | exact rfl | assumption); (case hdp => ktr_room); (case hun => ktr_units); k_whole); intro zqh' zqtk' zqF' zqN'; (try dsimp only); (try k_fold); (try k_sweep)))
  trivial
set_option maxHeartbeats 8000000 in
theorem c_zdivides {la lb : Addr} {va vb : List Value} {a b : List Int} {r : Option (List Int)} (hi1 : IntsAre va a) (hi2 : IntsAre vb b) (hn1 : a.length < 100) (hn2 : b.length < 100) (hg : ExAny a b r) :
    Con 143 201 [.ref lb, .ref la] (fun h => h.IsList lb vb.toArray ∧ h.IsList la va.toArray) (fun h h' v => v = .bool r.isSome) := by
  cases r with
  | none =>
    unfold Con PG
    k_fill
    intro w mean mg mb dp un gd cn cs af ccd cl outer A₀ base h₀ L m s Q E B F X T hk hp hd hu hret
    obtain ⟨hp2, hp1⟩ := hp
    refine wpAny_call ?_
    k_dflt (refine' code_def0 ?k1 ?k2 ?k3 ?k5 ?kA ?kF ?kK ?k6 ?k7 ?k8 ?k9 ?kB ?_ ?c2 ?c3 ?c4 ?c5; (case kA => exact rfl); (case kF => exact rfl); (case kK => assumption); (case k1 => k_asm); (case k2 => k_asm); (case k3 => k_asm); (case k5 => k_asm); (case k6 => k_is); (case k7 => k_is); (case k8 => ktr_room); (case k9 => exact BindsTo.of_eq rfl); (case c5 => decide); (case kB => exact locs rfl); (case c2 => exact rfl); (case c3 => exact rfl); (case c4 => exact rfl); k_whole)
    intro L' h' F' N' B' X' T'
    (try dsimp only)
    show (let v₂ : Env := _; let A₂ : Around := Around.deeper _ v₂; wpAny _ A₂ (execs _ v₂) _ _ _)
    intro v₂ A₂
    (try k_fold)
    k_steps
    (try dsimp only)
    (try k_unfold)
    (try dsimp only)
    exact con_endG (P := fun _ _ v => v = Value.bool _) hret (by assumption) rfl
  | some q =>
    have hg' : ExOK a b q := hg
    unfold Con PG
    k_fill
    intro w mean mg mb dp un gd cn cs af ccd cl outer A₀ base h₀ L m s Q E B F X T hk hp hd hu hret
    obtain ⟨hp2, hp1⟩ := hp
    refine wpAny_call ?_
    k_dflt (refine' code_def0 ?k1 ?k2 ?k3 ?k5 ?kA ?kF ?kK ?k6 ?k7 ?k8 ?k9 ?kB ?_ ?c2 ?c3 ?c4 ?c5; (case kA => exact rfl); (case kF => exact rfl); (case kK => assumption); (case k1 => k_asm); (case k2 => k_asm); (case k3 => k_asm); (case k5 => k_asm); (case k6 => k_is); (case k7 => k_is); (case k8 => ktr_room); (case k9 => exact BindsTo.of_eq rfl); (case c5 => decide); (case kB => exact locs rfl); (case c2 => exact rfl); (case c3 => exact rfl); (case c4 => exact rfl); k_whole)
    intro L' h' F' N' B' X' T'
    (try dsimp only)
    show (let v₂ : Env := _; let A₂ : Around := Around.deeper _ v₂; wpAny _ A₂ (execs _ v₂) _ _ _)
    intro v₂ A₂
    (try k_fold)
    k_steps
    (try dsimp only)
    (try k_unfold)
    (try dsimp only)
    exact con_endG (P := fun _ _ v => v = Value.bool _) hret (by assumption) rfl

def drX (ns : List Int) (at' : Int) : Int := if at' < (ns.length : Int) then ns.getD at'.toNat 0 else 3 * at' + 2
set_option maxHeartbeats 8000000 in
theorem c_law_drawn {l : Addr} {vs : List Value} {ns : List Int} {a b : Int} {t u : Tok} (hi : IntsAre vs ns) (hn : ns.length < 100) (h0 : 0 ≤ a) (h1 : a < 100) (h2 : 0 < b) : Con 192 110 [.ref l, .int a t, .int b u] (fun h => h.IsList l vs.toArray) (fun h h' r => ∃ t, r = .int ((drX ns a).fmod b) t) := by
  unfold Con PG
  k_fill
  intro w mean mg mb dp un gd cn cs af ccd cl outer A₀ base h₀ L m s Q E B F X T hk hp hd hu hret
  refine wpAny_call ?_
  k_dflt (refine' code_def0 ?k1 ?k2 ?k3 ?k5 ?kA ?kF ?kK ?k6 ?k7 ?k8 ?k9 ?kB ?_ ?c2 ?c3 ?c4 ?c5; (case kA => exact rfl); (case kF => exact rfl); (case kK => assumption); (case k1 => k_asm); (case k2 => k_asm); (case k3 => k_asm); (case k5 => k_asm); (case k6 => k_is); (case k7 => k_is); (case k8 => ktr_room); (case k9 => exact BindsTo.of_eq rfl); (case c5 => decide); (case kB => exact locs rfl); (case c2 => exact rfl); (case c3 => exact rfl); (case c4 => exact rfl); k_whole)
  intro L' h' F' N' B' X' T'
  (try dsimp only)
  show (let v₂ : Env := _; let A₂ : Around := Around.deeper _ v₂; wpAny _ A₂ (execs _ v₂) _ _ _)
  intro v₂ A₂
  (try k_fold)
  k_steps
  · (try dsimp only)
    (try k_unfold)
    (try dsimp only)
    refine con_endI hret (by assumption) ?_
    unfold drX
    rw [if_pos (by assumption)]
  · (try dsimp only)
    (try k_unfold)
    (try dsimp only)
    refine con_endI hret (by assumption) ?_
    unfold drX
    rw [if_neg (by assumption)]

section
variable {prog : Program} {w : World} {A : Around} {E : Value → Shared → Prop} {s : Shared} {env : Env} {h₀ : Heap} {body : List Stmt} {Q : Flow → Shared → Prop}
theorem for_tuple {x : Str} {px : Pos} {T : Addr} {items : List Value} {ns : List Int} {m₀ : Str → Option Value} (J : Nat → (Str → Option Value) → List (Addr × Obj) → Prop)
    (hh : A.handled = none) (hT : s.heap.IsTuple T items.toArray) (hT0 : h₀.get? T = none) (hTL : T ≠ env.locals) (hi : IntsAre items ns) (F : Fr h₀ env.locals s.heap m₀) (hJN : ∃ news, J 0 m₀ news ∧ News h₀ env.locals s.heap news ∧ ∀ p ∈ news, p.1 ≠ T)
    (turn : ∀ (i : Nat) (n : Int) (t : Tok) (m₁ : Str → Option Value) (nx ow : List (Addr × Obj)) (h : Heap) (tk : Nat), ns[i]? = some n → (∀ p ∈ nx, ∀ q ∈ ow, p.1 ≠ q.1) → J i m₁ nx → Fr h₀ env.locals h m₁ → News h₀ env.locals h (nx ++ ow) →
      wpAny (model prog w) A (assign (.Name x px) env (.int n t)) (fun _ s₃ => wpAny (model prog w) A (execs body env) (FPost h₀ env.locals ow (J (i + 1)) { s with heap := h, toks := tk } Q) E s₃) E { s with heap := h, toks := tk })
    (done : ∀ (m₁ : Str → Option Value) (nx : List (Addr × Obj)) (h : Heap) (tk : Nat), J ns.length m₁ nx → Fr h₀ env.locals h m₁ → News h₀ env.locals h nx → Q .next { s with heap := h, toks := tk }) :
    wpAny (model prog w) A (pyIter (.ref T)) (fun it s₂ => TurnsAt prog w A h₀ env (.Name x px) body Q E it s₂) E s := by
  obtain ⟨news, hj, N, hNT⟩ := hJN
  refine wpAny_pyIter_tuple hT ?_
  obtain ⟨oT, hoT, _⟩ := id hT
  have hlt : T < s.heap.objs.size := Heap.lt_size hoT
  have hLs : env.locals < s.heap.objs.size := F.ns.lt
  have W := Walks.tuple (prog := prog) (w := w) hh s.heap.objs.size T (Nat.ne_of_lt hlt) items.toArray
  have hn : items.toArray.size = ns.length := by simp [hi.length]
  rw [hn] at W
  have hgo : KTurns prog w A (.Name x px) s.heap.objs.size [s.heap.objs.size, T] [s.heap.objs.size] ns.length (fun i v _ => items.toArray[i]? = some v) (fun i v h => items.toArray[i]? = some v ∧ (h.IsTupleIter s.heap.objs.size T (i + 1) ∧ h.IsTuple T items.toArray)) (fun i h => h.IsTupleIter s.heap.objs.size T i ∧ h.IsTuple T items.toArray) :=
    KTurns.ofWalks W fun i v s Q E _ q => wpAny_pure q
  refine for_walks (wn := [s.heap.objs.size, T]) hgo J ?_ ?_ ?_ ?_ ⟨?_, hT.at fun o e => Heap.get?_push_of_some _ e⟩ (F.push _) (fun p hp => ⟨Heap.get?_push_of_some _ (N p hp).1, (N p hp).2⟩) hj ?_ done
  · intro b hb; exact .inl hb
  · intro b hb; rw [List.mem_singleton.mp hb]; exact .head _
  · intro b hb
    rcases List.mem_cons.mp hb with rfl | hb
    · exact ⟨get_new F (Nat.le_refl _), fun e => absurd hLs (by rw [← e]; exact Nat.lt_irrefl _), fun p hp e => absurd (Heap.lt_size (N p hp).1) (by rw [e]; exact Nat.lt_irrefl _)⟩
    · rw [List.mem_singleton.mp hb]; exact ⟨hT0, hTL, hNT⟩
  · rintro i h ⟨⟨o1, q1, _⟩, ⟨o2, q2, _⟩⟩ b hb
    rcases List.mem_cons.mp hb with rfl | hb
    · exact ⟨_, q1⟩
    · rw [List.mem_singleton.mp hb]; exact ⟨_, q2⟩
  · exact ⟨_, Heap.get?_push_size _ rfl, rfl, rfl⟩
  · rintro i v m₁ nx ow h₁ tk₁ hin hP hap hJ F₁ N₁
    obtain ⟨n, t', rfl, hnn, _⟩ := ints_get' hi i v (by simpa using hP)
    exact turn i n t' m₁ nx ow h₁ tk₁ hnn hap hJ F₁ N₁
theorem for_range_free {x : Str} {px : Pos} {r : Addr} {a b : Int} {t u v : Tok} {m₀ : Str → Option Value} (J : Nat → (Str → Option Value) → List (Addr × Obj) → Prop)
    (hh : A.handled = none) (hr : IsRange s.heap r a b 1 t u v) (ha : -1000 ≤ a) (ha2 : a ≤ 1000) (hb : -1000 ≤ b) (hb2 : b ≤ 1000) (F : Fr h₀ env.locals s.heap m₀) (hJN : ∃ news, J 0 m₀ news ∧ News h₀ env.locals s.heap news)
    (turn : ∀ (i : Nat) (t : Tok) (m₁ : Str → Option Value) (nx ow : List (Addr × Obj)) (h : Heap) (tk : Nat), i < (b - a).toNat → (∀ p ∈ nx, ∀ q ∈ ow, p.1 ≠ q.1) → J i m₁ nx → Fr h₀ env.locals h m₁ → News h₀ env.locals h (nx ++ ow) →
      wpAny (model prog w) A (assign (.Name x px) env (.int (a + (i : Int)) t)) (fun _ s₃ => wpAny (model prog w) A (execs body env) (FPost h₀ env.locals ow (J (i + 1)) { s with heap := h, toks := tk } Q) E s₃) E { s with heap := h, toks := tk })
    (done : ∀ (m₁ : Str → Option Value) (nx : List (Addr × Obj)) (h : Heap) (tk : Nat), J (b - a).toNat m₁ nx → Fr h₀ env.locals h m₁ → News h₀ env.locals h nx → Q .next { s with heap := h, toks := tk }) :
    wpAny (model prog w) A (pyIter (.ref r)) (fun it s₂ => TurnsAt prog w A h₀ env (.Name x px) body Q E it s₂) E s := by
  obtain ⟨news, hj, N⟩ := hJN
  refine wpAny_pyIter_range hr (small_1 ha ha2 hb hb2) ?_
  have hs : Builtin.Range.rangeSize a b 1 = ((b - a).toNat : Int) := rangeSize_nat a b
  rw [hs]
  have W := Walks.range (prog := prog) (w := w) hh s.heap.objs.size a 1 (b - a).toNat
  have hLs : env.locals < s.heap.objs.size := F.ns.lt
  refine for_walks (wn := [s.heap.objs.size]) (KTurns.ofWalks W (fun i v s Q E _ q => wpAny_pure q)) J ?_ ?_ ?_ ?_ ?_ (F.push _) (fun p hp => ⟨Heap.get?_push_of_some _ (N p hp).1, (N p hp).2⟩) hj ?_ done
  · intro b hb; exact .inl hb
  · intro b hb; exact hb
  · intro b hb
    rw [List.mem_singleton.mp hb]
    exact ⟨get_new F (Nat.le_refl _), fun e => absurd hLs (by rw [← e]; exact Nat.lt_irrefl _), fun p hp e => absurd (Heap.lt_size (N p hp).1) (by rw [e]; exact Nat.lt_irrefl _)⟩
  · rintro i h q1 b hb
    rw [List.mem_singleton.mp hb]; exact ⟨_, q1⟩
  · show (s.heap.push _).get? _ = _
    rw [Heap.get?_push_size _ rfl]
    simp
  · rintro i v m₁ nx ow h₁ tk₁ hin ⟨t', rfl⟩ hap hJ F₁ N₁
    rw [Int.mul_one]
    exact turn i t' m₁ nx ow h₁ tk₁ hin hap hJ F₁ N₁
end

section
/-! trimmed lists -/
def Tr (p : List Int) : Prop := p = [] ∨ ldL p ≠ 0
theorem Tr.nil : Tr [] := Or.inl rfl
theorem Tr.ld {p : List Int} (h : Tr p) (hp : p ≠ []) : ldL p ≠ 0 := h.resolve_left hp
theorem ldL_cons {c : Int} {t : List Int} (h : t ≠ []) : ldL (c :: t) = ldL t := by
  cases t with
  | nil => exact absurd rfl h
  | cons d r => rfl
theorem Tr.tail {c : Int} {t : List Int} (h : Tr (c :: t)) : Tr t := by
  by_cases q : t = []
  · exact Or.inl q
  · have := h.ld (by simp)
    rw [ldL_cons q] at this
    exact Or.inr this
theorem ldL_mem : ∀ {p : List Int}, p ≠ [] → ldL p ∈ p
  | [], h => absurd rfl h
  | [c], _ => by simp [ldL]
  | c :: d :: r, _ => List.mem_cons_of_mem _ (ldL_mem (p := d :: r) (by simp))
theorem ev_trL (x : Int) : ∀ p : List Int, ev (trL p) x = ev p x
  | [] => rfl
  | c :: t => by
    have ih := ev_trL x t
    rw [trL]
    cases q : trL t with
    | nil =>
      rw [q] at ih
      simp only [consT, ev] at ih ⊢
      split
      · next h => rw [← ih, h]; simp [ev]
      · next h => rw [← ih]; simp [ev]
    | cons d r => rw [q] at ih; simp only [consT, ev] at ih ⊢; rw [← ih]
theorem tr_trL : ∀ p : List Int, Tr (trL p)
  | [] => Or.inl rfl
  | c :: t => by
    have ih := tr_trL t
    rw [trL]
    cases q : trL t with
    | nil =>
      simp only [consT]
      split
      · exact Or.inl rfl
      · next h => exact Or.inr h
    | cons d r =>
      rw [q] at ih
      exact Or.inr (ih.ld (by simp))
theorem trL_tr : ∀ {p : List Int}, Tr p → trL p = p
  | [], _ => rfl
  | [c], h => by
    have := h.ld (by simp)
    simp only [ldL] at this
    simp [trL, consT, this]
  | c :: d :: r, h => by
    rw [trL, trL_tr h.tail]
    rfl
theorem ev_allzero (x : Int) : ∀ l : List Int, (∀ c ∈ l, c = 0) → ev l x = 0
  | [], _ => rfl
  | u :: v, hl => by
    rw [ev, hl u (by simp), ev_allzero x v fun c hc => hl c (by simp [hc])]
    simp
theorem ev_cons_inj {c d : Int} {t r : List Int} (h : ∀ x, ev (c :: t) x = ev (d :: r) x) : c = d ∧ ∀ x, ev t x = ev r x := by
  have hc : c = d := by
    have := h 0
    simpa [ev] using this
  refine ⟨hc, fun x => ?_⟩
  have z := ev_zero (sumL t (r.map fun y => y * (-1))) 1 fun y hy => by
    have := h y
    simp only [ev, hc] at this
    have q : y * (ev t y - ev r y) = 0 := by grind
    rw [ev_sum, ev_map_mul]
    rcases Int.mul_eq_zero.mp q with q | q <;> omega
  have := ev_allzero x _ z
  rw [ev_sum, ev_map_mul] at this
  omega
theorem tr_zero {p : List Int} (hp : Tr p) (h : ∀ x, ev p x = 0) : p = [] := by
  have z := ev_zero p 0 fun x _ => h x
  rcases hp with q | q
  · exact q
  · rcases Classical.em (p = []) with e | e
    · exact e
    · exact absurd (z _ (ldL_mem e)) q
theorem tr_ext : ∀ {a b : List Int}, Tr a → Tr b → (∀ x, ev a x = ev b x) → a = b
  | [], b, _, hb, h => (tr_zero hb fun x => (h x).symm).symm
  | c :: t, [], ha, _, h => tr_zero ha h
  | c :: t, d :: r, ha, hb, h => by
    obtain ⟨e, h'⟩ := ev_cons_inj h
    rw [e, tr_ext ha.tail hb.tail h']
/-- shorter than: a list with the same values as a trimmed one is not shorter -/
theorem tr_le {a b : List Int} (hb : Tr b) (h : ∀ x, ev a x = ev b x) : b.length ≤ a.length := by
  have : trL a = b := tr_ext (tr_trL a) hb fun x => by rw [ev_trL, h]
  rw [← this]
  exact trL_length_le a
theorem ldL_map_mul (k : Int) : ∀ p : List Int, ldL (p.map fun y => y * k) = ldL p * k
  | [] => by simp [ldL]
  | [c] => by simp [ldL]
  | c :: d :: r => by
    have := ldL_map_mul k (d :: r)
    simpa [ldL] using this
theorem ldL_sumL_lt : ∀ {a b : List Int}, a.length < b.length → ldL (sumL a b) = ldL b
  | [], b, _ => by simp [sumL]
  | x :: a, [], h => absurd h (by simp)
  | x :: a, y :: b, h => by
    have hl : a.length < b.length := by simpa using h
    have hb : b ≠ [] := by intro e; rw [e] at hl; simp at hl
    have hs : sumL a b ≠ [] := by
      intro e
      have := sumL_length a b
      rw [e] at this
      simp at this
      omega
    rw [sumL, ldL_cons hs, ldL_cons hb, ldL_sumL_lt hl]
theorem ldL_mul : ∀ {a b : List Int}, a ≠ [] → b ≠ [] → ldL (mulL a b) = ldL a * ldL b
  | [], b, h, _ => absurd rfl h
  | [c], b, _, _ => by
    simp only [mulL, ldL_map_mul, ldL]
    exact Int.mul_comm ..
  | c :: d :: t, b, _, hb => by
    have ih := ldL_mul (a := d :: t) (b := b) (by simp) hb
    have hl := mulL_length (d :: t) b (by simp) (List.length_pos_iff.mpr hb)
    have hb' := List.length_pos_iff.mpr hb
    have hne : mulL (d :: t) b ≠ [] := by
      intro e
      rw [e] at hl
      simp only [List.length_nil, List.length_cons] at hl
      omega
    show ldL (sumL (b.map fun y => y * c) (0 :: mulL (d :: t) b)) = _
    rw [ldL_sumL_lt (by simp only [List.length_map, List.length_cons, hl]; omega), ldL_cons hne, ih]
    rfl
theorem tr_mul {a b : List Int} (ha : Tr a) (hb : Tr b) (h1 : a ≠ []) (h2 : b ≠ []) : Tr (mulL a b) := by
  refine Or.inr ?_
  rw [ldL_mul h1 h2]
  exact fun e => (Int.mul_eq_zero.mp e).elim (ha.ld h1) (hb.ld h2)
/-- a multiple of b that is shorter than b is 0 -/
theorem small_mult {b s u : List Int} (hb : Tr b) (h0 : b ≠ []) (h : ∀ x, ev u x = ev s x * ev b x) (hl : u.length < b.length) : ∀ x, ev u x = 0 := by
  intro x
  rcases Classical.em (trL s = []) with e | e
  · rw [h, ← ev_trL x s, e]; simp [ev]
  · exfalso
    have ht := tr_mul (tr_trL s) hb e h0
    have h2 : (mulL (trL s) b).length ≤ u.length := tr_le ht fun x => by rw [ev_mul, ev_trL, h]
    have h3 := mulL_length (trL s) b (List.length_pos_iff.mpr e) (List.length_pos_iff.mpr h0)
    have h4 := List.length_pos_iff.mpr e
    omega
theorem ev_scL (p : List Int) (k x : Int) : ev (scL p k) x = ev p x * k := by
  unfold scL
  split
  · exact ev_map_mul k x p
  · next h =>
    have : k = 0 := Classical.not_not.mp h
    simp [this, ev]
theorem ev_rsL (p : List Int) (m : Nat) (x : Int) : ev (rsL p m) x = x ^ m * ev p x := by
  unfold rsL
  split
  · next h => simp [h, ev]
  · rw [ev_append, ev_zeros, List.length_replicate]
    omega
theorem ev_ngL (p : List Int) (x : Int) : ev (ngL p) x = - ev p x := by
  have : ngL p = p.map fun y => y * (-1) := by
    unfold ngL
    exact List.map_congr_left fun y _ => by omega
  rw [this, ev_map_mul]
  omega
theorem ev_sbL (a b : List Int) (x : Int) : ev (sbL a b) x = ev a x - ev b x := by
  unfold sbL adL
  rw [ev_trL, ev_sum, ev_ngL]
  omega
theorem tr_sbL (a b : List Int) : Tr (sbL a b) := tr_trL _
theorem tr_scL {p : List Int} (hp : Tr p) (k : Int) : Tr (scL p k) := by
  unfold scL
  split
  · next h =>
    rcases hp with q | q
    · rw [q]; exact Or.inl rfl
    · exact Or.inr (by rw [ldL_map_mul]; exact fun e => (Int.mul_eq_zero.mp e).elim q h)
  · exact Or.inl rfl
theorem ldL_rsL {p : List Int} (h : p ≠ []) (m : Nat) : ldL (rsL p m) = ldL p := by
  unfold rsL
  rw [if_neg h]
  induction m with
  | zero => rfl
  | succ m ih =>
    rw [List.replicate_succ, List.cons_append, ldL_cons (by simp [h]), ih]
theorem rsL_length {p : List Int} (h : p ≠ []) (m : Nat) : (rsL p m).length = m + p.length := by
  unfold rsL
  rw [if_neg h]
  simp
/-- a step of a division: the leads fall together -/
theorem sb_shorter {a b : List Int} (hl : a.length = b.length) (hd : ldL a = ldL b) (h : a ≠ []) : (sbL a b).length < a.length := by
  unfold sbL adL
  have hlen : (sumL a (ngL b)).length = a.length := by rw [sumL_length, ngL, List.length_map, hl]; simp
  have hz : (sumL a (ngL b)).getD (a.length - 1) 0 = 0 := by
    rw [sumL_getD]
    have e1 := ldL_getD a
    have e2 : ldL (ngL b) = -ldL b := by
      have : ngL b = b.map fun y => y * (-1) := by
        unfold ngL
        exact List.map_congr_left fun y _ => by omega
      rw [this, ldL_map_mul]; omega
    have e3 := ldL_getD (ngL b)
    rw [show (ngL b).length = a.length by rw [ngL, List.length_map, hl]] at e3
    omega
  have hp := List.length_pos_iff.mpr h
  rcases Classical.em (trL (sumL a (ngL b)) = []) with e | e
  · rw [e]; exact hp
  · have h1 := trL_length_le (sumL a (ngL b))
    rcases Nat.lt_or_ge (trL (sumL a (ngL b))).length a.length with q | q
    · exact q
    · exfalso
      have hE : (trL (sumL a (ngL b))).length = (sumL a (ngL b)).length := by omega
      have : trL (sumL a (ngL b)) = sumL a (ngL b) := ev_ext hE fun x => ev_trL x _
      have ht := (tr_trL (sumL a (ngL b))).ld e
      rw [this, ldL_getD, hlen, hz] at ht
      exact ht rfl

end
section
/-! translation -/
def trn (a : Int) : List Int → List Int
  | [] => []
  | c :: t => sumL (c :: trn a t) ((trn a t).map fun y => y * (-a))
theorem trn_length (a : Int) : ∀ p : List Int, (trn a p).length = p.length
  | [] => rfl
  | c :: t => by
    have := trn_length a t
    simp only [trn, sumL_length, List.length_map, List.length_cons, this]
    omega
theorem ev_trn (a x : Int) : ∀ p : List Int, ev (trn a p) x = ev p (x - a)
  | [] => rfl
  | c :: t => by
    have := ev_trn a x t
    simp only [trn, ev_sum, ev_map_mul, ev, this]
    grind
theorem trn_ne (a : Int) {p : List Int} (h : p ≠ []) : trn a p ≠ [] := fun e => h (List.eq_nil_of_length_eq_zero (by rw [← trn_length a p, e]; rfl))
theorem ldL_sumL_gt : ∀ {a b : List Int}, b.length < a.length → ldL (sumL a b) = ldL a
  | [], b, h => absurd h (by simp)
  | x :: a, [], h => rfl
  | x :: a, y :: b, h => by
    have hl : b.length < a.length := by simpa using h
    have ha : a ≠ [] := by intro e; rw [e] at hl; simp at hl
    have hs : sumL a b ≠ [] := by
      intro e
      have := sumL_length a b
      rw [e] at this
      simp at this
      omega
    rw [sumL, ldL_cons hs, ldL_cons ha, ldL_sumL_gt hl]
theorem ldL_trn (a : Int) : ∀ p : List Int, ldL (trn a p) = ldL p
  | [] => rfl
  | c :: t => by
    have ih := ldL_trn a t
    have hl := trn_length a t
    rw [trn, ldL_sumL_gt (by simp [hl])]
    rcases Classical.em (t = []) with e | e
    · subst e; rfl
    · rw [ldL_cons (trn_ne a e), ldL_cons e, ih]
theorem tr_trn (a : Int) {p : List Int} (h : Tr p) : Tr (trn a p) := by
  rcases h with q | q
  · rw [q]; exact Or.inl rfl
  · exact Or.inr (by rw [ldL_trn]; exact q)
theorem trn_back (a : Int) (p : List Int) : trn (-a) (trn a p) = p := ev_ext (by rw [trn_length, trn_length]) fun x => by
  rw [ev_trn, ev_trn]
  exact congrArg _ (by omega)
theorem mulL_ne {p q : List Int} (hp : p ≠ []) (hq : q ≠ []) : mulL p q ≠ [] := by
  have h1 := List.length_pos_iff.mpr hp
  have h2 := List.length_pos_iff.mpr hq
  have := mulL_length p q h1 h2
  intro e
  rw [e, List.length_nil] at this
  omega
theorem trn_mul (a : Int) {p q : List Int} (hp : p ≠ []) (hq : q ≠ []) : trn a (mulL p q) = mulL (trn a p) (trn a q) := by
  have h1 := List.length_pos_iff.mpr hp
  have h2 := List.length_pos_iff.mpr hq
  refine ev_ext ?_ fun x => by rw [ev_trn, ev_mul, ev_mul, ev_trn, ev_trn]
  rw [trn_length, mulL_length p q h1 h2, mulL_length _ _ (by rw [trn_length]; exact h1) (by rw [trn_length]; exact h2), trn_length, trn_length]
theorem trn_map_mul (a k : Int) (p : List Int) : trn a (p.map fun y => y * k) = (trn a p).map fun y => y * k :=
  ev_ext (by simp [trn_length]) fun x => by rw [ev_trn, ev_map_mul, ev_map_mul, ev_trn]
theorem trn_sbL (a : Int) (p q : List Int) : trn a (sbL p q) = sbL (trn a p) (trn a q) :=
  tr_ext (tr_trn a (tr_sbL p q)) (tr_sbL _ _) fun x => by rw [ev_trn, ev_sbL, ev_sbL, ev_trn, ev_trn]
/-! derivatives -/
theorem ev_deF_succ (x : Int) : ∀ (n : Nat) (p : List Int), ev (deF (n + 1) p) x = ev (deF n p) x + ev p x
  | n, [] => by simp [deF, ev]
  | n, c :: t => by
    have := ev_deF_succ x (n + 1) t
    simp only [deF, ev, this]
    grind
theorem ev_deF_zero (x : Int) (p : List Int) : ev (deF 0 p) x = x * ev (deL p) x := by
  cases p with
  | nil => simp [deF, deL, ev]
  | cons d r => simp [deF, deL, ev]
theorem dv_cons (c x : Int) (t : List Int) : ev (deL (c :: t)) x = ev t x + x * ev (deL t) x := by
  have : deL (c :: t) = deF 1 t := by simp [deL, deF]
  rw [this, ev_deF_succ, ev_deF_zero]
  omega
theorem dv_sum (x : Int) : ∀ a b : List Int, ev (deL (sumL a b)) x = ev (deL a) x + ev (deL b) x
  | [], b => by simp [sumL, deL, deF, ev]
  | c :: a, [] => by simp [sumL, deL, deF, ev]
  | c :: a, d :: b => by
    rw [sumL, dv_cons, dv_cons, dv_cons, dv_sum x a b, ev_sum]
    grind
theorem dv_map_mul (k x : Int) : ∀ a : List Int, ev (deL (a.map fun y => y * k)) x = ev (deL a) x * k
  | [] => by simp [deL, deF, ev]
  | c :: t => by
    rw [List.map_cons, dv_cons, dv_cons, dv_map_mul k x t, ev_map_mul]
    grind
theorem dv_trn (a x : Int) : ∀ p : List Int, ev (deL (trn a p)) x = ev (deL p) (x - a)
  | [] => by simp [trn, deL, deF, ev]
  | c :: t => by
    have ih := dv_trn a x t
    rw [trn, dv_sum, dv_cons, dv_cons, dv_map_mul, ih, ev_trn]
    grind
theorem deL_trn (a : Int) (p : List Int) : deL (trn a p) = trn a (deL p) :=
  ev_ext (by rw [deL_length, trn_length, trn_length, deL_length]) fun x => by rw [dv_trn, ev_trn]
theorem deL_map_mul (k : Int) (p : List Int) : deL (p.map fun y => y * k) = (deL p).map fun y => y * k :=
  ev_ext (by rw [deL_length, List.length_map, List.length_map, deL_length]) fun x => by rw [dv_map_mul, ev_map_mul]
/-! contents -/
theorem gcF_dvd : ∀ (ns : List Int) (f : Int), ns.foldl (fun f n => (Int.gcd f n : Int)) f ∣ f ∧ ∀ c ∈ ns, ns.foldl (fun f n => (Int.gcd f n : Int)) f ∣ c
  | [], f => ⟨Int.dvd_refl f, fun c hc => by cases hc⟩
  | n :: ns, f => by
    have ⟨h1, h2⟩ := gcF_dvd ns (Int.gcd f n)
    refine ⟨Int.dvd_trans h1 (Int.gcd_dvd_left ..), fun c hc => ?_⟩
    rcases List.mem_cons.mp hc with e | e
    · rw [e]; exact Int.dvd_trans h1 (Int.gcd_dvd_right ..)
    · exact h2 c e
theorem gcF_greatest {d : Int} : ∀ (ns : List Int) (f : Int), d ∣ f → (∀ c ∈ ns, d ∣ c) → d ∣ ns.foldl (fun f n => (Int.gcd f n : Int)) f
  | [], f, h, _ => h
  | n :: ns, f, h, hn => gcF_greatest ns _ (Int.dvd_coe_gcd h (hn n (by simp))) fun c hc => hn c (by simp [hc])
theorem gcF_nonneg : ∀ (ns : List Int) (f : Int), 0 ≤ f → 0 ≤ ns.foldl (fun f n => (Int.gcd f n : Int)) f
  | [], f, h => h
  | n :: ns, f, h => gcF_nonneg ns _ (Int.natCast_nonneg _)
theorem gcA_dvd {ns : List Int} {c : Int} (h : c ∈ ns) : gcA ns ∣ c := (gcF_dvd ns 0).2 c h
theorem gcA_greatest {ns : List Int} {d : Int} (h : ∀ c ∈ ns, d ∣ c) : d ∣ gcA ns := gcF_greatest ns 0 (Int.dvd_zero d) h
theorem gcA_nonneg (ns : List Int) : 0 ≤ gcA ns := gcF_nonneg ns 0 (Int.le_refl 0)
theorem dvd_sumL {d : Int} : ∀ {a b : List Int}, (∀ c ∈ a, d ∣ c) → (∀ c ∈ b, d ∣ c) → ∀ c ∈ sumL a b, d ∣ c
  | [], b, _, hb => by simpa [sumL] using hb
  | x :: a, [], ha, _ => by simpa [sumL] using ha
  | x :: a, y :: b, ha, hb => by
    intro c hc
    rw [sumL] at hc
    rcases List.mem_cons.mp hc with e | e
    · rw [e]; exact Int.dvd_add (ha x (by simp)) (hb y (by simp))
    · exact dvd_sumL (fun c hc => ha c (by simp [hc])) (fun c hc => hb c (by simp [hc])) c e
theorem dvd_trn {d a : Int} : ∀ {p : List Int}, (∀ c ∈ p, d ∣ c) → ∀ c ∈ trn a p, d ∣ c
  | [], _ => by simp [trn]
  | e :: t, h => by
    have ih := dvd_trn (a := a) (p := t) fun c hc => h c (by simp [hc])
    refine dvd_sumL (fun c hc => ?_) fun c hc => ?_
    · rcases List.mem_cons.mp hc with q | q
      · rw [q]; exact h e (by simp)
      · exact ih c q
    · obtain ⟨y, hy, rfl⟩ := List.mem_map.mp hc
      exact Int.dvd_mul_of_dvd_left (ih y hy)
theorem gcA_trn (a : Int) (p : List Int) : gcA (trn a p) = gcA p := by
  refine Int.dvd_antisymm (gcA_nonneg _) (gcA_nonneg _) ?_ ?_
  · refine gcA_greatest fun c hc => ?_
    have := dvd_trn (d := gcA (trn a p)) (a := -a) (p := trn a p) fun c hc => gcA_dvd hc
    rw [trn_back] at this
    exact this c hc
  · exact gcA_greatest (dvd_trn fun c hc => gcA_dvd hc)
theorem gcF_map_mul (n : Int) : ∀ (ns : List Int) (f : Int), (ns.map fun y => y * n).foldl (fun f n => (Int.gcd f n : Int)) (f * n.natAbs) = (ns.foldl (fun f n => (Int.gcd f n : Int)) f) * n.natAbs
  | [], f => rfl
  | c :: ns, f => by
    have e : ((Int.gcd (f * n.natAbs) (c * n) : Nat) : Int) = (Int.gcd f c : Int) * n.natAbs := by
      rw [Int.gcd, Int.natAbs_mul, Int.natAbs_mul, Int.natAbs_natCast, Nat.gcd_mul_right, Int.gcd]
      exact Int.natCast_mul ..
    rw [List.map_cons, List.foldl_cons, List.foldl_cons, e, gcF_map_mul n ns]
theorem gcA_map_mul (n : Int) (ns : List Int) : gcA (ns.map fun y => y * n) = gcA ns * n.natAbs := by
  have := gcF_map_mul n ns 0
  rwa [Int.zero_mul] at this
theorem dvL_map_mul {k : Int} (h : k ≠ 0) (p : List Int) : dvL (p.map fun y => y * k) k = p := by
  unfold dvL
  rw [List.map_map]
  conv => rhs; rw [← List.map_id p]
  exact List.map_congr_left fun y _ => Int.mul_fdiv_cancel y h
theorem prL_of {p q : List Int} {c : Int} (hp : p ≠ []) (hq : p = q.map fun y => y * c) (hc : c = if ldL p > 0 then gcA p else -gcA p) (h0 : c ≠ 0) : prL p = q := by
  unfold prL
  rw [if_neg hp, ← hc, hq, dvL_map_mul h0]
theorem prL_scale {q : List Int} {n : Int} (hq : q ≠ []) (h1 : gcA q = 1) (h2 : 0 < ldL q) (hn : n ≠ 0) : prL (q.map fun y => y * n) = q := by
  refine prL_of (c := n) (by simpa using hq) rfl ?_ hn
  rw [ldL_map_mul, gcA_map_mul, h1]
  split
  · next h =>
    have : 0 < n := by
      rcases Int.lt_or_le 0 n with q | q
      · exact q
      · have := Int.mul_nonpos_of_nonneg_of_nonpos (Int.le_of_lt h2) q
        omega
    omega
  · next h =>
    have : n < 0 := by
      rcases Int.lt_or_le n 0 with q | q
      · exact q
      · have := Int.mul_pos h2 (by omega : 0 < n)
        omega
    omega

end
section
open PySem.Builtin.Int
/-! sizes -/
def Bd (B : Nat) (p : List Int) : Prop := ∀ c ∈ p, intBits c ≤ B
theorem Bd.nil (B : Nat) : Bd B [] := fun c hc => by cases hc
theorem Bd.mono {B C : Nat} {p : List Int} (h : Bd B p) (hl : B ≤ C) : Bd C p := fun c hc => Nat.le_trans (h c hc) hl
theorem Bd.map_mul {B K : Nat} {p : List Int} {k : Int} (h : Bd B p) (hk : intBits k ≤ K) : Bd (B + K) (p.map fun y => y * k) := fun c hc => by
  obtain ⟨y, hy, rfl⟩ := List.mem_map.mp hc
  exact intBits_mul_le (h y hy) hk
theorem Bd.scL {B K : Nat} {p : List Int} {k : Int} (h : Bd B p) (hk : intBits k ≤ K) : Bd (B + K) (scL p k) := by
  unfold Mine.scL
  split
  · exact h.map_mul hk
  · exact Bd.nil _
theorem Bd.rsL {B : Nat} {p : List Int} (h : Bd B p) (m : Nat) : Bd B (rsL p m) := by
  unfold Mine.rsL
  split
  · exact Bd.nil _
  · intro c hc
    rcases List.mem_append.mp hc with q | q
    · rw [(List.mem_replicate.mp q).2]; exact Nat.zero_le _
    · exact h c q
theorem Bd.sum {B : Nat} : ∀ {a b : List Int}, Bd B a → Bd B b → Bd (B + 1) (sumL a b)
  | [], b, _, hb => by rw [sumL]; exact hb.mono (Nat.le_succ _)
  | x :: a, [], ha, _ => by rw [sumL]; exact ha.mono (Nat.le_succ _)
  | x :: a, y :: b, ha, hb => by
    intro c hc
    rw [sumL] at hc
    rcases List.mem_cons.mp hc with e | e
    · rw [e]
      have := intBits_add_le (ha x (by simp)) (hb y (by simp))
      rwa [Nat.max_self] at this
    · exact Bd.sum (fun c hc => ha c (by simp [hc])) (fun c hc => hb c (by simp [hc])) c e
theorem Bd.ngL {B : Nat} {p : List Int} (h : Bd B p) : Bd B (ngL p) := fun c hc => by
  obtain ⟨y, hy, rfl⟩ := List.mem_map.mp hc
  exact intBits_neg_le (h y hy)
theorem mem_trL : ∀ {p : List Int} {c : Int}, c ∈ trL p → c ∈ p
  | [], c, h => h
  | d :: t, c, h => by
    rw [trL] at h
    have ih := @mem_trL t c
    cases q : trL t with
    | nil =>
      rw [q] at h
      simp only [consT] at h
      split at h
      · cases h
      · simp only [List.mem_singleton] at h; simp [h]
    | cons e r =>
      rw [q] at h ih
      rcases List.mem_cons.mp h with g | g
      · simp [g]
      · exact List.mem_cons_of_mem _ (ih g)
theorem Bd.trL {B : Nat} {p : List Int} (h : Bd B p) : Bd B (trL p) := fun c hc => h c (mem_trL hc)
theorem Bd.sbL {B : Nat} {a b : List Int} (ha : Bd B a) (hb : Bd B b) : Bd (B + 1) (sbL a b) := (ha.sum hb.ngL).trL
theorem Bd.ld {B : Nat} {p : List Int} (h : Bd B p) : intBits (ldL p) ≤ B := by
  rcases Classical.em (p = []) with e | e
  · rw [e]; exact Nat.zero_le _
  · exact h _ (ldL_mem e)
theorem Bd.mulOk {B K : Nat} {p : List Int} {k : Int} (h : Bd B p) (hk : intBits k ≤ K) (hl : B + K ≤ 134217728) : ∀ n ∈ p, IntMulOk n k := fun n hn => IntMulOk.of_le (h n hn) hk hl
/-! the pseudo-division ends, and what it gives -/
theorem ps_total {b : List Int} {Bb : Nat} (hb : Tr b) (h0 : b ≠ []) (hB : Bd Bb b) : ∀ (left : Nat) (rest found : List Int) (B : Nat), rest.length < b.length + left → Tr rest → Bd B rest → Bd B found → B + (left + 1) * (Bb + 2) ≤ 67108864 →
    ∃ r, PsRun b rest found (left : Nat) r ∧ Tr r ∧ r.length < b.length ∧ ∃ q, ∀ x, ldL b ^ left * ev rest x = ev q x * ev b x + ev r x := by
  intro left
  induction left with
  | zero =>
    intro rest found B hl hr h1 h2 hs
    have hk : intBits (ldL b ^ 0) ≤ 1 := by rw [Int.pow_zero]; decide
    refine ⟨_, .done (by omega) (by omega) (by simp) (h2.mulOk (K := 1) hk (by omega)) (h1.mulOk (K := 1) hk (by omega)), tr_scL hr _, Nat.lt_of_le_of_lt (scL_length_le _ _) (by omega), [], fun x => ?_⟩
    rw [ev_scL]
    simp only [ev, Int.pow_zero, Int.natCast_zero, Int.toNat_zero]
    omega
  | succ l IH =>
    intro rest found B hl hr h1 h2 hs
    have hb' := List.length_pos_iff.mpr h0
    have hld : ldL b ≠ 0 := hb.ld h0
    rw [Nat.succ_mul] at hs
    rcases Nat.lt_or_ge rest.length b.length with g | g
    · have hk := intBits_pow_le hB.ld (l + 1)
      have hsz : Bb * (l + 1) ≤ (l + 1) * (Bb + 2) := by rw [Nat.mul_comm]; exact Nat.mul_le_mul_left _ (by omega)
      refine ⟨_, .done g (by omega) ?_ (h2.mulOk (K := Bb * (l + 1) + 1) (by simpa using hk) (by omega)) (h1.mulOk (K := Bb * (l + 1) + 1) (by simpa using hk) (by omega)), tr_scL hr _, Nat.lt_of_le_of_lt (scL_length_le _ _) g, [], fun x => ?_⟩
      · have h3 : intBits (ldL b) * (l + 1) ≤ Bb * (l + 1) := Nat.mul_le_mul_right _ hB.ld
        have h4 : intBits (ldL b) * (l + 1) ≤ 134217728 := by omega
        rw [← Int.natCast_mul]
        exact Int.le_trans (Int.ofNat_le.mpr h4) (by decide)
      · rw [ev_scL]
        simp only [ev, Int.toNat_natCast]
        rw [Int.mul_comm]
        omega
    · have hr0 : rest ≠ [] := by intro e; rw [e] at g; simp at g; exact h0 g
      have hlr := hr.ld hr0
      have e1 : Mine.scL rest (ldL b) = rest.map fun y => y * ldL b := by unfold Mine.scL; rw [if_pos hld]
      have e2 : Mine.scL b (ldL rest) = b.map fun y => y * ldL rest := by unfold Mine.scL; rw [if_pos hlr]
      have n2 : Mine.scL b (ldL rest) ≠ [] := by rw [e2]; simpa using h0
      have hsh : (Mine.sbL (Mine.scL rest (ldL b)) (Mine.rsL (Mine.scL b (ldL rest)) (rest.length - b.length))).length < rest.length := by
        have := sb_shorter (a := Mine.scL rest (ldL b)) (b := Mine.rsL (Mine.scL b (ldL rest)) (rest.length - b.length)) (by rw [rsL_length n2, e1, e2, List.length_map, List.length_map]; omega) (by rw [ldL_rsL n2, e1, e2, ldL_map_mul, ldL_map_mul]; exact Int.mul_comm ..) (by rw [e1]; simpa using hr0)
        rwa [show (Mine.scL rest (ldL b)).length = rest.length by rw [e1, List.length_map]] at this
      obtain ⟨r, hrun, ht, hrl, q, hq⟩ := IH (Mine.sbL (Mine.scL rest (ldL b)) (Mine.rsL (Mine.scL b (ldL rest)) (rest.length - b.length))) (Mine.sbL (Mine.scL found (ldL b)) (Mine.rsL [-ldL rest] (rest.length - b.length))) (B + Bb + 1)
        (by omega) (tr_sbL _ _) ((h1.scL hB.ld).sbL ((Bd.scL hB h1.ld).rsL _ |>.mono (by omega)))
        ((h2.scL hB.ld).sbL (Bd.rsL (fun c hc => by rw [List.mem_singleton.mp hc]; exact Nat.le_trans (intBits_neg_le h1.ld) (by omega)) _)) (by omega)
      refine ⟨r, .step g (h2.mulOk hB.ld (by omega)) (h1.mulOk hB.ld (by omega)) (hB.mulOk h1.ld (by omega)) hsh ?_, ht, hrl, sumL q (Mine.rsL [ldL b ^ l * ldL rest] (rest.length - b.length)), fun x => ?_⟩
      · rwa [show (((l + 1 : Nat) : Int) - 1) = (l : Int) by omega]
      · have := hq x
        rw [ev_sbL, ev_scL, ev_rsL, ev_scL] at this
        rw [ev_sum, ev_rsL, Int.pow_succ]
        simp only [ev]
        grind
/-- the rest of the pseudo-division is the list that the identity names -/
theorem ps_of {a b q r : List Int} {Bb : Nat} (hb : Tr b) (h0 : b ≠ []) (ha : Tr a) (hB : Bd Bb b) (hA : Bd Bb a) (hs : Bb + (a.length + 2) * (Bb + 2) ≤ 67108864)
    (hr : Tr r) (hrl : r.length < b.length) (h : ∀ x, ldL b ^ (a.length + 1 - b.length) * ev a x = ev q x * ev b x + ev r x) : PsRun b a [] ((a.length + 1 - b.length : Nat) : Int) r := by
  have hb' := List.length_pos_iff.mpr h0
  obtain ⟨r', hrun, ht, hl, q', hq⟩ := ps_total hb h0 hB (a.length + 1 - b.length) a [] Bb (by omega) ha hA (Bd.nil _) (by
    have : (a.length + 1 - b.length + 1) * (Bb + 2) ≤ (a.length + 2) * (Bb + 2) := Nat.mul_le_mul_right _ (by omega)
    omega)
  have e : ∀ x, ev (sbL r r') x = 0 := by
    refine small_mult (b := b) (s := sbL q' q) hb h0 (fun x => ?_) ?_
    · have h1 := h x
      have h2 := hq x
      rw [ev_sbL, ev_sbL]
      grind
    · have := sbL_length_le r r'
      omega
  have : r = r' := tr_ext hr ht fun x => by
    have := e x
    rw [ev_sbL] at this
    omega
  rwa [this]

end
section
open PySem.Builtin.Int
theorem ex_total {b : List Int} {Bb : Nat} (hb : Tr b) (h0 : b ≠ []) (hB : Bd Bb b) : ∀ (n : Nat) (rest found : List Int) (B : Nat), rest.length ≤ n → rest.length < b.length + found.length → (∀ j, j < rest.length + 1 - b.length → found.getD j 0 = 0) → Tr rest → Bd B rest → B + (n + 1) * (Bb + 2) ≤ 67108864 →
    ∃ r, ExRun b rest found r ∧ (∀ q, r = some q → Tr q ∧ ∃ s, ∀ x, ev q x = ev found x + ev s x ∧ ev rest x = ev s x * ev b x) ∧ (∀ s, (∀ x, ev rest x = ev s x * ev b x) → ∃ q, r = some q) := by
  have hb' := List.length_pos_iff.mpr h0
  have hld : ldL b ≠ 0 := hb.ld h0
  intro n
  induction n with
  | zero =>
    intro rest found B hl hf hz hr h1 hs
    have e : rest = [] := List.eq_nil_of_length_eq_zero (by omega)
    subst e
    refine ⟨_, .done hb', fun q hq => ?_, fun s _ => ⟨_, rfl⟩⟩
    cases hq
    exact ⟨tr_trL _, [], fun x => ⟨by rw [ev_trL]; simp [ev], by simp [ev]⟩⟩
  | succ n IH =>
    intro rest found B hl hf hz hr h1 hs
    rw [Nat.succ_mul] at hs
    rcases Classical.em (rest = []) with e | hr0
    · subst e
      refine ⟨_, .done hb', fun q hq => ?_, fun s _ => ⟨_, rfl⟩⟩
      cases hq
      exact ⟨tr_trL _, [], fun x => ⟨by rw [ev_trL]; simp [ev], by simp [ev]⟩⟩
    · rcases Nat.lt_or_ge rest.length b.length with g | g
      · refine ⟨_, .left g hr0, (fun q hq => by cases hq), fun s h => absurd (tr_zero hr (small_mult hb h0 h g)) hr0⟩
      · have hlr := hr.ld hr0
        rcases Classical.em ((ldL rest).fmod (ldL b) = 0) with f | f
        · have hnum : ldL b * (ldL rest).fdiv (ldL b) = ldL rest := by
            have := Int.fmod_def (ldL rest) (ldL b)
            omega
          generalize hk : (ldL rest).fdiv (ldL b) = num at hnum
          have hkb : intBits num ≤ B := by rw [← hk]; exact intBits_fdiv_le h1.ld
          have hn0 : num ≠ 0 := by intro e; rw [e, Int.mul_zero] at hnum; exact hlr hnum.symm
          have e2 : Mine.scL b num = b.map fun y => y * num := by unfold Mine.scL; rw [if_pos hn0]
          have n2 : Mine.scL b num ≠ [] := by rw [e2]; simpa using h0
          have hsh : (Mine.sbL rest (Mine.rsL (Mine.scL b num) (rest.length - b.length))).length < rest.length :=
            sb_shorter (by rw [rsL_length n2, e2, List.length_map]; omega) (by rw [ldL_rsL n2, e2, ldL_map_mul, hnum]) hr0
          have hfz := hz (rest.length - b.length) (by omega)
          obtain ⟨r, hrun, hq, hc⟩ := IH (Mine.sbL rest (Mine.rsL (Mine.scL b num) (rest.length - b.length))) (found.set (rest.length - b.length) num) (B + Bb + 1) (by omega) (by rw [List.length_set]; omega)
            (fun j hj => by
              have hne : rest.length - b.length ≠ j := by omega
              rw [List.getD_eq_getElem?_getD, List.getElem?_set_ne hne, ← List.getD_eq_getElem?_getD]
              exact hz j (by omega))
            (tr_sbL _ _) ((h1.mono (by omega)).sbL ((Bd.scL hB hkb).rsL _ |>.mono (by omega))) (by omega)
          have hev : ∀ x, ev (found.set (rest.length - b.length) num) x = ev found x + x ^ (rest.length - b.length) * num := fun x => by
            rw [ev_set _ _ _ _ (by omega), hfz, Int.sub_zero]
          refine ⟨r, .step g f ?_ (by omega) ?_ ?_, fun q e => ?_, fun s h => ?_⟩
          · rw [hk]; exact hB.mulOk hkb (by omega)
          · rw [hk]; exact hsh
          · rw [hk]; exact hrun
          · obtain ⟨ht, s, h⟩ := hq q e
            refine ⟨ht, sumL s (Mine.rsL [num] (rest.length - b.length)), fun x => ?_⟩
            obtain ⟨h3, h4⟩ := h x
            rw [hev] at h3
            rw [ev_sbL, ev_rsL, ev_scL] at h4
            rw [ev_sum, ev_rsL]
            simp only [ev]
            constructor <;> grind
          · refine hc (Mine.sbL s (Mine.rsL [num] (rest.length - b.length))) fun x => ?_
            have := h x
            rw [ev_sbL, ev_rsL, ev_scL, ev_sbL, ev_rsL]
            simp only [ev]
            grind
        · refine ⟨_, .nodiv g f, (fun q hq => by cases hq), fun s h => absurd ?_ f⟩
          have hs0 : trL s ≠ [] := by
            intro e
            refine hr0 (tr_zero hr fun x => ?_)
            rw [h, ← ev_trL x s, e]
            simp [ev]
          have e : rest = mulL (trL s) b := tr_ext hr (tr_mul (tr_trL s) hb hs0 h0) fun x => by rw [ev_mul, ev_trL, h]
          rw [e, ldL_mul hs0 h0]
          exact Int.mul_fmod_left ..
theorem ex_any {a b : List Int} {Bb : Nat} (hb : Tr b) (h0 : b ≠ []) (ha : Tr a) (hB : Bd Bb b) (hA : Bd Bb a) (hs : Bb + (a.length + 1) * (Bb + 2) ≤ 67108864) :
    ∃ r, ExAny a b r ∧ (∀ q, r = some q → Tr q ∧ ∀ x, ev a x = ev q x * ev b x) ∧ (∀ s, (∀ x, ev a x = ev s x * ev b x) → ∃ q, r = some q) := by
  have hb' := List.length_pos_iff.mpr h0
  obtain ⟨r, h1, h2, h3⟩ := ex_total hb h0 hB a.length a (List.replicate (a.length + 1 - b.length) 0) Bb (Nat.le_refl _) (by rw [List.length_replicate]; omega)
    (fun j _ => by rw [List.getD_eq_getElem?_getD, List.getElem?_replicate]; split <;> rfl) ha hA hs
  refine ⟨r, ⟨hb', hb.ld h0, h1⟩, fun q e => ?_, h3⟩
  obtain ⟨ht, s, h⟩ := h2 q e
  refine ⟨ht, fun x => ?_⟩
  obtain ⟨h4, h5⟩ := h x
  rw [ev_zeros, Int.zero_add] at h4
  rw [h4, h5]
theorem ex_ok {a b q : List Int} {Bb : Nat} (hb : Tr b) (h0 : b ≠ []) (ha : Tr a) (hq : Tr q) (hB : Bd Bb b) (hA : Bd Bb a) (hs : Bb + (a.length + 1) * (Bb + 2) ≤ 67108864) (h : ∀ x, ev a x = ev q x * ev b x) : ExOK a b q := by
  obtain ⟨r, h1, h2, h3⟩ := ex_any hb h0 ha hB hA hs
  obtain ⟨q', rfl⟩ := h3 q h
  obtain ⟨ht, h4⟩ := h2 q' rfl
  have e : ∀ x, ev (sbL q' q) x = 0 := by
    intro x
    have z : ∀ y, ev (sbL q' q) y * ev b y = 0 := fun y => by
      have := h y
      have := h4 y
      rw [ev_sbL]
      grind
    rcases Classical.em (trL (sbL q' q) = []) with g | g
    · rw [← ev_trL, g]; rfl
    · exact absurd (tr_zero (tr_mul (tr_trL _) hb g h0) fun y => by rw [ev_mul, ev_trL]; exact z y) (mulL_ne g h0)
  have : q' = q := tr_ext ht hq fun x => by
    have := e x
    rw [ev_sbL] at this
    omega
  rw [this] at h1
  exact h1
theorem ex_none {a b : List Int} {Bb : Nat} {y : Int} (hb : Tr b) (h0 : b ≠ []) (ha : Tr a) (hB : Bd Bb b) (hA : Bd Bb a) (hs : Bb + (a.length + 1) * (Bb + 2) ≤ 67108864) (h : ¬ ev b y ∣ ev a y) : ExAny a b none := by
  obtain ⟨r, h1, h2, h3⟩ := ex_any hb h0 ha hB hA hs
  cases r with
  | none => exact h1
  | some q =>
    refine absurd ?_ h
    obtain ⟨_, h4⟩ := h2 q rfl
    rw [h4 y]
    exact Int.dvd_mul_left ..

end
section
open PySem.Builtin.Int
/-! lists with the lead first, for the kernel -/
def subs (l k : Int) : List Int → List Int → List Int
  | [], _ => []
  | x :: r, [] => (x * l) :: subs l k r []
  | x :: r, y :: b => (x * l - k * y) :: subs l k r b
def pdd (l gam : Int) (bt : List Int) : Nat → List Int → List Int
  | 0, r => r
  | _ + 1, [] => []
  | n + 1, c :: r => pdd l gam bt n (subs l (gam * c) r bt)
def strip : List Int → List Int
  | [] => []
  | c :: r => if c = 0 then strip r else c :: r
def small (x : Int) : Bool := Nat.blt x.natAbs (2 ^ 1000)
def chk (gam : Int) : Nat → List Int → List Int → Int → Int → Bool
  | 0, _, _, _, _ => false
  | n + 1, a, b, f, h => match b with
    | [] => false
    | [c] => c != 0
    | lb :: y :: bt =>
      let s := a.length - (bt.length + 2)
      let l := gam * lb
      let m := f * h ^ s
      let r := strip (pdd l gam (y :: bt) (s + 1) a)
      let r' := r.map fun x => x / m
      Nat.ble (bt.length + 2) a.length && (m != 0) && (h != 0) && (l != 0) && small f && small h && !r'.isEmpty && r'.all small && (r'.map (fun x => x * m) == r) && chk gam n (lb :: y :: bt) r' l (nhL l s h)
/-- the value, lead first -/
def ed : List Int → Int → Int
  | [], _ => 0
  | c :: r, x => c * x ^ r.length + ed r x
theorem ev_reverse (x : Int) : ∀ p : List Int, ev p.reverse x = ed p x
  | [] => rfl
  | c :: r => by
    rw [List.reverse_cons, ev_append, ev_reverse x r, List.length_reverse]
    simp only [ev, ed]
    grind
theorem subs_length (l k : Int) : ∀ r b : List Int, (subs l k r b).length = r.length
  | [], b => by simp [subs]
  | x :: r, [] => by simp [subs, subs_length l k r []]
  | x :: r, y :: b => by simp [subs, subs_length l k r b]
theorem ed_subs_nil (l k x : Int) : ∀ r : List Int, ed (subs l k r []) x = l * ed r x
  | [] => by simp [subs, ed]
  | c :: r => by
    simp only [subs, ed, subs_length, ed_subs_nil l k x r]
    grind
theorem ed_subs (l k x : Int) : ∀ r b : List Int, b.length ≤ r.length → ed (subs l k r b) x = l * ed r x - k * x ^ (r.length - b.length) * ed b x
  | r, [], _ => by
    rw [ed_subs_nil]
    simp [ed]
  | [], y :: b, h => absurd h (by simp)
  | c :: r, y :: b, h => by
    have hl : b.length ≤ r.length := by simpa using h
    have ih := ed_subs l k x r b hl
    simp only [subs, ed, subs_length, ih, List.length_cons]
    have e : r.length + 1 - (b.length + 1) = r.length - b.length := by omega
    have e2 : x ^ r.length = x ^ (r.length - b.length) * x ^ b.length := by rw [← Int.pow_add]; congr 1; omega
    rw [e, e2]
    grind
theorem pdd_length (l gam : Int) (bt : List Int) : ∀ (n : Nat) (r : List Int), (pdd l gam bt n r).length = r.length - n
  | 0, r => rfl
  | n + 1, [] => by simp [pdd]
  | n + 1, c :: r => by rw [pdd, pdd_length l gam bt n, subs_length, List.length_cons]; omega
theorem ed_pdd (gam lb : Int) (bt : List Int) : ∀ (n : Nat) (r : List Int), bt.length + n ≤ r.length → ∃ q, ∀ x, (gam * lb) ^ n * ed r x = ev q x * ed (lb :: bt) x + ed (pdd (gam * lb) gam bt n r) x
  | 0, r, _ => ⟨[], fun x => by simp [ev, pdd]⟩
  | n + 1, [], h => absurd h (by simp)
  | n + 1, c :: r, h => by
    have hl : bt.length + n ≤ r.length := by simp only [List.length_cons] at h; omega
    obtain ⟨q, hq⟩ := ed_pdd gam lb bt n (subs (gam * lb) (gam * c) r bt) (by rw [subs_length]; exact hl)
    refine ⟨sumL q (rsL [(gam * lb) ^ n * gam * c] (r.length - bt.length)), fun x => ?_⟩
    have h1 := hq x
    rw [ed_subs _ _ _ _ _ (by omega)] at h1
    rw [ev_sum, ev_rsL, pdd, Int.pow_succ]
    have e2 : x ^ r.length = x ^ (r.length - bt.length) * x ^ bt.length := by rw [← Int.pow_add]; congr 1; omega
    simp only [ev, ed, e2] at h1 ⊢
    grind
theorem ed_strip (x : Int) : ∀ r : List Int, ed (strip r) x = ed r x
  | [] => rfl
  | c :: r => by
    rw [strip]
    split
    · next h => rw [ed_strip x r, h, ed]; omega
    · rfl
theorem strip_length : ∀ r : List Int, (strip r).length ≤ r.length
  | [] => Nat.le_refl _
  | c :: r => by
    rw [strip]
    split
    · exact Nat.le_trans (strip_length r) (by simp)
    · exact Nat.le_refl _
theorem strip_head : ∀ {r t : List Int} {c : Int}, strip r = c :: t → c ≠ 0
  | [], t, c, h => by cases h
  | d :: r, t, c, h => by
    rw [strip] at h
    split at h
    · exact strip_head h
    · next g => cases h; exact g
theorem ldL_reverse (c : Int) (r : List Int) : ldL (c :: r).reverse = c := by
  rw [List.reverse_cons, ldL_append]
theorem tr_reverse {c : Int} (r : List Int) (h : c ≠ 0) : Tr (c :: r).reverse := Or.inr (by rw [ldL_reverse]; exact h)
theorem ed_map_mul (k x : Int) (r : List Int) : ed (r.map fun y => y * k) x = ed r x * k := by
  rw [← ev_reverse, ← ev_reverse, ← List.map_reverse, ev_map_mul]
/-! the embedding: lead first at 0, to lead last at t, times G -/
def Em (G : List Int) (t : Int) (p : List Int) : List Int := mulL G (trn t p.reverse)
theorem ev_Em (G : List Int) (t : Int) (p : List Int) (x : Int) : ev (Em G t p) x = ev G x * ed p (x - t) := by
  rw [Em, ev_mul, ev_trn, ev_reverse]
theorem rev_ne {p : List Int} (h : p ≠ []) : p.reverse ≠ [] := by simpa using h
theorem Em_length {G p : List Int} (t : Int) (hG : G ≠ []) (hp : p ≠ []) : (Em G t p).length = G.length + p.length - 1 := by
  rw [Em, mulL_length _ _ (List.length_pos_iff.mpr hG) (List.length_pos_iff.mpr (trn_ne t (rev_ne hp))), trn_length, List.length_reverse]
theorem Em_ne {G p : List Int} (t : Int) (hG : G ≠ []) (hp : p ≠ []) : Em G t p ≠ [] := mulL_ne hG (trn_ne t (rev_ne hp))
theorem ldL_Em {G : List Int} (t c : Int) (r : List Int) (hG : G ≠ []) : ldL (Em G t (c :: r)) = ldL G * c := by
  rw [Em, ldL_mul hG (trn_ne t (by simp)), ldL_trn, ldL_reverse]
theorem tr_Em {G : List Int} (t : Int) {c : Int} (r : List Int) (hG : G ≠ []) (hT : Tr G) (hc : c ≠ 0) : Tr (Em G t (c :: r)) :=
  tr_mul hT (tr_trn t (tr_reverse r hc)) hG (trn_ne t (by simp))
theorem Bd.trn {B : Nat} {t : Int} (ht : intBits t ≤ 5) : ∀ {p : List Int}, Bd B p → Bd (B + 6 * p.length) (trn t p)
  | [], _ => Bd.nil _
  | c :: r, h => by
    have ih := Bd.trn ht (p := r) fun d hd => h d (by simp [hd])
    have h1 : Bd (B + 6 * r.length + 5) ((Mine.trn t r).map fun y => y * (-t)) := ih.map_mul (intBits_neg_le ht)
    have h2 : Bd (B + 6 * r.length + 5) (c :: Mine.trn t r) := fun d hd => by
      rcases List.mem_cons.mp hd with e | e
      · rw [e]; exact Nat.le_trans (h c (by simp)) (by omega)
      · exact Nat.le_trans (ih d e) (by omega)
    exact (h2.sum h1).mono (by simp only [List.length_cons]; omega)
theorem Bd.mulL {B C : Nat} {q : List Int} (hq : Bd C q) : ∀ {p : List Int}, Bd B p → Bd (B + C + p.length) (mulL p q)
  | [], _ => Bd.nil _
  | [c], h => (hq.map_mul (h c (by simp))).mono (by simp only [List.length_cons]; omega)
  | c :: d :: r, h => by
    have ih := Bd.mulL hq (p := d :: r) fun e he => h e (by simp [he])
    have h1 : Bd (B + C + (d :: r).length) (q.map fun y => y * c) := (hq.map_mul (h c (by simp))).mono (by omega)
    have h2 : Bd (B + C + (d :: r).length) (0 :: Mine.mulL (d :: r) q) := fun e he => by
      rcases List.mem_cons.mp he with g | g
      · rw [g]; exact Nat.zero_le _
      · exact ih e g
    exact (h1.sum h2).mono (by simp only [List.length_cons]; omega)
theorem Bd.Em {B C : Nat} {G p : List Int} {t : Int} (ht : intBits t ≤ 5) (hG : Bd B G) (hp : Bd C p) : Bd (B + (C + 6 * p.length) + G.length) (Em G t p) := by
  have h1 : Bd C p.reverse := fun c hc => hp c (List.mem_reverse.mp hc)
  have := Bd.mulL (h1.trn ht) hG
  rwa [List.length_reverse] at this
theorem small_bits {x : Int} (h : small x = true) : intBits x ≤ 1000 := intBits_le_iff.mpr (Nat.blt_eq.mp h)

end
section
open PySem.Builtin.Int
theorem ev_nil (x : Int) : ev [] x = 0 := rfl
theorem Em_bd {G p : List Int} {t : Int} (ht : intBits t ≤ 5) (hB : Bd 100 G) (hGl : G.length ≤ 20) (hp : Bd 1000 p) (hl : p.length ≤ 20) : Bd 1240 (Em G t p) := (Bd.Em ht hB hp).mono (by omega)
theorem Em_len1 {G p : List Int} {g : Nat} (t : Int) (eg : G.length = g + 1) (hp : p ≠ []) : (Em G t p).length = g + p.length := by
  rw [Em_length t (List.length_pos_iff.mp (by rw [eg]; exact Nat.succ_pos g)) hp, eg, Nat.add_right_comm, Nat.add_sub_cancel]
theorem len_pred {G : List Int} (hG : G ≠ []) : ∃ g, G.length = g + 1 := ⟨G.length - 1, (Nat.succ_pred_eq_of_pos (List.length_pos_iff.mpr hG)).symm⟩
theorem chk_last {G a : List Int} {t c : Int} {f h : Int} (hG : G ≠ []) (hT : Tr G) (ht : intBits t ≤ 5) (hB : Bd 100 G) (hGl : G.length ≤ 20) (ha : a ≠ []) (hca : a.headD 0 ≠ 0) (hc : c ≠ 0) (hla : a.length ≤ 20) (hba : Bd 1000 a) (hbc : intBits c ≤ 1000) :
    SubRun (Em G t a) (Em G t [c]) f h (Em G t [c]) := by
  have hal := List.length_pos_iff.mpr ha
  have hgl := List.length_pos_iff.mpr hG
  obtain ⟨g, eg⟩ := len_pred hG
  have hg9 : g ≤ 19 := by rw [eg] at hGl; exact Nat.le_of_succ_le_succ hGl
  have l1 := Em_len1 t eg ha
  have l2 := Em_len1 (p := [c]) t eg (by simp)
  simp only [List.length_singleton] at l2
  rcases Nat.lt_or_ge 1 G.length with g | g
  · refine .zero (by omega) (by omega) ?_
    obtain ⟨ca, ra, rfl⟩ : ∃ ca ra, a = ca :: ra := List.exists_cons_of_ne_nil ha
    have hld : ldL (Em G t [c]) = ldL G * c := ldL_Em t c [] hG
    obtain ⟨k, hk⟩ : ∃ k, (Em G t (ca :: ra)).length + 1 - (Em G t [c]).length = k + 1 := ⟨ra.length, by rw [l1, l2, List.length_cons]; omega⟩
    refine ps_of (Bb := 1240) (q := (trn t (ca :: ra).reverse).map fun y => y * (ldL G * (ldL G * c) ^ k)) (tr_Em t [] hG hT hc) (Em_ne t hG (by simp)) (tr_Em t ra hG hT hca) (Em_bd ht hB hGl (fun d hd => by rw [List.mem_singleton.mp hd]; exact hbc) (by simp)) (Em_bd ht hB hGl hba hla) (by rw [l1]; omega) Tr.nil (by rw [l2]; simp) fun x => ?_
    rw [hk, hld, Int.pow_succ, ev_Em, ev_Em, ev_map_mul, ev_trn, ev_reverse, ev_nil]
    simp only [ed, List.length_nil, Int.pow_zero]
    grind
  · exact .done (by omega)
theorem chk_sound {G : List Int} {t : Int} (hG : G ≠ []) (hT : Tr G) (ht : intBits t ≤ 5) (hB : Bd 100 G) (hGl : G.length ≤ 20) : ∀ (n : Nat) (a b : List Int) (f h : Int), chk (ldL G) n a b f h = true → a ≠ [] → a.headD 0 ≠ 0 → a.length ≤ 20 → b.length ≤ a.length → Bd 1000 a → Bd 1000 b →
    ∃ c, c ≠ 0 ∧ intBits c ≤ 1000 ∧ SubRun (Em G t a) (Em G t b) f h (Em G t [c])
  | 0, a, b, f, h, hc => by simp [chk] at hc
  | n + 1, a, [], f, h, hc => by simp [chk] at hc
  | n + 1, a, [c], f, h, hc => fun ha hca hla hlb hba hbb => by
    have hc' : c ≠ 0 := by simpa [chk] using hc
    exact ⟨c, hc', hbb c (by simp), chk_last hG hT ht hB hGl ha hca hc' hla hba (hbb c (by simp))⟩
  | n + 1, a, lb :: y :: bt, f, h, hc => fun ha hca hla hlb hba hbb => by
    rw [chk] at hc
    simp only [Bool.and_eq_true, bne_iff_ne, ne_eq, Nat.ble_eq, Bool.not_eq_true', List.isEmpty_eq_false_iff, beq_iff_eq] at hc
    generalize hs : a.length - (bt.length + 2) = s at hc
    generalize hr : strip (pdd (ldL G * lb) (ldL G) (y :: bt) (s + 1) a) = r at hc
    generalize hr' : (r.map fun x => x / (f * h ^ s)) = r' at hc
    obtain ⟨⟨⟨⟨⟨⟨⟨⟨⟨h1, h2⟩, h3⟩, h4⟩, h5⟩, h6⟩, h7⟩, h8⟩, h9⟩, h10⟩ := hc
    clear hr'
    obtain ⟨c', t', rfl⟩ := List.exists_cons_of_ne_nil h7
    have hlb0 : lb ≠ 0 := fun e => h4 (by rw [e, Int.mul_zero])
    have hc0 : c' ≠ 0 := by
      rw [← h9, List.map_cons] at hr
      have := strip_head hr
      intro e
      rw [e, Int.zero_mul] at this
      exact this rfl
    have hbb' : Bd 1000 (c' :: t') := fun d hd => small_bits (List.all_eq_true.mp h8 d hd)
    have hrl : (c' :: t').length ≤ bt.length + 1 := by
      have e1 := strip_length (pdd (ldL G * lb) (ldL G) (y :: bt) (s + 1) a)
      rw [hr, pdd_length, ← h9, List.length_map] at e1
      omega
    obtain ⟨cl, k1, k2, k3⟩ := chk_sound hG hT ht hB hGl n (lb :: y :: bt) (c' :: t') _ _ h10 (by simp) hlb0 (Nat.le_trans hlb hla) (by simp only [List.length_cons] at hrl ⊢; omega) hbb hbb'
    refine ⟨cl, k1, k2, ?_⟩
    have hgl := List.length_pos_iff.mpr hG
    obtain ⟨g, eg⟩ := len_pred hG
    have hg9 : g ≤ 19 := by rw [eg] at hGl; exact Nat.le_of_succ_le_succ hGl
    have l1 := Em_len1 t eg ha
    have l2 := Em_len1 (p := lb :: y :: bt) t eg (by simp)
    have l3 := Em_len1 (p := c' :: t') t eg (by simp)
    simp only [List.length_cons] at l2 l3 hlb hrl
    obtain ⟨ca, ra, rfl⟩ : ∃ ca ra, a = ca :: ra := List.exists_cons_of_ne_nil ha
    have hld : ldL (Em G t (lb :: y :: bt)) = ldL G * lb := ldL_Em t lb _ hG
    have hsz : ((Em G t (ca :: ra)).length : Int) - ((Em G t (lb :: y :: bt)).length : Int) = (s : Int) := by rw [l1, l2]; omega
    have hmany : (Em G t (ca :: ra)).length + 1 - (Em G t (lb :: y :: bt)).length = s + 1 := by omega
    have hbB := Em_bd ht hB hGl hbb (Nat.le_trans hlb hla)
    obtain ⟨q0, hq0⟩ := ed_pdd (ldL G) lb (y :: bt) (s + 1) (ca :: ra) (by simp only [List.length_cons] at hs h1 ⊢; omega)
    have hld3 : ldL (Em G t (c' :: t')) = ldL G * c' := ldL_Em t c' _ hG
    have hP := ps_of (a := Em G t (ca :: ra)) (b := Em G t (lb :: y :: bt)) (Bb := 1240) (q := trn t q0) (r := (Em G t (c' :: t')).map fun x => x * (f * h ^ s)) (tr_Em t _ hG hT hlb0) (Em_ne t hG (by simp)) (tr_Em t ra hG hT hca) hbB (Em_bd ht hB hGl hba hla) (by rw [l1]; simp only [List.length_cons] at hla ⊢; omega)
      (Or.inr (by rw [ldL_map_mul, hld3]; exact fun e => (Int.mul_eq_zero.mp e).elim (fun e => (Int.mul_eq_zero.mp e).elim (hT.ld hG) hc0) h2)) (by rw [List.length_map, l3, l2]; omega) (fun x => by
        have e := hq0 (x - t)
        have e2 : ed (strip (pdd (ldL G * lb) (ldL G) (y :: bt) (s + 1) (ca :: ra))) (x - t) = ed ((c' :: t').map fun x => x * (f * h ^ s)) (x - t) := by rw [hr, h9]
        rw [ed_strip, ed_map_mul] at e2
        rw [e2] at e
        rw [hmany, hld, ev_Em, ev_Em, ev_map_mul, ev_trn, ev_Em]
        grind)
    have hls : s ≤ 20 := by omega
    refine .step (by rw [l2]; omega) (by omega) hP (by rw [List.length_map, l3]; omega) (by rw [List.length_map, l3, l2]; omega) h3 (by rw [hld]; exact h4) ?_ ?_ ?_ ?_ ?_ ?_
    · rw [hsz, ← Int.natCast_mul]
      refine Int.le_trans (Int.ofNat_le.mpr (Nat.mul_le_mul (small_bits h6) hls)) (by decide)
    · rw [hsz, Int.toNat_natCast]
      refine IntMulOk.of_le (small_bits h5) (intBits_pow_le (small_bits h6) s) ?_
      have := Nat.mul_le_mul_left 1000 hls
      omega
    · rw [hsz, Int.toNat_natCast]; exact h2
    · rw [hsz, ← Int.natCast_mul]
      refine Int.le_trans (Int.ofNat_le.mpr (Nat.mul_le_mul hbB.ld hls)) (by decide)
    · rw [hsz]
      refine Int.le_trans (Int.mul_le_mul_of_nonneg_left (by omega : (s : Int) - 1 ≤ s) (Int.natCast_nonneg _)) ?_
      rw [← Int.natCast_mul]
      refine Int.le_trans (Int.ofNat_le.mpr (Nat.mul_le_mul (small_bits h6) hls)) (by decide)
    · rw [hsz, Int.toNat_natCast, dvL_map_mul h2, hld]
      exact k3

end
section
open PySem.Builtin.Int
theorem scL_ne {k : Int} (h : k ≠ 0) (p : List Int) : scL p k = p.map fun y => y * k := by unfold scL; rw [if_pos h]
theorem scL_one (p : List Int) : scL p 1 = p := by
  rw [scL_ne (by decide)]
  conv => rhs; rw [← List.map_id p]
  exact List.map_congr_left fun y _ => Int.mul_one y
/-- primitive, the lead above 0 -/
def Pm (p : List Int) : Prop := gcA p = 1 ∧ 0 < ldL p
theorem Pm.ne {p : List Int} (h : Pm p) : p ≠ [] := by
  rintro rfl
  exact absurd h.2 (by decide)
theorem Pm.tr {p : List Int} (h : Pm p) : Tr p := Or.inr (by have := h.2; omega)
theorem Pm.trn {p : List Int} (t : Int) (h : Pm p) : Pm (trn t p) := ⟨by rw [gcA_trn]; exact h.1, by rw [ldL_trn]; exact h.2⟩
theorem Pm.prL {p : List Int} {n : Int} (h : Pm p) (hn : n ≠ 0) : prL (p.map fun y => y * n) = p := prL_scale h.ne h.1 h.2 hn
theorem Pm.gcA {p : List Int} {n : Int} (h : Pm p) : gcA (p.map fun y => y * n) = n.natAbs := by rw [gcA_map_mul, h.1, Int.one_mul]
theorem map_one (p : List Int) : (p.map fun y => y * (1 : Int)) = p := by
  conv => rhs; rw [← List.map_id p]
  exact List.map_congr_left fun y _ => Int.mul_one y
theorem Pm.const {p : List Int} (h : Pm p) (hl : p.length = 1) : p = [1] := by
  obtain ⟨c, rfl⟩ := List.length_eq_one_iff.mp hl
  have h1 := h.1
  have h2 := h.2
  simp only [Mine.gcA, List.foldl_cons, List.foldl_nil, ldL, Int.gcd, Int.natAbs_zero, Nat.gcd_zero_left] at h1 h2
  have : c = 1 := by omega
  rw [this]
/-- what the kernel checks of a pair: A and B, lead first -/
def jobOK (gam : Int) (A B : List Int) : Bool :=
  decide (0 < A.headD 0) && decide (0 < B.headD 0) && A.all small && B.all small && Nat.ble A.length 20 && Nat.ble B.length 20 &&
    (if A.length < B.length then chk gam 20 B A 1 1 else chk gam 20 A B 1 1)
theorem Em_trn {G0 A : List Int} (t : Int) (hG : G0 ≠ []) (hA : A ≠ []) : Em (trn t G0) t A = trn t (mulL G0 A.reverse) := by
  rw [Em, trn_mul t hG (rev_ne hA)]
theorem head_ne {A : List Int} (h : 0 < A.headD 0) : A ≠ [] := by
  rintro rfl
  exact absurd h (by decide)
theorem ldL_rev_head : ∀ A : List Int, ldL A.reverse = A.headD 0
  | [] => rfl
  | c :: r => by rw [ldL_reverse]; rfl
theorem gcd_job {G0 A B : List Int} {t ka kb : Int} (hG : Pm G0) (hGl : G0.length ≤ 8) (hGb : Bd 50 G0) (ht : intBits t ≤ 5) (hj : jobOK (ldL G0) A B = true) (pA : Pm (mulL G0 A.reverse)) (pB : Pm (mulL G0 B.reverse)) (hka : ka ≠ 0) (hkb : kb ≠ 0) (hks : intBits ka ≤ 2000) :
    GcdRun ((trn t (mulL G0 A.reverse)).map fun y => y * ka) ((trn t (mulL G0 B.reverse)).map fun y => y * kb) ((trn t G0).map fun y => y * (Int.gcd ka kb : Int)) := by
  unfold jobOK at hj
  simp only [Bool.and_eq_true, decide_eq_true_eq, Nat.ble_eq] at hj
  obtain ⟨⟨⟨⟨⟨⟨h3, h4⟩, h5⟩, h6⟩, h7⟩, h8⟩, h9⟩ := hj
  have hA := head_ne h3
  have hB := head_ne h4
  have hG' := hG.trn t
  have hGB : Bd 100 (trn t G0) := (hGb.trn ht).mono (by omega)
  have hGL : (trn t G0).length ≤ 20 := by rw [trn_length]; omega
  have pA' := pA.trn t
  have pB' := pB.trn t
  have eA := Em_trn t hG.ne hA
  have eB := Em_trn t hG.ne hB
  have bA : Bd 1000 A := fun c hc => small_bits (List.all_eq_true.mp h5 c hc)
  have bB : Bd 1000 B := fun c hc => small_bits (List.all_eq_true.mp h6 c hc)
  have lA := Em_length t hG'.ne hA
  have lB := Em_length t hG'.ne hB
  have hrun : ∃ c, c ≠ 0 ∧ intBits c ≤ 1000 ∧ (if (Em (trn t G0) t A).length < (Em (trn t G0) t B).length then SubRun (Em (trn t G0) t B) (Em (trn t G0) t A) 1 1 (Em (trn t G0) t [c]) else SubRun (Em (trn t G0) t A) (Em (trn t G0) t B) 1 1 (Em (trn t G0) t [c])) := by
    have hpl := List.length_pos_iff.mpr hG'.ne
    have hpA := List.length_pos_iff.mpr hA
    have hpB := List.length_pos_iff.mpr hB
    split at h9
    · next q =>
      obtain ⟨c, k1, k2, k3⟩ := chk_sound (G := trn t G0) hG'.ne hG'.tr ht hGB hGL 20 B A 1 1 (by rw [ldL_trn]; exact h9) hB (by omega) h8 (by omega) bB bA
      exact ⟨c, k1, k2, by rw [if_pos (by omega)]; exact k3⟩
    · next q =>
      obtain ⟨c, k1, k2, k3⟩ := chk_sound (G := trn t G0) hG'.ne hG'.tr ht hGB hGL 20 A B 1 1 (by rw [ldL_trn]; exact h9) hA (by omega) h7 (by omega) bA bB
      exact ⟨c, k1, k2, by rw [if_neg (by omega)]; exact k3⟩
  obtain ⟨c, hc0, hcb, hrun⟩ := hrun
  have eC : Em (trn t G0) t [c] = (trn t G0).map fun y => y * c := ev_ext (by rw [Em_length t hG'.ne (by simp)]; simp) fun x => by
    rw [ev_Em, ev_map_mul]
    simp only [ed, List.length_nil, Int.pow_zero]
    grind
  rw [eC, eA, eB] at hrun
  have hgn : ((Int.gcd ka kb : Nat) : Int) ≠ 0 := by
    intro e
    have := Int.gcd_eq_zero_iff.mp (Int.natCast_eq_zero.mp e)
    exact hka this.1
  have ge : ((Int.gcd (Mine.gcA ((Mine.trn t (mulL G0 A.reverse)).map fun y => y * ka)) (Mine.gcA ((Mine.trn t (mulL G0 B.reverse)).map fun y => y * kb)) : Nat) : Int) = (Int.gcd ka kb : Int) := by
    rw [pA'.gcA, pB'.gcA, Int.gcd, Int.natAbs_natCast, Int.natAbs_natCast, Int.gcd]
  have hgb : intBits ((Int.gcd ka kb : Nat) : Int) ≤ 2000 := by
    refine intBits_le_of_natAbs ?_ hks
    rw [Int.natAbs_natCast]
    exact Nat.gcd_le_left _ (Int.natAbs_pos.mpr hka)
  have hz : ∀ {p : List Int} {k : Int}, Pm p → k ≠ 0 → Mine.gcA (p.map fun y => y * k) ≠ 0 := fun {p k} hp hk => by
    rw [hp.gcA]
    have := Int.natAbs_pos.mpr hk
    omega
  rw [← pA'.prL hka, ← pB'.prL hkb] at hrun
  have hmul : ∀ n ∈ Mine.prL ((Mine.trn t G0).map fun y => y * c), IntMulOk n (Int.gcd (Mine.gcA ((Mine.trn t (mulL G0 A.reverse)).map fun y => y * ka)) (Mine.gcA ((Mine.trn t (mulL G0 B.reverse)).map fun y => y * kb)) : Nat) := by
    rw [hG'.prL hc0, ge]
    exact hGB.mulOk hgb (by decide)
  have hne1 : 0 < ((Mine.trn t (mulL G0 A.reverse)).map fun y => y * ka).length := by rw [List.length_map]; exact List.length_pos_iff.mpr pA'.ne
  have hne2 : 0 < ((Mine.trn t (mulL G0 B.reverse)).map fun y => y * kb).length := by rw [List.length_map]; exact List.length_pos_iff.mpr pB'.ne
  rcases Nat.lt_or_ge 1 ((Mine.trn t G0).map fun y => y * c).length with g | g
  · have := GcdRun.many hne2 hne1 (hz pA' hka) (hz pB' hkb) hrun (by rw [List.length_map]; omega) (hz hG' hc0) hmul g
    rwa [ge, hG'.prL hc0, scL_ne hgn] at this
  · have := GcdRun.one hne2 hne1 (hz pA' hka) (hz pB' hkb) hrun (by rw [List.length_map]; omega) (hz hG' hc0) hmul (by omega)
    have h1 : (Mine.trn t G0).length = 1 := by
      rw [List.length_map] at g
      have := List.length_pos_iff.mpr hG'.ne
      omega
    rw [ge] at this
    rw [hG'.const h1]
    simpa using this

end
section
open PySem.Builtin.Int
theorem powL_len {r p : List Int} (hr : r ≠ []) (hp : p ≠ []) : ∀ k : Nat, powL r p k ≠ [] ∧ (powL r p k).length = r.length + k * (p.length - 1)
  | 0 => ⟨hr, by simp [powL]⟩
  | k + 1 => by
    obtain ⟨h1, h2⟩ := powL_len hr hp k
    refine ⟨mulL_ne h1 hp, ?_⟩
    have := List.length_pos_iff.mpr hp
    have h3 := List.length_pos_iff.mpr h1
    rw [powL, mulL_length _ _ h3 this, h2, Nat.succ_mul]
    omega
theorem ev_powL (r p : List Int) (x : Int) : ∀ k : Nat, ev (powL r p k) x = ev r x * ev p x ^ k
  | 0 => by simp [powL]
  | k + 1 => by rw [powL, ev_mul, ev_powL r p x k, Int.pow_succ]; grind
def F0 (m d : Int) (e1 e2 e3 : Nat) : List Int := powL (powL (powL [1] [0, 1] e1) [-m, 2] e2) [d, 0, 1] e3
theorem F0_len (m d : Int) (e1 e2 e3 : Nat) : F0 m d e1 e2 e3 ≠ [] ∧ (F0 m d e1 e2 e3).length = 1 + e1 + e2 + 2 * e3 := by
  obtain ⟨h1, l1⟩ := powL_len (r := [1]) (p := [0, 1]) (by simp) (by simp) e1
  obtain ⟨h2, l2⟩ := powL_len (p := [-m, 2]) h1 (by simp) e2
  obtain ⟨h3, l3⟩ := powL_len (p := [d, 0, 1]) h2 (by simp) e3
  refine ⟨h3, ?_⟩
  unfold F0
  rw [l3, l2, l1]
  simp only [List.length_cons, List.length_nil]
  omega
theorem ev_F0 (m d : Int) (e1 e2 e3 : Nat) (x : Int) : ev (F0 m d e1 e2 e3) x = x ^ e1 * (-m + x * 2) ^ e2 * (d + x * x) ^ e3 := by
  unfold F0
  rw [ev_powL, ev_powL, ev_powL]
  simp [ev]
theorem F0_mul (m d : Int) (a1 a2 a3 b1 b2 b3 : Nat) : mulL (F0 m d a1 a2 a3) (F0 m d b1 b2 b3) = F0 m d (a1 + b1) (a2 + b2) (a3 + b3) := by
  obtain ⟨h1, l1⟩ := F0_len m d a1 a2 a3
  obtain ⟨h2, l2⟩ := F0_len m d b1 b2 b3
  obtain ⟨h3, l3⟩ := F0_len m d (a1 + b1) (a2 + b2) (a3 + b3)
  refine ev_ext ?_ fun x => ?_
  · rw [mulL_length _ _ (List.length_pos_iff.mpr h1) (List.length_pos_iff.mpr h2), l1, l2, l3]; omega
  · rw [ev_mul, ev_F0, ev_F0, ev_F0, Int.pow_add, Int.pow_add, Int.pow_add]; grind
/-- what the law builds -/
theorem built_eq (n a k d : Int) (t1 t2 t3 : Int) : builtL [n] [[0 - a, 1], [0 - 2 * a - 2 * k - 1, 2], [a * a + d, 0 - 2 * a, 1]] [t1, t2, t3] = (trn a (F0 (2 * k + 1) d t1.toNat t2.toNat t3.toNat)).map fun y => y * n := by
  show powL (powL (powL [n] _ _) _ _) _ _ = _
  obtain ⟨h1, l1⟩ := powL_len (r := [n]) (p := [0 - a, 1]) (by simp) (by simp) t1.toNat
  obtain ⟨h2, l2⟩ := powL_len (p := [0 - 2 * a - 2 * k - 1, 2]) h1 (by simp) t2.toNat
  obtain ⟨h3, l3⟩ := powL_len (p := [a * a + d, 0 - 2 * a, 1]) h2 (by simp) t3.toNat
  obtain ⟨_, l4⟩ := F0_len (2 * k + 1) d t1.toNat t2.toNat t3.toNat
  refine ev_ext ?_ fun x => ?_
  · rw [List.length_map, trn_length, l4, l3, l2, l1]
    simp only [List.length_cons, List.length_nil]
    omega
  · rw [ev_map_mul, ev_trn, ev_F0, ev_powL, ev_powL, ev_powL]
    have e1 : ev [0 - a, 1] x = x - a := by simp only [ev]; omega
    have e2 : ev [0 - 2 * a - 2 * k - 1, 2] x = -(2 * k + 1) + (x - a) * 2 := by simp only [ev]; omega
    have e3 : ev [a * a + d, 0 - 2 * a, 1] x = d + (x - a) * (x - a) := by simp only [ev]; grind
    have e4 : ev [n] x = n := by simp [ev]
    rw [e1, e2, e3, e4]
    grind
def rad (m d : Int) (e1 e2 e3 : Nat) : List Int := F0 m d (min e1 1) (min e2 1) (min e3 1)
def one1 (e : Nat) : Nat := if e = 1 then 1 else 0
def hot (m d : Int) (e1 e2 e3 : Nat) : List Int := F0 m d (one1 e1) (one1 e2) (one1 e3)
def S0 (m d : Int) (e1 e2 e3 : Nat) : List Int :=
  adL (adL ((F0 m d 0 (min e2 1) (min e3 1)).map fun y => y * (e1 : Int)) ((F0 m d (min e1 1) 0 (min e3 1)).map fun y => y * (2 * (e2 : Int)))) (mulL [0, 2 * (e3 : Int)] (F0 m d (min e1 1) (min e2 1) 0))
theorem tr_S0 (m d : Int) (e1 e2 e3 : Nat) : Tr (S0 m d e1 e2 e3) := tr_trL _
def sm (p : List Int) : Bool := p.all (fun x => Nat.blt x.natAbs (2 ^ 50)) && Nat.ble p.length 12
def pmB (p : List Int) : Bool := gcA p == 1 && decide (0 < ldL p)
theorem sm_bd {p : List Int} (h : sm p = true) : Bd 50 p ∧ p.length ≤ 12 := by
  unfold sm at h
  rw [Bool.and_eq_true, List.all_eq_true] at h
  exact ⟨fun c hc => intBits_le_iff.mpr (Nat.blt_eq.mp (h.1 c hc)), Nat.ble_eq.mp h.2⟩
theorem pmB_pm {p : List Int} (h : pmB p = true) : Pm p := by
  unfold pmB at h
  simp only [Bool.and_eq_true, beq_iff_eq, decide_eq_true_eq] at h
  exact ⟨h.1, h.2⟩
def jobC (G A B : List Int) : Bool :=
  let c := gcA B
  let B' := B.map fun x => x / c
  c != 0 && small c && (B'.map (fun x => x * c) == B) && pmB (mulL G B') && jobOK (ldL G) A.reverse B'.reverse
theorem job_ne {gam : Int} {A B : List Int} (h : jobOK gam A B = true) : A ≠ [] ∧ B ≠ [] := by
  unfold jobOK at h
  simp only [Bool.and_eq_true, decide_eq_true_eq] at h
  exact ⟨head_ne h.1.1.1.1.1.1, head_ne h.1.1.1.1.1.2⟩
theorem mulL_map_mul {G B : List Int} (c : Int) (hG : G ≠ []) (hB : B ≠ []) : mulL G (B.map fun y => y * c) = (mulL G B).map fun y => y * c := by
  have h1 := List.length_pos_iff.mpr hG
  have h2 := List.length_pos_iff.mpr hB
  refine ev_ext ?_ fun x => by rw [ev_mul, ev_map_mul, ev_map_mul, ev_mul]; grind
  rw [List.length_map, mulL_length _ _ h1 (by rw [List.length_map]; exact h2), mulL_length _ _ h1 h2, List.length_map]
theorem map_mul_mul (c n : Int) (p : List Int) : (p.map fun y => y * c).map (fun y => y * n) = p.map fun y => y * (c * n) := by
  rw [List.map_map]
  exact List.map_congr_left fun y _ => Int.mul_assoc ..
theorem gcd_self_mul (n c : Int) : ((Int.gcd n (c * n) : Nat) : Int) = n.natAbs := by
  rw [Int.gcd, Nat.gcd_eq_left (Int.natAbs_dvd_natAbs.mpr (Int.dvd_mul_left ..))]
theorem jobC_sound {G A B : List Int} {t n : Int} (hG : Pm G) (hGl : G.length ≤ 8) (hGb : Bd 50 G) (ht : intBits t ≤ 5) (pA : Pm (mulL G A)) (hj : jobC G A B = true) (hn : n ≠ 0) (hns : intBits n ≤ 1000) :
    GcdRun ((trn t (mulL G A)).map fun y => y * n) ((trn t (mulL G B)).map fun y => y * n) ((trn t G).map fun y => y * (n.natAbs : Int)) := by
  unfold jobC at hj
  simp only [Bool.and_eq_true, bne_iff_ne, ne_eq, beq_iff_eq] at hj
  generalize hc : gcA B = c at hj
  generalize hB' : (B.map fun x => x / c) = B' at hj
  obtain ⟨⟨⟨⟨h1, h2⟩, h3⟩, h4⟩, h5⟩ := hj
  have hB0 : B' ≠ [] := by simpa using (job_ne h5).2
  have := gcd_job (ka := n) (kb := c * n) hG hGl hGb ht h5 (by rwa [List.reverse_reverse]) (by rw [List.reverse_reverse]; exact pmB_pm h4) hn (fun e => (Int.mul_eq_zero.mp e).elim h1 hn) (by omega)
  rwa [List.reverse_reverse, List.reverse_reverse, gcd_self_mul, ← map_mul_mul, ← trn_map_mul t c, ← mulL_map_mul c hG.ne hB0, h3] at this
def ckT (m d : Int) (e1 e2 e3 : Nat) : Bool :=
  let F := F0 m d e1 e2 e3
  let G := F0 m d (e1 - 1) (e2 - 1) (e3 - 1)
  let R := rad m d e1 e2 e3
  let S := S0 m d e1 e2 e3
  let H := hot m d e1 e2 e3
  let R2 := rad m d (e1 - 1) (e2 - 1) (e3 - 1)
  let S2 := S0 m d (e1 - 1) (e2 - 1) (e3 - 1)
  let D := sbL S (deL R)
  pmB F && sm F && pmB G && sm G && pmB R && sm R && pmB H && sm H && pmB R2 && sm R2 && sm S && sm S2 && sm D && sm (deL F) && (mulL G R == F) && (mulL H R2 == R) &&
    (if S.isEmpty then F == [1] && G == [1] else deL F == mulL G S && jobC G R S) && (if S2.isEmpty then D.isEmpty && R == H else D == mulL H S2 && jobC H R2 S2)

end
section
open PySem.Builtin.Int
theorem trn_nil (t : Int) : trn t [] = [] := rfl
theorem trn_one (t c : Int) : trn t [c] = [c] := rfl
theorem TBd {p : List Int} {t : Int} (ht : intBits t ≤ 5) (h : sm p = true) : Bd 122 (trn t p) ∧ (trn t p).length ≤ 12 := by
  obtain ⟨h1, h2⟩ := sm_bd h
  exact ⟨(h1.trn ht).mono (by omega), by rw [trn_length]; exact h2⟩
theorem Bd.scale {p : List Int} {n : Int} (h : Bd 122 p) (hn : intBits n ≤ 1000) : Bd 1122 (p.map fun y => y * n) := (h.map_mul hn).mono (by omega)
theorem deOK_of {B : Nat} {p : List Int} (h : Bd B p) (hB : B ≤ 10000) : DeOK p := fun n hn k h0 h1 => IntMulOk.of_le (n := 10) (h n hn) (intBits_le_iff.mpr (by omega)) (by omega)
theorem ex_trn {A B Q : List Int} {t : Int} (ht : intBits t ≤ 5) (hA : sm A = true) (hB : sm B = true) (tA : Tr A) (tB : Tr B) (nB : B ≠ []) (tQ : Tr Q) (h : ∀ x, ev A x = ev Q x * ev B x) : ExOK (trn t A) (trn t B) (trn t Q) :=
  ex_ok (Bb := 122) (tr_trn t tB) (trn_ne t nB) (tr_trn t tA) (tr_trn t tQ) (TBd ht hB).1 (TBd ht hA).1 (by have := (TBd ht hA).2; omega) fun x => by rw [ev_trn, ev_trn, ev_trn, h]
structure TOK (m d : Int) (e1 e2 e3 : Nat) : Prop where
  pF : Pm (F0 m d e1 e2 e3)
  sF : sm (F0 m d e1 e2 e3) = true
  pG : Pm (F0 m d (e1 - 1) (e2 - 1) (e3 - 1))
  sG : sm (F0 m d (e1 - 1) (e2 - 1) (e3 - 1)) = true
  pR : Pm (rad m d e1 e2 e3)
  sR : sm (rad m d e1 e2 e3) = true
  pH : Pm (hot m d e1 e2 e3)
  sH : sm (hot m d e1 e2 e3) = true
  pR2 : Pm (rad m d (e1 - 1) (e2 - 1) (e3 - 1))
  sR2 : sm (rad m d (e1 - 1) (e2 - 1) (e3 - 1)) = true
  sS : sm (S0 m d e1 e2 e3) = true
  sS2 : sm (S0 m d (e1 - 1) (e2 - 1) (e3 - 1)) = true
  sD : sm (sbL (S0 m d e1 e2 e3) (deL (rad m d e1 e2 e3))) = true
  sdF : sm (deL (F0 m d e1 e2 e3)) = true
  GR : mulL (F0 m d (e1 - 1) (e2 - 1) (e3 - 1)) (rad m d e1 e2 e3) = F0 m d e1 e2 e3
  HR : mulL (hot m d e1 e2 e3) (rad m d (e1 - 1) (e2 - 1) (e3 - 1)) = rad m d e1 e2 e3
  cS : (S0 m d e1 e2 e3 = [] ∧ F0 m d e1 e2 e3 = [1] ∧ F0 m d (e1 - 1) (e2 - 1) (e3 - 1) = [1]) ∨ (deL (F0 m d e1 e2 e3) = mulL (F0 m d (e1 - 1) (e2 - 1) (e3 - 1)) (S0 m d e1 e2 e3) ∧ jobC (F0 m d (e1 - 1) (e2 - 1) (e3 - 1)) (rad m d e1 e2 e3) (S0 m d e1 e2 e3) = true)
  cS2 : (S0 m d (e1 - 1) (e2 - 1) (e3 - 1) = [] ∧ sbL (S0 m d e1 e2 e3) (deL (rad m d e1 e2 e3)) = [] ∧ rad m d e1 e2 e3 = hot m d e1 e2 e3) ∨ (sbL (S0 m d e1 e2 e3) (deL (rad m d e1 e2 e3)) = mulL (hot m d e1 e2 e3) (S0 m d (e1 - 1) (e2 - 1) (e3 - 1)) ∧ jobC (hot m d e1 e2 e3) (rad m d (e1 - 1) (e2 - 1) (e3 - 1)) (S0 m d (e1 - 1) (e2 - 1) (e3 - 1)) = true)
theorem ckT_ok {m d : Int} {e1 e2 e3 : Nat} (h : ckT m d e1 e2 e3 = true) : TOK m d e1 e2 e3 := by
  unfold ckT at h
  simp only [Bool.and_eq_true, beq_iff_eq] at h
  obtain ⟨⟨⟨⟨⟨⟨⟨⟨⟨⟨⟨⟨⟨⟨⟨⟨⟨h1, h2⟩, h3⟩, h4⟩, h5⟩, h6⟩, h7⟩, h8⟩, h9⟩, h10⟩, h11⟩, h12⟩, h13⟩, h14⟩, h15⟩, h16⟩, h17⟩, h18⟩ := h
  refine ⟨pmB_pm h1, h2, pmB_pm h3, h4, pmB_pm h5, h6, pmB_pm h7, h8, pmB_pm h9, h10, h11, h12, h13, h14, h15, h16, ?_, ?_⟩
  · split at h17
    · next q => simp only [Bool.and_eq_true, beq_iff_eq] at h17; exact Or.inl ⟨List.isEmpty_iff.mp q, h17.1, h17.2⟩
    · simp only [Bool.and_eq_true, beq_iff_eq] at h17; exact Or.inr h17
  · split at h18
    · next q => simp only [Bool.and_eq_true, beq_iff_eq, List.isEmpty_iff] at h18; exact Or.inl ⟨List.isEmpty_iff.mp q, h18.1, h18.2⟩
    · simp only [Bool.and_eq_true, beq_iff_eq] at h18; exact Or.inr h18
theorem gcd_nil {p : List Int} {n : Int} (hp : Pm p) (hn : n ≠ 0) (hb : Bd 122 p) (hns : intBits n ≤ 1000) : GcdRun (p.map fun y => y * n) [] (p.map fun y => y * (n.natAbs : Int)) := by
  have hz : ((n.natAbs : Nat) : Int) ≠ 0 := by have := Int.natAbs_pos.mpr hn; omega
  have := GcdRun.zero (a := p.map fun y => y * n) (b := []) rfl (by rw [List.length_map]; exact List.length_pos_iff.mpr hp.ne) (by rw [hp.gcA]; exact hz) (by
    rw [hp.gcA, hp.prL hn]
    exact hb.mulOk (intBits_natAbs_le hns) (by omega))
  rwa [hp.gcA, hp.prL hn, scL_ne hz] at this
variable {m d t n : Int} {e1 e2 e3 : Nat}
theorem lenG (T : TOK m d e1 e2 e3) (h1 : e1 ≤ 2) (h2 : e2 ≤ 3) (h3 : e3 ≤ 1) : (F0 m d (e1 - 1) (e2 - 1) (e3 - 1)).length ≤ 8 := by rw [(F0_len ..).2]; omega
theorem lenH : (hot m d e1 e2 e3).length ≤ 8 := by rw [hot, (F0_len ..).2]; unfold one1; split <;> split <;> split <;> omega
theorem known_step (T : TOK m d e1 e2 e3) (h1 : e1 ≤ 2) (h2 : e2 ≤ 3) (h3 : e3 ≤ 1) (ht : intBits t ≤ 5) (hn : n ≠ 0) (hns : intBits n ≤ 1000) :
    GcdRun ((trn t (F0 m d e1 e2 e3)).map fun y => y * n) (deL ((trn t (F0 m d e1 e2 e3)).map fun y => y * n)) ((trn t (F0 m d (e1 - 1) (e2 - 1) (e3 - 1))).map fun y => y * (n.natAbs : Int)) := by
  rw [deL_map_mul, deL_trn]
  rcases T.cS with ⟨_, q2, q3⟩ | ⟨q1, q2⟩
  · rw [q2, q3]
    exact gcd_nil (p := [1]) ⟨by decide, by decide⟩ hn (fun c hc => by rw [List.mem_singleton.mp hc]; decide) hns
  · have := jobC_sound (t := t) (n := n) T.pG (lenG T h1 h2 h3) (sm_bd T.sG).1 ht (by rw [T.GR]; exact T.pF) q2 hn hns
    rwa [T.GR, ← q1] at this
theorem yun_first (T : TOK m d e1 e2 e3) (h1 : e1 ≤ 2) (h2 : e2 ≤ 3) (h3 : e3 ≤ 1) (ht : intBits t ≤ 5) :
    GcdRun (trn t (F0 m d e1 e2 e3)) (deL (trn t (F0 m d e1 e2 e3))) (trn t (F0 m d (e1 - 1) (e2 - 1) (e3 - 1))) ∧ ExOK (trn t (F0 m d e1 e2 e3)) (trn t (F0 m d (e1 - 1) (e2 - 1) (e3 - 1))) (trn t (rad m d e1 e2 e3)) ∧ ExOK (deL (trn t (F0 m d e1 e2 e3))) (trn t (F0 m d (e1 - 1) (e2 - 1) (e3 - 1))) (trn t (S0 m d e1 e2 e3)) := by
  refine ⟨?_, ?_, ?_⟩
  · have := known_step (n := 1) T h1 h2 h3 ht (by decide) (by decide)
    rwa [map_one, show ((1 : Int).natAbs : Int) = 1 from rfl, map_one] at this
  · exact ex_trn ht T.sF T.sG T.pF.tr T.pG.tr T.pG.ne T.pR.tr fun x => by rw [← ev_mul, ← T.GR, ev_mul, ev_mul]; exact Int.mul_comm ..
  · rw [deL_trn]
    rcases T.cS with ⟨q1, q2, q3⟩ | ⟨q1, q2⟩
    · rw [q1, q2, q3]
      exact ex_trn ht (by decide) (by decide) (Or.inl rfl) (Or.inr (by decide)) (by decide) (Or.inl rfl) fun x => by simp [deL, deF, ev]
    · have hD : Tr (deL (F0 m d e1 e2 e3)) := by
        rw [q1]
        refine tr_mul T.pG.tr (tr_S0 ..) T.pG.ne fun e => ?_
        rw [e] at q2
        simp [jobC, gcA] at q2
      exact ex_trn ht T.sdF T.sG hD T.pG.tr T.pG.ne (tr_S0 ..) fun x => by rw [q1, ev_mul]; exact Int.mul_comm ..
def dueF (m d t : Int) : Nat → Nat → Nat → Nat → Int → List (List Int × Int)
  | 0, _, _, _, _ => []
  | n + 1, e1, e2, e3, many => (if e1 = 1 ∨ e2 = 1 ∨ e3 = 1 then [(trn t (hot m d e1 e2 e3), many)] else []) ++ dueF m d t n (e1 - 1) (e2 - 1) (e3 - 1) (many + 1)
theorem dueF_zero : ∀ (n : Nat) (many : Int), dueF m d t n 0 0 0 many = []
  | 0, _ => rfl
  | n + 1, many => by rw [dueF, if_neg (by decide)]; exact dueF_zero n _
theorem yun_run (C : ∀ e1 e2 e3 : Nat, e1 ≤ 2 → e2 ≤ 3 → e3 ≤ 1 → TOK m d e1 e2 e3) (ht : intBits t ≤ 5) : ∀ (n e1 e2 e3 : Nat) (many : Int) (found : List (List Int × Int)), e1 ≤ 2 → e2 ≤ 3 → e3 ≤ 1 → e1 ≤ n → e2 ≤ n → e3 ≤ n →
    YunRun n (trn t (rad m d e1 e2 e3)) (sbL (trn t (S0 m d e1 e2 e3)) (deL (trn t (rad m d e1 e2 e3)))) many found (found ++ dueF m d t n e1 e2 e3 many)
  | 0, e1, e2, e3, many, found, h1, h2, h3, k1, k2, k3 => by
    obtain ⟨rfl, rfl, rfl⟩ : e1 = 0 ∧ e2 = 0 ∧ e3 = 0 := ⟨by omega, by omega, by omega⟩
    rw [dueF, List.append_nil]
    exact .done (by rw [trn_length, rad, (F0_len ..).2]; decide)
  | n + 1, e1, e2, e3, many, found, h1, h2, h3, k1, k2, k3 => by
    have T := C e1 e2 e3 h1 h2 h3
    have IH := yun_run C ht n (e1 - 1) (e2 - 1) (e3 - 1) (many + 1)
    have hR : (rad m d e1 e2 e3).length = 1 + min e1 1 + min e2 1 + 2 * min e3 1 := (F0_len ..).2
    have hH : (hot m d e1 e2 e3).length = 1 + one1 e1 + one1 e2 + 2 * one1 e3 := (F0_len ..).2
    rcases Classical.em (e1 = 0 ∧ e2 = 0 ∧ e3 = 0) with ⟨rfl, rfl, rfl⟩ | hne
    · rw [dueF_zero, List.append_nil]
      exact .done (by rw [trn_length, hR]; decide)
    · have hlen : 1 < (trn t (rad m d e1 e2 e3)).length := by rw [trn_length, hR]; omega
      have lD : (sbL (trn t (S0 m d e1 e2 e3)) (deL (trn t (rad m d e1 e2 e3)))).length < 100 := by
        rw [deL_trn, ← trn_sbL, trn_length]
        have := (sm_bd T.sD).2
        omega
      have lS2 : (trn t (S0 m d (e1 - 1) (e2 - 1) (e3 - 1))).length < 100 := by have := (TBd ht T.sS2).2; omega
      have lR2 : (trn t (rad m d (e1 - 1) (e2 - 1) (e3 - 1))).length < 100 := by have := (TBd ht T.sR2).2; omega
      have lH : (trn t (hot m d e1 e2 e3)).length < 100 := by have := (TBd ht T.sH).2; omega
      have hg : GcdRun (trn t (rad m d e1 e2 e3)) (sbL (trn t (S0 m d e1 e2 e3)) (deL (trn t (rad m d e1 e2 e3)))) (trn t (hot m d e1 e2 e3)) := by
        rw [deL_trn, ← trn_sbL]
        rcases T.cS2 with ⟨q1, q2, q3⟩ | ⟨q1, q2⟩
        · rw [q2, ← q3, trn_nil]
          have := gcd_nil (n := 1) (T.pR.trn t) (by decide) (TBd ht T.sR).1 (by decide)
          rwa [map_one, show ((1 : Int).natAbs : Int) = 1 from rfl, map_one] at this
        · have := jobC_sound (t := t) (n := 1) T.pH lenH (sm_bd T.sH).1 ht (by rw [T.HR]; exact T.pR) q2 (by decide) (by decide)
          rwa [T.HR, ← q1, map_one, map_one, show ((1 : Int).natAbs : Int) = 1 from rfl, map_one] at this
      have x1 : ExOK (trn t (rad m d e1 e2 e3)) (trn t (hot m d e1 e2 e3)) (trn t (rad m d (e1 - 1) (e2 - 1) (e3 - 1))) :=
        ex_trn ht T.sR T.sH T.pR.tr T.pH.tr T.pH.ne T.pR2.tr fun x => by rw [← ev_mul, ← T.HR, ev_mul, ev_mul]; exact Int.mul_comm ..
      have x2 : ExOK (sbL (trn t (S0 m d e1 e2 e3)) (deL (trn t (rad m d e1 e2 e3)))) (trn t (hot m d e1 e2 e3)) (trn t (S0 m d (e1 - 1) (e2 - 1) (e3 - 1))) := by
        rw [deL_trn, ← trn_sbL]
        refine ex_trn ht T.sD T.sH (tr_sbL ..) T.pH.tr T.pH.ne (tr_S0 ..) fun x => ?_
        rcases T.cS2 with ⟨q1, q2, q3⟩ | ⟨q1, q2⟩
        · rw [q2, q1]; simp [ev]
        · rw [q1, ev_mul]; exact Int.mul_comm ..
      have dO : DeOK (trn t (rad m d (e1 - 1) (e2 - 1) (e3 - 1))) := deOK_of (TBd ht T.sR2).1 (by decide)
      rcases Classical.em (e1 = 1 ∨ e2 = 1 ∨ e3 = 1) with g | g
      · have hp : 1 < (trn t (hot m d e1 e2 e3)).length := by
          rw [trn_length, hH]
          unfold one1
          rcases g with g | g | g <;> rw [if_pos g] <;> omega
        rw [dueF, if_pos g, ← List.append_assoc]
        exact .keep hlen lD lH lR2 lS2 hg hp x1 x2 dO (IH _ (by omega) (by omega) (by omega) (by omega) (by omega) (by omega))
      · have hp : (trn t (hot m d e1 e2 e3)).length ≤ 1 := by
          rw [trn_length, hH]
          unfold one1
          rw [if_neg fun e => g (Or.inl e), if_neg fun e => g (Or.inr (Or.inl e)), if_neg fun e => g (Or.inr (Or.inr e))]
          decide
        rw [dueF, if_neg g, List.nil_append]
        exact .skip hlen lD lH lR2 lS2 hg hp x1 x2 dO (IH _ (by omega) (by omega) (by omega) (by omega) (by omega) (by omega))

end
section
open PySem.Builtin.Int
/-! slopes -/
def dqr (lb : Int) (bt : List Int) : Nat → List Int → List Int
  | 0, _ => []
  | _ + 1, [] => []
  | n + 1, c :: r => (c / lb) :: dqr lb bt n (subs 1 (c / lb) r bt)
def quot (D P : List Int) : List Int := match P.reverse with
  | [] => []
  | lb :: bt => (dqr lb bt (D.length + 1 - P.length) D.reverse).reverse
def bigX : Int := 1000000000000000000000000000000
def ckD (P D : List Int) : Bool :=
  let q := quot D P
  sm D && ldL D != 0 && ldL q != 0 && mulL q P == D
def ckN (P D : List Int) : Bool :=
  sm D && ldL D != 0 && (let v := ev P bigX; let w := ev D bigX; ([1, -2, 3, -6] : List Int).all fun n => (w * n) % v != 0)
def dit (D : List Int) : Nat → List Int
  | 0 => D
  | j + 1 => deL (dit D j)
theorem dit_trn (t n : Int) (D : List Int) : ∀ j : Nat, dit ((trn t D).map fun y => y * n) j = (trn t (dit D j)).map fun y => y * n
  | 0 => rfl
  | j + 1 => by rw [dit, dit_trn t n D j, deL_map_mul, deL_trn, dit]
theorem tr_scale {p : List Int} {n : Int} (h : Tr p) (hn : n ≠ 0) : Tr (p.map fun y => y * n) := by
  rcases h with q | q
  · rw [q]; exact Or.inl rfl
  · exact Or.inr (by rw [ldL_map_mul]; exact fun e => (Int.mul_eq_zero.mp e).elim q hn)
theorem slope_yes {P D : List Int} {t n : Int} (ht : intBits t ≤ 5) (hn : n ≠ 0) (hns : intBits n ≤ 1000) (hP : sm P = true) (tP : Tr P) (nP : P ≠ []) (h : ckD P D = true) : ∃ r, ExAny ((trn t D).map fun y => y * n) (trn t P) r ∧ r.isSome = true := by
  unfold ckD at h
  simp only [Bool.and_eq_true, bne_iff_ne, ne_eq, beq_iff_eq] at h
  obtain ⟨⟨⟨h1, h2⟩, h3⟩, h4⟩ := h
  refine ⟨some ((trn t (quot D P)).map fun y => y * n), ex_ok (Bb := 1122) (tr_trn t tP) (trn_ne t nP) (tr_scale (tr_trn t (Or.inr h2)) hn) (tr_scale (tr_trn t (Or.inr h3)) hn) ((TBd ht hP).1.mono (by omega)) ((TBd ht h1).1.scale hns) (by rw [List.length_map]; have := (TBd ht h1).2; omega) (fun x => ?_), rfl⟩
  rw [ev_map_mul, ev_map_mul, ev_trn, ev_trn, ev_trn, ← h4, ev_mul, h4]
  grind
theorem slope_no {P D : List Int} {t n : Int} (ht : intBits t ≤ 5) (hn : n ∈ ([1, -2, 3, -6] : List Int)) (hP : sm P = true) (tP : Tr P) (nP : P ≠ []) (h : ckN P D = true) : ∃ r, ExAny ((trn t D).map fun y => y * n) (trn t P) r ∧ r.isSome = false := by
  unfold ckN at h
  simp only [Bool.and_eq_true, bne_iff_ne, ne_eq, List.all_eq_true] at h
  obtain ⟨⟨h1, h2⟩, h3⟩ := h
  have hn0 : n ≠ 0 ∧ intBits n ≤ 1000 := by
    rcases List.mem_cons.mp hn with rfl | hn
    · exact ⟨by decide, by decide⟩
    rcases List.mem_cons.mp hn with rfl | hn
    · exact ⟨by decide, by decide⟩
    rcases List.mem_cons.mp hn with rfl | hn
    · exact ⟨by decide, by decide⟩
    · rw [List.mem_singleton.mp hn]; exact ⟨by decide, by decide⟩
  refine ⟨none, ex_none (y := bigX + t) (Bb := 1122) (tr_trn t tP) (trn_ne t nP) (tr_scale (tr_trn t (Or.inr h2)) hn0.1) ((TBd ht hP).1.mono (by omega)) ((TBd ht h1).1.scale hn0.2) (by rw [List.length_map]; have := (TBd ht h1).2; omega) (fun e => ?_), rfl⟩
  rw [ev_map_mul, ev_trn, ev_trn, Int.add_sub_cancel] at e
  exact h3 n hn (Int.emod_eq_zero_of_dvd e)
def ckS1 (P F : List Int) (e : Nat) : Bool := sm P && ldL P != 0 && (List.range e).all (fun j => ckD P (dit F j)) && ckN P (dit F e)
def ckS (m d : Int) (e1 e2 e3 : Nat) : Bool := ckS1 [0, 1] (F0 m d e1 e2 e3) e1 && ckS1 [-m, 2] (F0 m d e1 e2 e3) e2 && ckS1 [d, 0, 1] (F0 m d e1 e2 e3) e3
theorem ckS1_ok {P F : List Int} {e : Nat} {t n : Int} (ht : intBits t ≤ 5) (hn : n ∈ ([1, -2, 3, -6] : List Int)) (h : ckS1 P F e = true) (j : Nat) (hj : j ≤ e) : ∃ r, ExAny (dit ((trn t F).map fun y => y * n) j) (trn t P) r ∧ r.isSome = decide (j < e) := by
  unfold ckS1 at h
  simp only [Bool.and_eq_true, bne_iff_ne, ne_eq, List.all_eq_true, List.mem_range] at h
  obtain ⟨⟨⟨h1, h2⟩, h3⟩, h4⟩ := h
  have nP : P ≠ [] := by rintro rfl; exact h2 rfl
  have hn0 : n ≠ 0 ∧ intBits n ≤ 1000 := by
    rcases List.mem_cons.mp hn with rfl | hn
    · exact ⟨by decide, by decide⟩
    rcases List.mem_cons.mp hn with rfl | hn
    · exact ⟨by decide, by decide⟩
    rcases List.mem_cons.mp hn with rfl | hn
    · exact ⟨by decide, by decide⟩
    · rw [List.mem_singleton.mp hn]; exact ⟨by decide, by decide⟩
  rw [dit_trn]
  rcases Nat.lt_or_ge j e with q | q
  · rw [decide_eq_true q]
    exact slope_yes ht hn0.1 hn0.2 h1 (Or.inr h2) nP (h3 j q)
  · rw [decide_eq_false (by omega)]
    have : j = e := by omega
    rw [this]
    exact slope_no ht hn h1 (Or.inr h2) nP h4
/-! two polynomials -/
theorem ldL_powL {r p : List Int} (hr : r ≠ []) (hp : p ≠ []) : ∀ k : Nat, ldL (powL r p k) = ldL r * ldL p ^ k
  | 0 => by simp [powL]
  | k + 1 => by rw [powL, ldL_mul (powL_len hr hp k).1 hp, ldL_powL hr hp k, Int.pow_succ]; exact Int.mul_assoc ..
theorem F0_ld (m d : Int) (e1 e2 e3 : Nat) : ldL (F0 m d e1 e2 e3) = 2 ^ e2 := by
  obtain ⟨h1, l1⟩ := powL_len (r := [1]) (p := [0, 1]) (by simp) (by simp) e1
  obtain ⟨h2, l2⟩ := powL_len (p := [-m, 2]) h1 (by simp) e2
  unfold F0
  rw [ldL_powL h2 (by simp), ldL_powL h1 (by simp), ldL_powL (by simp) (by simp)]
  have e1p : ∀ k : Nat, (1 : Int) ^ k = 1 := fun k => Int.one_pow
  simp only [ldL, e1p, Int.one_mul, Int.mul_one]
def ckF (m d : Int) (e1 e2 e3 : Nat) : Bool := pmB (F0 m d e1 e2 e3) && sm (F0 m d e1 e2 e3)
def ckP (m d : Int) (g : Nat) (x1 x2 x3 : Nat × Nat) : Bool := jobOK (2 ^ g) (F0 m d x1.1 x2.1 x3.1).reverse (F0 m d x1.2 x2.2 x3.2).reverse
theorem min_sub (a b : Nat) : min a b + (a - b) = a := by omega
theorem final_ok {m d t n n' : Int} {e1 e2 e3 o1 o2 o3 : Nat} (ht : intBits t ≤ 5) (hn : n ≠ 0) (hn' : n' ≠ 0) (hns : intBits n ≤ 1000) (hE : ckF m d e1 e2 e3 = true) (hO : ckF m d o1 o2 o3 = true) (hG : ckF m d (min e1 o1) (min e2 o2) (min e3 o3) = true)
    (hl : 1 + min e1 o1 + min e2 o2 + 2 * min e3 o3 ≤ 8) (hP : ckP m d (min e2 o2) (e1 - o1, o1 - e1) (e2 - o2, o2 - e2) (e3 - o3, o3 - e3) = true) :
    GcdRun ((trn t (F0 m d e1 e2 e3)).map fun y => y * n) ((trn t (F0 m d o1 o2 o3)).map fun y => y * n') ((trn t (F0 m d (min e1 o1) (min e2 o2) (min e3 o3))).map fun y => y * (Int.gcd n n' : Int)) := by
  unfold ckF at hE hO hG
  rw [Bool.and_eq_true] at hE hO hG
  have eA : mulL (F0 m d (min e1 o1) (min e2 o2) (min e3 o3)) (F0 m d (e1 - o1) (e2 - o2) (e3 - o3)) = F0 m d e1 e2 e3 := by
    rw [F0_mul, min_sub, min_sub, min_sub]
  have eB : mulL (F0 m d (min e1 o1) (min e2 o2) (min e3 o3)) (F0 m d (o1 - e1) (o2 - e2) (o3 - e3)) = F0 m d o1 o2 o3 := by
    rw [F0_mul, Nat.min_comm, min_sub, Nat.min_comm, min_sub, Nat.min_comm, min_sub]
  have := gcd_job (t := t) (ka := n) (kb := n') (pmB_pm hG.1) (by rw [(F0_len ..).2]; exact hl) (sm_bd hG.2).1 ht (A := (F0 m d (e1 - o1) (e2 - o2) (e3 - o3)).reverse) (B := (F0 m d (o1 - e1) (o2 - e2) (o3 - e3)).reverse)
    (by rw [F0_ld]; exact hP) (by rw [List.reverse_reverse, eA]; exact pmB_pm hE.1) (by rw [List.reverse_reverse, eB]; exact pmB_pm hO.1) hn hn' (by omega)
  rwa [List.reverse_reverse, List.reverse_reverse, eA, eB] at this
/-! all of them, for the kernel -/
def ds : List Int := [1, 2, 3, 4, 5, 6, 7, 8, 9]
def ups (f : Nat → Nat → Nat → Bool) (a b c : Nat) : Bool := (List.range a).all fun x => (List.range b).all fun y => (List.range c).all fun z => f x y z
theorem ups_ok {f : Nat → Nat → Nat → Bool} {a b c : Nat} (h : ups f a b c = true) {x y z : Nat} (hx : x < a) (hy : y < b) (hz : z < c) : f x y z = true := by
  unfold ups at h
  simp only [List.all_eq_true, List.mem_range] at h
  exact h x hx y hy z hz
def allT (m : Int) : Bool := ds.all fun d => ups (ckT m d) 3 4 2
def allS (m : Int) : Bool := ds.all fun d => ups (ckS m d) 3 4 2
def allF (m : Int) : Bool := ds.all fun d => ups (ckF m d) 3 4 3
def allP (g : Nat) (m : Int) : Bool := ds.all fun d => [(0, 0), (1, 0), (2, 0), (0, 1)].all fun x1 => [(0, 0), (1, 0), (2, 0), (3, 0), (0, 1)].all fun x2 => [(0, 0), (1, 0), (0, 1), (0, 2)].all fun x3 => ckP m d g x1 x2 x3

end
section
theorem k_allT_n7 : allT (-7) = true := by decide +kernel
theorem k_allT_n5 : allT (-5) = true := by decide +kernel
theorem k_allT_n3 : allT (-3) = true := by decide +kernel
theorem k_allT_n1 : allT (-1) = true := by decide +kernel
theorem k_allT_p1 : allT (1) = true := by decide +kernel
theorem k_allT_p3 : allT (3) = true := by decide +kernel
theorem k_allT_p5 : allT (5) = true := by decide +kernel
theorem k_allT_p7 : allT (7) = true := by decide +kernel
theorem k_allT_p9 : allT (9) = true := by decide +kernel
theorem k_allS_n7 : allS (-7) = true := by decide +kernel
theorem k_allS_n5 : allS (-5) = true := by decide +kernel
theorem k_allS_n3 : allS (-3) = true := by decide +kernel
theorem k_allS_n1 : allS (-1) = true := by decide +kernel
theorem k_allS_p1 : allS (1) = true := by decide +kernel
theorem k_allS_p3 : allS (3) = true := by decide +kernel
theorem k_allS_p5 : allS (5) = true := by decide +kernel
theorem k_allS_p7 : allS (7) = true := by decide +kernel
theorem k_allS_p9 : allS (9) = true := by decide +kernel
theorem k_allF_n7 : allF (-7) = true := by decide +kernel
theorem k_allF_n5 : allF (-5) = true := by decide +kernel
theorem k_allF_n3 : allF (-3) = true := by decide +kernel
theorem k_allF_n1 : allF (-1) = true := by decide +kernel
theorem k_allF_p1 : allF (1) = true := by decide +kernel
theorem k_allF_p3 : allF (3) = true := by decide +kernel
theorem k_allF_p5 : allF (5) = true := by decide +kernel
theorem k_allF_p7 : allF (7) = true := by decide +kernel
theorem k_allF_p9 : allF (9) = true := by decide +kernel
theorem k_allP0_n7 : allP 0 (-7) = true := by decide +kernel
theorem k_allP0_n5 : allP 0 (-5) = true := by decide +kernel
theorem k_allP0_n3 : allP 0 (-3) = true := by decide +kernel
theorem k_allP0_n1 : allP 0 (-1) = true := by decide +kernel
theorem k_allP0_p1 : allP 0 (1) = true := by decide +kernel
theorem k_allP0_p3 : allP 0 (3) = true := by decide +kernel
theorem k_allP0_p5 : allP 0 (5) = true := by decide +kernel
theorem k_allP0_p7 : allP 0 (7) = true := by decide +kernel
theorem k_allP0_p9 : allP 0 (9) = true := by decide +kernel
theorem k_allP1_n7 : allP 1 (-7) = true := by decide +kernel
theorem k_allP1_n5 : allP 1 (-5) = true := by decide +kernel
theorem k_allP1_n3 : allP 1 (-3) = true := by decide +kernel
theorem k_allP1_n1 : allP 1 (-1) = true := by decide +kernel
theorem k_allP1_p1 : allP 1 (1) = true := by decide +kernel
theorem k_allP1_p3 : allP 1 (3) = true := by decide +kernel
theorem k_allP1_p5 : allP 1 (5) = true := by decide +kernel
theorem k_allP1_p7 : allP 1 (7) = true := by decide +kernel
theorem k_allP1_p9 : allP 1 (9) = true := by decide +kernel
def ms : List Int := [-7, -5, -3, -1, 1, 3, 5, 7, 9]
theorem k_allT {m : Int} (h : m ∈ ms) : allT m = true := by
  simp only [ms, List.mem_cons, List.not_mem_nil, or_false] at h
  rcases h with rfl | rfl | rfl | rfl | rfl | rfl | rfl | rfl | rfl
  · exact k_allT_n7
  · exact k_allT_n5
  · exact k_allT_n3
  · exact k_allT_n1
  · exact k_allT_p1
  · exact k_allT_p3
  · exact k_allT_p5
  · exact k_allT_p7
  · exact k_allT_p9
theorem k_allS {m : Int} (h : m ∈ ms) : allS m = true := by
  simp only [ms, List.mem_cons, List.not_mem_nil, or_false] at h
  rcases h with rfl | rfl | rfl | rfl | rfl | rfl | rfl | rfl | rfl
  · exact k_allS_n7
  · exact k_allS_n5
  · exact k_allS_n3
  · exact k_allS_n1
  · exact k_allS_p1
  · exact k_allS_p3
  · exact k_allS_p5
  · exact k_allS_p7
  · exact k_allS_p9
theorem k_allF {m : Int} (h : m ∈ ms) : allF m = true := by
  simp only [ms, List.mem_cons, List.not_mem_nil, or_false] at h
  rcases h with rfl | rfl | rfl | rfl | rfl | rfl | rfl | rfl | rfl
  · exact k_allF_n7
  · exact k_allF_n5
  · exact k_allF_n3
  · exact k_allF_n1
  · exact k_allF_p1
  · exact k_allF_p3
  · exact k_allF_p5
  · exact k_allF_p7
  · exact k_allF_p9
theorem k_allP0 {m : Int} (h : m ∈ ms) : allP 0 m = true := by
  simp only [ms, List.mem_cons, List.not_mem_nil, or_false] at h
  rcases h with rfl | rfl | rfl | rfl | rfl | rfl | rfl | rfl | rfl
  · exact k_allP0_n7
  · exact k_allP0_n5
  · exact k_allP0_n3
  · exact k_allP0_n1
  · exact k_allP0_p1
  · exact k_allP0_p3
  · exact k_allP0_p5
  · exact k_allP0_p7
  · exact k_allP0_p9
theorem k_allP1 {m : Int} (h : m ∈ ms) : allP 1 m = true := by
  simp only [ms, List.mem_cons, List.not_mem_nil, or_false] at h
  rcases h with rfl | rfl | rfl | rfl | rfl | rfl | rfl | rfl | rfl
  · exact k_allP1_n7
  · exact k_allP1_n5
  · exact k_allP1_n3
  · exact k_allP1_n1
  · exact k_allP1_p1
  · exact k_allP1_p3
  · exact k_allP1_p5
  · exact k_allP1_p7
  · exact k_allP1_p9

end
section
open PySem.Builtin.Int
theorem fmB (x : Int) {b : Int} (h : 0 < b) : 0 ≤ x.fmod b ∧ x.fmod b < b := ⟨Int.fmod_nonneg_of_pos _ h, Int.fmod_lt_of_pos _ h⟩
theorem m_all : ∀ n : Fin 9, 2 * ((n.val : Int) - 4) + 1 ∈ ms := by decide
theorem d_all : ∀ n : Fin 9, 1 + (n.val : Int) ∈ ds := by decide
theorem m_mem {k : Int} (h : 0 ≤ k) (h2 : k < 9) : 2 * (k - 4) + 1 ∈ ms := by
  obtain ⟨n, rfl⟩ := Int.eq_ofNat_of_zero_le h
  exact m_all ⟨n, Int.ofNat_lt.mp h2⟩
theorem d_mem {d : Int} (h : 0 ≤ d) (h2 : d < 9) : 1 + d ∈ ds := by
  obtain ⟨n, rfl⟩ := Int.eq_ofNat_of_zero_le h
  exact d_all ⟨n, Int.ofNat_lt.mp h2⟩
theorem t_bits {a : Int} (h : 0 ≤ a) (h2 : a < 41) : intBits (a - 20) ≤ 5 := intBits_le_iff.mpr (by omega)
theorem all_T {m d : Int} (hm : m ∈ ms) (hd : d ∈ ds) (e1 e2 e3 : Nat) (h1 : e1 ≤ 2) (h2 : e2 ≤ 3) (h3 : e3 ≤ 1) : TOK m d e1 e2 e3 := by
  have := k_allT hm
  unfold allT at this
  exact ckT_ok (ups_ok (List.all_eq_true.mp this d hd) (by omega) (by omega) (by omega))
theorem all_S {m d : Int} (hm : m ∈ ms) (hd : d ∈ ds) (e1 e2 e3 : Nat) (h1 : e1 ≤ 2) (h2 : e2 ≤ 3) (h3 : e3 ≤ 1) : ckS m d e1 e2 e3 = true := by
  have := k_allS hm
  unfold allS at this
  exact ups_ok (List.all_eq_true.mp this d hd) (by omega) (by omega) (by omega)
theorem all_F {m d : Int} (hm : m ∈ ms) (hd : d ∈ ds) (e1 e2 e3 : Nat) (h1 : e1 ≤ 2) (h2 : e2 ≤ 3) (h3 : e3 ≤ 2) : ckF m d e1 e2 e3 = true := by
  have := k_allF hm
  unfold allF at this
  exact ups_ok (List.all_eq_true.mp this d hd) (by omega) (by omega) (by omega)
/-- the draws' numbers -/
def numA (ns : List Int) : Int := [1, -2, 3, -6].getD ((drX ns 3).fmod 4).toNat 0
theorem num_mem (ns : List Int) : numA ns ∈ ([1, -2, 3, -6] : List Int) := by
  have h := fmB (drX ns 3) (by decide : (0 : Int) < 4)
  unfold numA
  generalize (drX ns 3).fmod 4 = x at h
  have : x = 0 ∨ x = 1 ∨ x = 2 ∨ x = 3 := by omega
  rcases this with rfl | rfl | rfl | rfl <;> decide
theorem num_ok {n : Int} (hn : n ∈ ([1, -2, 3, -6] : List Int)) : n ≠ 0 ∧ intBits n ≤ 10 := by
  simp only [List.mem_cons, List.not_mem_nil, or_false] at hn
  rcases hn with rfl | rfl | rfl | rfl <;> decide

end
theorem canLay_ints : ∀ ns : List Int, PyData.canLayAll0 (ns.map PyData.int) = true
  | [] => by simp only [List.map_nil, PyData.canLayAll0]
  | n :: ns => by simp only [List.map_cons, PyData.canLayAll0, PyData.canLay0, canLay_ints ns, Bool.and_self]
theorem depth_ints : ∀ ns : List Int, PyData.depthAll (ns.map PyData.int) = 0
  | [] => by simp only [List.map_nil, PyData.depthAll]
  | n :: ns => by simp only [List.map_cons, PyData.depthAll, PyData.depth, depth_ints ns, Nat.max_self]
theorem canLay_bools : ∀ ns : List Bool, PyData.canLayAll0 (ns.map PyData.bool) = true
  | [] => by simp only [List.map_nil, PyData.canLayAll0]
  | n :: ns => by simp only [List.map_cons, PyData.canLayAll0, PyData.canLay0, canLay_bools ns, Bool.and_self]
theorem depth_bools : ∀ ns : List Bool, PyData.depthAll (ns.map PyData.bool) = 0
  | [] => by simp only [List.map_nil, PyData.depthAll]
  | n :: ns => by simp only [List.map_cons, PyData.depthAll, PyData.depth, depth_bools ns, Nat.max_self]
theorem shaped_ints (ns : List Int) : SeqAt.shaped (.list (ns.map PyData.int)) = true := by
  simp only [SeqAt.shaped, PyData.canLay0, canLay_ints, PyData.depth, depth_ints]
  decide
theorem shaped_bools (ns : List Bool) : SeqAt.shaped (.list (ns.map PyData.bool)) = true := by
  simp only [SeqAt.shaped, PyData.canLay0, canLay_bools, PyData.depth, depth_bools]
  decide
theorem canLay_found : ∀ f : List (List Int × Int), PyData.canLayAll0 (f.map fun x => .tuple [.list (x.1.map PyData.int), .int x.2]) = true
  | [] => by simp only [List.map_nil, PyData.canLayAll0]
  | x :: f => by simp only [List.map_cons, PyData.canLayAll0, PyData.canLay0, canLay_ints, canLay_found f, Bool.and_self]
theorem depth_found : ∀ f : List (List Int × Int), PyData.depthAll (f.map fun x => .tuple [.list (x.1.map PyData.int), .int x.2]) ≤ 2
  | [] => by simp only [List.map_nil, PyData.depthAll]; decide
  | x :: f => by
    have := depth_found f
    simp only [List.map_cons, PyData.depthAll, PyData.depth, depth_ints]
    omega
theorem shaped_found (f : List (List Int × Int)) : SeqAt.shaped (foundD f) = true := by
  have := depth_found f
  simp only [SeqAt.shaped, foundD, PyData.canLay0, canLay_found, PyData.depth, Bool.true_and, decide_eq_true_eq]
  omega
section
variable {prog : Program} {w : World} {A : Around} {E : Value → Shared → Prop} {s : Shared} {a b : Value} {d : PyData} {as bs : List Addr} {Q : Value → Shared → Prop}
theorem ne_same (ra : Reads s.heap a d as) (rb : Reads s.heap b d bs) (hs : SeqAt.shaped d = true) (hu : A.units + 64 < cLine) (h : Q (.bool false) s) : wpAny (model prog w) A (compareOp .NotEq a b) Q E s :=
  SeqAt.compareNe_shaped ra rb hs hs hu (by rw [SeqAt.eqv_refl d (SeqAt.canLay_of_shaped hs)]; exact h)
theorem eq_same (ra : Reads s.heap a d as) (rb : Reads s.heap b d bs) (hs : SeqAt.shaped d = true) (hu : A.units + 64 < cLine) (h : Q (.bool true) s) : wpAny (model prog w) A (compareOp .Eq a b) Q E s :=
  SeqAt.compareEq_shaped ra rb hs hs hu (by rw [SeqAt.eqv_refl d (SeqAt.canLay_of_shaped hs)]; exact h)
end
theorem con_useY {w : World} {A₀ : Around} {s : Shared} {base h₀ : Heap} {outer : List Env} {L : Addr} {m : Str → Option Value} {mean : ExcName → Option Value} {mg mb : Str → Option Value}
    {f : Addr} {n : Nat} {args : List Value} {Pre : Heap → Prop} {d : PyData} (C : Con f n args Pre (fun h h' r => ∃ as, Reads h' r d as))
    {dp un : Nat} {gd : Option (List Code)} {cn : Str} {cs : Scope} {a : Addr} {ccd : Value} {cl : List (Str × Addr)} {news : List (Addr × Obj)} {Q E : Value → Shared → Prop}
    (B : Below A₀ base outer h₀) (F : Fr h₀ L s.heap m) (X : (hd.heap_19 w.params).In h₀) (N : News h₀ L s.heap news) (T : Top hd.view_19 (looseW hd.view_19 []) mean mg mb h₀) (hk : cs.kind = .function)
    (hp : Pre s.heap) (h1 : dp + n < recursionLimit) (h2 : un + 8 * n < cLine)
    (ret : ∀ r as h' tk', Fr h₀ L h' m → News h₀ L h' news → Reads h' r d as → Q r { s with heap := h', toks := tk' }) :
    wpAny (model PG w) (ktrTop dp un gd cn cs L a ccd cl outer) (call (.ref f) args) Q E s := by
  refine C w mean mg mb dp un gd cn cs a ccd cl outer A₀ base h₀ L m s Q E B F X T hk hp h1 h2 ?_
  rintro r h' tk' k ⟨as, hr⟩
  exact ret r as h' tk' (fr_of_keep F k) (news_of_keep N k) hr

open PySem.Builtin.Int
theorem tn_le {a b : Int} {k : Nat} (h : 0 ≤ a ∧ a < b) (hb : decide (b ≤ (k : Int) + 1) = true) : a.toNat ≤ k := Int.toNat_le.mpr (Int.lt_add_one_iff.mp (Int.lt_of_lt_of_le h.2 (of_decide_eq_true hb)))
theorem tn_sub_le {a b : Int} {k j : Nat} (h : 0 ≤ a ∧ a < b) (hb : decide (b ≤ (k : Int) + 1) = true) : a.toNat - j ≤ k := Nat.le_trans (Nat.sub_le _ _) (tn_le h hb)
theorem nsub_lt {a b m : Nat} (h : a < m) : a - b < m := Nat.lt_of_le_of_lt (Nat.sub_le _ _) h
theorem nsub_le {a b m : Nat} (h : a ≤ m) : a - b ≤ m := Nat.le_trans (Nat.sub_le _ _) h
theorem t1_iff {t : Int} {n : Nat} (h : 0 ≤ t) : t.toNat - n = 1 ↔ t = (n : Int) + 1 := by
  obtain ⟨m, rfl⟩ := Int.eq_ofNat_of_zero_le h
  rw [Int.toNat_natCast]
  constructor
  · intro e
    have : m = n + 1 := by omega
    rw [this]
    rfl
  · intro e
    have : m = n + 1 := Int.ofNat.inj e
    rw [this]
    exact Nat.add_sub_cancel_left ..
theorem kw_55 : True := by
  (k_with "my omega" => (first | ((with_reducible apply tn_le); (case h => with_reducible assumption); exact rfl) | ((with_reducible apply tn_sub_le); (case h => with_reducible assumption); exact rfl) | (with_reducible exact nsub_lt (by assumption)) | (with_reducible exact nsub_le (by assumption)) | fail "LD"))
  trivial
def pcsA (ns : List Int) : List (List Int) := [[0 - ((drX ns 0).fmod 41 - 20), 1], [0 - 2 * ((drX ns 0).fmod 41 - 20) - 2 * ((drX ns 1).fmod 9 - 4) - 1, 2], [((drX ns 0).fmod 41 - 20) * ((drX ns 0).fmod 41 - 20) + (1 + (drX ns 2).fmod 9), 0 - 2 * ((drX ns 0).fmod 41 - 20), 1]]
def alikeA (ts : List Int) (n : Int) : List Int := List.map (fun k' => if k' = n then 1 else 0) ts
def dueA (pcs : List (List Int)) (ts : List Int) : Nat → List (List Int × Int)
  | 0 => []
  | i + 1 => dueA pcs ts i ++ (if (alikeA ts ((i : Int) + 1)).any (fun x => x == 1) = true then [(builtL [1] pcs (alikeA ts ((i : Int) + 1)), (i : Int) + 1)] else [])
def tsA (ns : List Int) : List Int := [(drX ns 4).fmod 3, (drX ns 5).fmod 4, (drX ns 6).fmod 2]
def aV (ns : List Int) : Int := (drX ns 0).fmod 41 - 20
def mV (ns : List Int) : Int := 2 * ((drX ns 1).fmod 9 - 4) + 1
def dV (ns : List Int) : Int := 1 + (drX ns 2).fmod 9
theorem law_m (ns : List Int) : mV ns ∈ ms := m_mem (fmB _ (by decide)).1 (fmB _ (by decide)).2
theorem law_d (ns : List Int) : dV ns ∈ ds := d_mem (fmB _ (by decide)).1 (fmB _ (by decide)).2
theorem law_t (ns : List Int) : intBits (aV ns) ≤ 5 := t_bits (fmB _ (by decide)).1 (fmB _ (by decide)).2
theorem law_built (ns : List Int) (n t1 t2 t3 : Int) : builtL [n] (pcsA ns) [t1, t2, t3] = (trn (aV ns) (F0 (mV ns) (dV ns) t1.toNat t2.toNat t3.toNat)).map fun y => y * n := built_eq n ((drX ns 0).fmod 41 - 20) ((drX ns 1).fmod 9 - 4) (1 + (drX ns 2).fmod 9) t1 t2 t3
theorem one_ite {t : Int} {n : Nat} (h : 0 ≤ t) : (if t = (n : Int) + 1 then (1 : Int) else 0).toNat = one1 (t.toNat - n) := by
  unfold one1
  by_cases q : t = (n : Int) + 1
  · rw [if_pos q, if_pos ((t1_iff h).mpr q)]
    rfl
  · rw [if_neg q, if_neg (fun e => q ((t1_iff h).mp e))]
    rfl
theorem due_item (ns : List Int) (n : Nat) {t1 t2 t3 : Int} (h1 : 0 ≤ t1) (h2 : 0 ≤ t2) (h3 : 0 ≤ t3) : builtL [1] (pcsA ns) (alikeA [t1, t2, t3] ((n : Int) + 1)) = trn (aV ns) (hot (mV ns) (dV ns) (t1.toNat - n) (t2.toNat - n) (t3.toNat - n)) := by
  show builtL [1] (pcsA ns) [if t1 = (n : Int) + 1 then 1 else 0, if t2 = (n : Int) + 1 then 1 else 0, if t3 = (n : Int) + 1 then 1 else 0] = _
  rw [law_built, map_one, one_ite h1, one_ite h2, one_ite h3]
  rfl
theorem due_any {n : Nat} {t1 t2 t3 : Int} (h1 : 0 ≤ t1) (h2 : 0 ≤ t2) (h3 : 0 ≤ t3) : ((alikeA [t1, t2, t3] ((n : Int) + 1)).any (fun x => x == 1) = true) = (t1.toNat - n = 1 ∨ t2.toNat - n = 1 ∨ t3.toNat - n = 1) := by
  refine propext ?_
  simp only [alikeA, List.map_cons, List.map_nil, List.any_cons, List.any_nil, Bool.or_false, Bool.or_eq_true, beq_iff_eq]
  constructor
  · rintro (h | h | h)
    · refine .inl ((t1_iff h1).mpr ?_)
      split at h
      · assumption
      · exact absurd h (by decide)
    · refine .inr (.inl ((t1_iff h2).mpr ?_))
      split at h
      · assumption
      · exact absurd h (by decide)
    · refine .inr (.inr ((t1_iff h3).mpr ?_))
      split at h
      · assumption
      · exact absurd h (by decide)
  · rintro (h | h | h)
    · left; rw [if_pos ((t1_iff h1).mp h)]
    · right; left; rw [if_pos ((t1_iff h2).mp h)]
    · right; right; rw [if_pos ((t1_iff h3).mp h)]
theorem due_eq (ns : List Int) {t1 t2 t3 : Int} (h1 : 0 ≤ t1) (h2 : 0 ≤ t2) (h3 : 0 ≤ t3) : dueA (pcsA ns) [t1, t2, t3] 3 = dueF (mV ns) (dV ns) (aV ns) 3 t1.toNat t2.toNat t3.toNat 1 := by
  simp only [dueA, dueF, due_item ns _ h1 h2 h3, due_any h1 h2 h3, List.nil_append, List.append_nil, Nat.sub_zero, Nat.sub_sub, List.append_assoc]
  rfl
theorem TBd' {p : List Int} {t : Int} (ht : intBits t ≤ 5) (h : sm p = true) : ∀ n ∈ trn t p, ∀ k : Int, 0 ≤ k → k < 1000 → IntMulOk n k := deOK_of (TBd ht h).1 (by decide)
theorem c_yun_law {l : Addr} {vs : List Value} (ns : List Int) (hi : IntsAre vs (builtL [numA ns] (pcsA ns) (tsA ns))) : Con 185 420 [.ref l] (fun h => h.IsList l vs.toArray) (fun h h' r => ∃ as, Reads h' r (foundD (dueA (pcsA ns) (tsA ns) 3)) as) := by
  have b1 := fmB (drX ns 4) (by decide : (0 : Int) < 3)
  have b2 := fmB (drX ns 5) (by decide : (0 : Int) < 4)
  have b3 := fmB (drX ns 6) (by decide : (0 : Int) < 2)
  have hn := num_ok (num_mem ns)
  have ht := law_t ns
  unfold tsA at hi ⊢
  generalize (drX ns 4).fmod 3 = t1 at *
  generalize (drX ns 5).fmod 4 = t2 at *
  generalize (drX ns 6).fmod 2 = t3 at *
  rw [law_built] at hi
  have C := all_T (law_m ns) (law_d ns)
  have T := C t1.toNat t2.toNat t3.toNat (by omega) (by omega) (by omega)
  obtain ⟨y1, y2, y3⟩ := yun_first T (by omega) (by omega) (by omega) ht
  have run := yun_run C ht 3 t1.toNat t2.toNat t3.toNat 1 [] (by omega) (by omega) (by omega) (by omega) (by omega) (by omega)
  rw [List.nil_append, ← due_eq ns b1.1 b2.1 b3.1] at run
  have pF := T.pF.trn (aV ns)
  refine c_yun hi ?_ (fun _ => ?_) (pF.prL hn.1) (TBd' ht T.sF) y1 ?_ y2 ?_ y3 ?_ (TBd' ht T.sR) run (by decide)
  · rw [List.length_map]; have := (TBd ht T.sF).2; omega
  · rw [pF.gcA]; have := Int.natAbs_pos.mpr hn.1; omega
  · have := (TBd ht T.sG).2; omega
  · have := (TBd ht T.sR).2; omega
  · have := (TBd ht T.sS).2; omega
def fA (ns : List Int) : List Int := builtL [numA ns] (pcsA ns) (tsA ns)
def SlA (f : List Int) (es : List (Addr × Obj)) (its : List Value) : Prop := ∀ (j : Nat) (v : Value), its[j]? = some v → ∃ l vs k, v = .ref l ∧ (l, listOf (List.toArray vs) k) ∈ es ∧ IntsAre vs (dit f j)
theorem slA_nil (f : List Int) (es : List (Addr × Obj)) : SlA f es [] := fun j v h => by simp at h
theorem slA_snoc {f : List Int} {es es' : List (Addr × Obj)} {its : List Value} {l : Addr} {vs : List Value} {k : Nat} (h : SlA f es its) (hs : ∀ p ∈ es, p ∈ es') (hm : (l, listOf (List.toArray vs) k) ∈ es') (hi : IntsAre vs (dit f its.length)) : SlA f es' (its ++ [.ref l]) := by
  intro j v hj
  rcases Nat.lt_or_ge j its.length with q | q
  · rw [List.getElem?_append_left q] at hj
    obtain ⟨l', vs', k', e, hm', hi'⟩ := h j v hj
    exact ⟨l', vs', k', e, hs _ hm', hi'⟩
  · rw [List.getElem?_append_right q] at hj
    have : j = its.length := by
      rcases Nat.eq_or_lt_of_le q with e | e
      · exact e.symm
      · rw [List.getElem?_eq_none (by simp; omega)] at hj; cases hj
    subst this
    rw [Nat.sub_self] at hj
    cases hj
    exact ⟨l, vs, k, rfl, hm, hi⟩
theorem Bd.deF {B : Nat} : ∀ {p : List Int} (n : Nat), Bd B p → n + p.length ≤ 1000 → Bd (B + 10) (deF n p)
  | [], n, _, _ => Bd.nil _
  | c :: t, n, h, hl => by
    intro d hd
    rw [Mine.deF] at hd
    rcases List.mem_cons.mp hd with e | e
    · rw [e]
      exact intBits_mul_le (h c (by simp)) (intBits_le_iff.mpr (by simp only [List.length_cons] at hl; omega))
    · exact Bd.deF (n + 1) (fun d hd => h d (by simp [hd])) (by simp only [List.length_cons] at hl; omega) d e
theorem Bd.deL {B : Nat} {p : List Int} (h : Bd B p) (hl : p.length ≤ 1000) : Bd (B + 10) (deL p) := fun d hd => Bd.deF 0 h (by omega) d (List.mem_of_mem_tail hd)
theorem fA_bd (ns : List Int) : Bd 1122 (fA ns) ∧ (fA ns).length ≤ 12 := by
  have b1 := fmB (drX ns 4) (by decide : (0 : Int) < 3)
  have b2 := fmB (drX ns 5) (by decide : (0 : Int) < 4)
  have b3 := fmB (drX ns 6) (by decide : (0 : Int) < 2)
  have hn := num_ok (num_mem ns)
  unfold fA tsA
  rw [law_built]
  have T := all_T (law_m ns) (law_d ns) ((drX ns 4).fmod 3).toNat ((drX ns 5).fmod 4).toNat ((drX ns 6).fmod 2).toNat (by omega) (by omega) (by omega)
  have := TBd (law_t ns) T.sF
  exact ⟨this.1.scale (by omega), by rw [List.length_map]; exact this.2⟩
theorem dit_bd (ns : List Int) : ∀ j : Nat, Bd (1122 + 10 * j) (dit (fA ns) j) ∧ (dit (fA ns) j).length ≤ 12
  | 0 => fA_bd ns
  | j + 1 => by
    have ih := dit_bd ns j
    exact ⟨(ih.1.deL (by omega)).mono (by omega), by rw [dit, deL_length]; omega⟩
theorem dit_de (ns : List Int) (j : Nat) (hj : j ≤ 100) : ∀ n ∈ dit (fA ns) j, ∀ k : Int, 0 ≤ k → k < 1000 → IntMulOk n k := deOK_of (dit_bd ns j).1 (by omega)
theorem dit_len (ns : List Int) (j : Nat) : (dit (fA ns) j).length < 100 := by have := (dit_bd ns j).2; omega

open PySem.Builtin.Int
theorem min_ok {a b A B : Int} (ha : 0 ≤ a ∧ a < A) (hb : 0 ≤ b ∧ b < B) (hA : decide (A ≤ 4) = true) : 0 ≤ min a b ∧ min a b ≤ 3 :=
  ⟨Int.le_min.mpr ⟨ha.1, hb.1⟩, Int.le_trans (Int.min_le_left ..) (Int.lt_add_one_iff.mp (Int.lt_of_lt_of_le ha.2 (of_decide_eq_true hA)))⟩
theorem max_ok {a A : Int} {j : Nat} (ha : 0 ≤ a ∧ a < A) (hA : decide (A ≤ 4) = true) : 0 ≤ max (a - (j : Int)) 0 ∧ max (a - (j : Int)) 0 ≤ 3 :=
  ⟨Int.le_max_right .., Int.max_le.mpr ⟨Int.le_trans (Int.sub_le_self _ (Int.natCast_nonneg _)) (Int.lt_add_one_iff.mp (Int.lt_of_lt_of_le ha.2 (of_decide_eq_true hA))), by decide⟩⟩
theorem or2 {a : Nat} (h : a ≤ 1) : a = 0 ∨ a = 1 := (by decide : ∀ a, a < 2 → a = 0 ∨ a = 1) a (Nat.lt_succ_of_le h)
theorem or3 {a : Nat} (h : a ≤ 2) : a = 0 ∨ a = 1 ∨ a = 2 := (by decide : ∀ a, a < 3 → a = 0 ∨ a = 1 ∨ a = 2) a (Nat.lt_succ_of_le h)
theorem or4 {a : Nat} (h : a ≤ 3) : a = 0 ∨ a = 1 ∨ a = 2 ∨ a = 3 := (by decide : ∀ a, a < 4 → a = 0 ∨ a = 1 ∨ a = 2 ∨ a = 3) a (Nat.lt_succ_of_le h)
theorem or3i {x : Int} (h : 0 ≤ x ∧ x < 3) : x = 0 ∨ x = 1 ∨ x = 2 := by
  obtain ⟨n, rfl⟩ := Int.eq_ofNat_of_zero_le h.1
  rcases or3 (Nat.le_of_lt_succ (Int.ofNat_lt.mp h.2)) with rfl | rfl | rfl <;> decide
theorem kw_56 : True := by
  (k_with "my omega" => (first | ((with_reducible apply min_ok); (case ha => with_reducible assumption); (case hb => with_reducible assumption); exact rfl) | ((with_reducible apply max_ok); (case ha => with_reducible assumption); exact rfl) | (with_reducible exact or2 (by assumption)) | (with_reducible exact or3 (by assumption)) | (with_reducible exact or4 (by assumption)) | (with_reducible exact or3i (by assumption)) | fail "LD2"))
  trivial
/-! what the known loop and the last compare want -/
theorem all_P {m d : Int} (hm : m ∈ ms) (hd : d ∈ ds) (g : Nat) (hg : g ≤ 1) {x1 x2 x3 : Nat × Nat} (h1 : x1 ∈ [(0, 0), (1, 0), (2, 0), (0, 1)]) (h2 : x2 ∈ [(0, 0), (1, 0), (2, 0), (3, 0), (0, 1)]) (h3 : x3 ∈ [(0, 0), (1, 0), (0, 1), (0, 2)]) : ckP m d g x1 x2 x3 = true := by
  have h0 : allP g m = true := by
    rcases Nat.eq_or_lt_of_le hg with e | e
    · rw [e]; exact k_allP1 hm
    · have : g = 0 := by omega
      rw [this]; exact k_allP0 hm
  unfold allP at h0
  exact List.all_eq_true.mp (List.all_eq_true.mp (List.all_eq_true.mp (List.all_eq_true.mp h0 d hd) x1 h1) x2 h2) x3 h3
theorem bm1 (ns : List Int) : 0 ≤ (drX ns 4).fmod 3 ∧ (drX ns 4).fmod 3 < 3 := fmB (drX ns 4) (by decide)
theorem bm2 (ns : List Int) : 0 ≤ (drX ns 5).fmod 4 ∧ (drX ns 5).fmod 4 < 4 := fmB (drX ns 5) (by decide)
theorem bm3 (ns : List Int) : 0 ≤ (drX ns 6).fmod 2 ∧ (drX ns 6).fmod 2 < 2 := fmB (drX ns 6) (by decide)
def lessA (ts : List Int) (j : Int) : List Int := List.map (fun k' => max (k' - j) 0) ts
def kA (ns : List Int) : Nat → List Int
  | 0 => fA ns
  | j + 1 => builtL [((numA ns).natAbs : Int)] (pcsA ns) (lessA (tsA ns) ((j : Int) + 1))
theorem less_nat {t : Int} (j : Nat) : (max (t - (j : Int)) 0).toNat = t.toNat - j := by
  rcases Int.le_total 0 t with h | h
  · obtain ⟨m, rfl⟩ := Int.eq_ofNat_of_zero_le h
    rw [Int.toNat_natCast]
    rcases Nat.le_total j m with q | q
    · rw [Int.max_eq_left (Int.sub_nonneg_of_le (Int.ofNat_le.mpr q)), cast_sub q]
    · rw [Int.max_eq_right (Int.sub_nonpos_of_le (Int.ofNat_le.mpr q)), Nat.sub_eq_zero_of_le q]
      rfl
  · rw [Int.toNat_of_nonpos h, Nat.zero_sub, Int.max_eq_right (Int.le_trans (Int.sub_le_self _ (Int.natCast_nonneg _)) h)]
    rfl
theorem kA_form (ns : List Int) (j : Nat) : ∃ n : Int, n ≠ 0 ∧ intBits n ≤ 10 ∧ n.natAbs = (numA ns).natAbs ∧ kA ns j = (trn (aV ns) (F0 (mV ns) (dV ns) (((drX ns 4).fmod 3).toNat - j) (((drX ns 5).fmod 4).toNat - j) (((drX ns 6).fmod 2).toNat - j))).map fun y => y * n := by
  have hn := num_ok (num_mem ns)
  cases j with
  | zero => exact ⟨numA ns, hn.1, hn.2, rfl, by rw [kA, fA, tsA, law_built, Nat.sub_zero, Nat.sub_zero, Nat.sub_zero]⟩
  | succ j =>
    have hz : ((numA ns).natAbs : Int) ≠ 0 := by have := Int.natAbs_pos.mpr hn.1; omega
    refine ⟨((numA ns).natAbs : Int), hz, intBits_natAbs_le hn.2, by rw [Int.natAbs_natCast], ?_⟩
    show builtL [((numA ns).natAbs : Int)] (pcsA ns) [max ((drX ns 4).fmod 3 - ((j : Int) + 1)) 0, max ((drX ns 5).fmod 4 - ((j : Int) + 1)) 0, max ((drX ns 6).fmod 2 - ((j : Int) + 1)) 0] = _
    rw [law_built, show ((j : Int) + 1) = ((j + 1 : Nat) : Int) from rfl, less_nat, less_nat, less_nat]
theorem kA_run (ns : List Int) (j : Nat) : GcdRun (kA ns j) (deL (kA ns j)) (kA ns (j + 1)) := by
  obtain ⟨n, h0, hb, ha, e⟩ := kA_form ns j
  have b1 := bm1 ns
  have b2 := bm2 ns
  have b3 := bm3 ns
  have T := all_T (law_m ns) (law_d ns) (((drX ns 4).fmod 3).toNat - j) (((drX ns 5).fmod 4).toNat - j) (((drX ns 6).fmod 2).toNat - j) (by omega) (by omega) (by omega)
  have := known_step (n := n) T (by omega) (by omega) (by omega) (law_t ns) h0 (by omega)
  rw [e]
  have e2 : kA ns (j + 1) = (trn (aV ns) (F0 (mV ns) (dV ns) (((drX ns 4).fmod 3).toNat - j - 1) (((drX ns 5).fmod 4).toNat - j - 1) (((drX ns 6).fmod 2).toNat - j - 1))).map fun y => y * (n.natAbs : Int) := by
    rw [ha]
    show builtL [((numA ns).natAbs : Int)] (pcsA ns) [max ((drX ns 4).fmod 3 - ((j : Int) + 1)) 0, max ((drX ns 5).fmod 4 - ((j : Int) + 1)) 0, max ((drX ns 6).fmod 2 - ((j : Int) + 1)) 0] = _
    rw [law_built, show ((j : Int) + 1) = ((j + 1 : Nat) : Int) from rfl, less_nat, less_nat, less_nat]
    rfl
  rw [e2]
  exact this
theorem kA_bd (ns : List Int) (j : Nat) : Bd 1122 (kA ns j) ∧ (kA ns j).length < 100 := by
  obtain ⟨n, h0, hb, ha, e⟩ := kA_form ns j
  have b1 := bm1 ns
  have b2 := bm2 ns
  have b3 := bm3 ns
  have T := all_T (law_m ns) (law_d ns) (((drX ns 4).fmod 3).toNat - j) (((drX ns 5).fmod 4).toNat - j) (((drX ns 6).fmod 2).toNat - j) (by omega) (by omega) (by omega)
  have q := TBd (law_t ns) T.sF
  rw [e]
  exact ⟨q.1.scale (by omega), by rw [List.length_map]; omega⟩
theorem kA_de (ns : List Int) (j : Nat) : ∀ n ∈ kA ns j, ∀ k : Int, 0 ≤ k → k < 1000 → IntMulOk n k := deOK_of (kA_bd ns j).1 (by decide)
theorem kA_deL (ns : List Int) (j : Nat) : (deL (kA ns j)).length < 100 := by rw [deL_length]; have := (kA_bd ns j).2; omega
theorem less_ok (ns : List Int) (j : Nat) : ∀ n ∈ lessA (tsA ns) (j : Int), 0 ≤ n ∧ n ≤ 3 := by
  have b1 := bm1 ns
  have b2 := bm2 ns
  have b3 := bm3 ns
  intro n hn
  simp only [lessA, tsA, List.map_cons, List.map_nil, List.mem_cons, List.not_mem_nil, or_false] at hn
  rcases hn with rfl | rfl | rfl <;> omega
def moreA (ns : List Int) : Int := [4, -3, 9].getD ((drX ns 10).fmod 3).toNat 0
theorem more_mem (ns : List Int) : moreA ns ∈ ([4, -3, 9] : List Int) := by
  have h := fmB (drX ns 10) (by decide : (0 : Int) < 3)
  unfold moreA
  generalize (drX ns 10).fmod 3 = x at h
  have : x = 0 ∨ x = 1 ∨ x = 2 := by omega
  rcases this with rfl | rfl | rfl <;> decide
def osA (ns : List Int) : List Int := [(drX ns 7).fmod 2, (drX ns 8).fmod 2, (drX ns 9).fmod 3]
theorem os_ok (ns : List Int) : ∀ n ∈ osA ns, 0 ≤ n ∧ n ≤ 3 := by
  have b1 := fmB (drX ns 7) (by decide : (0 : Int) < 2)
  have b2 := fmB (drX ns 8) (by decide : (0 : Int) < 2)
  have b3 := fmB (drX ns 9) (by decide : (0 : Int) < 3)
  intro n hn
  simp only [osA, List.mem_cons, List.not_mem_nil, or_false] at hn
  rcases hn with rfl | rfl | rfl <;> omega
def bothA (ns : List Int) : List Int := [min ((drX ns 4).fmod 3) ((drX ns 7).fmod 2), min ((drX ns 5).fmod 4) ((drX ns 8).fmod 2), min ((drX ns 6).fmod 2) ((drX ns 9).fmod 3)]
theorem both_ok (ns : List Int) : ∀ n ∈ bothA ns, 0 ≤ n ∧ n ≤ 3 := by
  have b1 := fmB (drX ns 7) (by decide : (0 : Int) < 2)
  have b2 := fmB (drX ns 8) (by decide : (0 : Int) < 2)
  have b3 := fmB (drX ns 9) (by decide : (0 : Int) < 3)
  have c1 := bm1 ns
  have c2 := bm2 ns
  have c3 := bm3 ns
  intro n hn
  simp only [bothA, List.mem_cons, List.not_mem_nil, or_false] at hn
  rcases hn with rfl | rfl | rfl <;> omega
theorem com_all : ∀ n ∈ ([1, -2, 3, -6] : List Int), ∀ n' ∈ ([4, -3, 9] : List Int), 0 < (coT n n').length ∧ ∀ m ∈ coT n n', (∀ x ∈ coT n n', x ≤ m) → m = (Int.gcd n n' : Int) := by decide +kernel
theorem com_pos (ns : List Int) : 0 < (coT (numA ns) (moreA ns)).length := (com_all _ (num_mem ns) _ (more_mem ns)).1
theorem com_max (ns : List Int) : ∀ m, m ∈ coT (numA ns) (moreA ns) → (∀ x ∈ coT (numA ns) (moreA ns), x ≤ m) → m = (Int.gcd (numA ns) (moreA ns) : Int) := (com_all _ (num_mem ns) _ (more_mem ns)).2
theorem min_nat {a b : Int} (h : 0 ≤ a) (h2 : 0 ≤ b) : (min a b).toNat = min a.toNat b.toNat := by
  rcases Int.le_total a b with q | q
  · rw [Int.min_eq_left q, Nat.min_eq_left (Int.toNat_le_toNat q)]
  · rw [Int.min_eq_right q, Nat.min_eq_right (Int.toNat_le_toNat q)]
theorem nat_lt {a : Int} {n : Nat} (h : 0 ≤ a ∧ a < ((n + 1 : Nat) : Int)) : a.toNat ≤ n := Int.toNat_le.mpr (Int.lt_add_one_iff.mp h.2)
theorem mem_x1 {a b : Nat} (h : a ≤ 2) (h2 : b ≤ 1) : (a - b, b - a) ∈ [(0, 0), (1, 0), (2, 0), (0, 1)] := by
  have ha : a = 0 ∨ a = 1 ∨ a = 2 := by omega
  have : b = 0 ∨ b = 1 := by omega
  rcases ha with rfl | rfl | rfl <;> rcases this with rfl | rfl <;> decide
theorem mem_x2 {a b : Nat} (h : a ≤ 3) (h2 : b ≤ 1) : (a - b, b - a) ∈ [(0, 0), (1, 0), (2, 0), (3, 0), (0, 1)] := by
  have ha : a = 0 ∨ a = 1 ∨ a = 2 ∨ a = 3 := by omega
  have : b = 0 ∨ b = 1 := by omega
  rcases ha with rfl | rfl | rfl | rfl <;> rcases this with rfl | rfl <;> decide
theorem mem_x3 {a b : Nat} (h : a ≤ 1) (h2 : b ≤ 2) : (a - b, b - a) ∈ [(0, 0), (1, 0), (0, 1), (0, 2)] := by
  have ha : a = 0 ∨ a = 1 := by omega
  have : b = 0 ∨ b = 1 ∨ b = 2 := by omega
  rcases ha with rfl | rfl <;> rcases this with rfl | rfl | rfl <;> decide
theorem more_ok {n : Int} (hn : n ∈ ([4, -3, 9] : List Int)) : n ≠ 0 ∧ intBits n ≤ 10 := by
  simp only [List.mem_cons, List.not_mem_nil, or_false] at hn
  rcases hn with rfl | rfl | rfl <;> decide
theorem last_run (ns : List Int) : GcdRun (fA ns) (builtL [moreA ns] (pcsA ns) (osA ns)) (builtL [(Int.gcd (numA ns) (moreA ns) : Int)] (pcsA ns) (bothA ns)) := by
  have c1 := fmB (drX ns 7) (by decide : (0 : Int) < 2)
  have c2 := fmB (drX ns 8) (by decide : (0 : Int) < 2)
  have c3 := fmB (drX ns 9) (by decide : (0 : Int) < 3)
  have b1 := bm1 ns
  have b2 := bm2 ns
  have b3 := bm3 ns
  have hn := num_ok (num_mem ns)
  have hm := more_ok (more_mem ns)
  unfold fA tsA osA bothA
  rw [law_built, law_built, law_built, min_nat b1.1 c1.1, min_nat b2.1 c2.1, min_nat b3.1 c3.1]
  have M := law_m ns
  have D := law_d ns
  have x1 := nat_lt (n := 2) b1
  have x2 := nat_lt (n := 3) b2
  have x3 := nat_lt (n := 1) b3
  have y1 := nat_lt (n := 1) c1
  have y2 := nat_lt (n := 1) c2
  have y3 := nat_lt (n := 2) c3
  clear b1 b2 b3 c1 c2 c3
  generalize ((drX ns 4).fmod 3).toNat = t1 at *
  generalize ((drX ns 5).fmod 4).toNat = t2 at *
  generalize ((drX ns 6).fmod 2).toNat = t3 at *
  generalize ((drX ns 7).fmod 2).toNat = o1 at *
  generalize ((drX ns 8).fmod 2).toNat = o2 at *
  generalize ((drX ns 9).fmod 3).toNat = o3 at *
  have z1 : min t1 o1 ≤ 1 := Nat.le_trans (Nat.min_le_right ..) y1
  have z2 : min t2 o2 ≤ 1 := Nat.le_trans (Nat.min_le_right ..) y2
  have z3 : min t3 o3 ≤ 1 := Nat.le_trans (Nat.min_le_left ..) x3
  have w1 : min t1 o1 < 3 := Nat.lt_of_le_of_lt z1 (by decide)
  have w2 : min t2 o2 < 4 := Nat.lt_of_le_of_lt z2 (by decide)
  have w3 : min t3 o3 ≤ 2 := Nat.le_trans z3 (by decide)
  have w8 : 1 + min t1 o1 + min t2 o2 + 2 * min t3 o3 ≤ 8 := Nat.le_trans (Nat.add_le_add (Nat.add_le_add (Nat.add_le_add (Nat.le_refl 1) z1) z2) (Nat.mul_le_mul_left 2 z3)) (by decide)
  exact final_ok (law_t ns) hn.1 hm.1 (Nat.le_trans hn.2 (by decide)) (all_F M D _ _ _ x1 x2 (Nat.le_trans x3 (by decide))) (all_F M D _ _ _ (Nat.le_trans y1 (by decide)) (Nat.le_trans y2 (by decide)) y3) (all_F M D _ _ _ (Nat.le_of_lt_succ w1) (Nat.le_of_lt_succ w2) w3) w8 (all_P M D _ z2 (mem_x1 x1 y1) (mem_x2 x2 y2) (mem_x3 x3 y3))
/-- the slopes' answers -/
theorem pc1 (a : Int) : [0 - a, 1] = trn a [0, 1] := ev_ext (by rw [trn_length]; rfl) fun x => by rw [ev_trn]; simp only [ev]; omega
theorem pc2 (a k : Int) : [0 - 2 * a - 2 * k - 1, 2] = trn a [-(2 * k + 1), 2] := ev_ext (by rw [trn_length]; rfl) fun x => by rw [ev_trn]; simp only [ev]; omega
theorem pc3 (a d : Int) : [a * a + d, 0 - 2 * a, 1] = trn a [d, 0, 1] := ev_ext (by rw [trn_length]; rfl) fun x => by rw [ev_trn]; simp only [ev]; grind
theorem dec_nat {j : Nat} {e : Int} (h : 0 ≤ e) : decide (j < e.toNat) = decide ((j : Int) < e) := decide_eq_decide.mpr Int.lt_toNat
theorem slope_ans (ns : List Int) (i : Nat) (p : List Int) (e : Int) (hp : (pcsA ns)[i]? = some p) (he : (tsA ns)[i]? = some e) (j : Nat) (hj : (j : Int) ≤ e) : ∃ r, ExAny (dit (fA ns) j) p r ∧ r.isSome = decide ((j : Int) < e) := by
  have b1 := bm1 ns
  have b2 := bm2 ns
  have b3 := bm3 ns
  have S := all_S (law_m ns) (law_d ns) ((drX ns 4).fmod 3).toNat ((drX ns 5).fmod 4).toNat ((drX ns 6).fmod 2).toNat (by omega) (by omega) (by omega)
  unfold ckS at S
  simp only [Bool.and_eq_true] at S
  obtain ⟨⟨S1, S2⟩, S3⟩ := S
  unfold fA tsA
  rw [law_built]
  match i, hp, he with
  | 0, hp, he =>
    have e1 : [0 - aV ns, 1] = p := Option.some.inj hp
    have e2 : (drX ns 4).fmod 3 = e := Option.some.inj he
    rw [pc1] at e1
    rw [← e1, ← e2, ← dec_nat b1.1]
    exact ckS1_ok (law_t ns) (num_mem ns) S1 j (by omega)
  | 1, hp, he =>
    have e1 : [0 - 2 * aV ns - 2 * ((drX ns 1).fmod 9 - 4) - 1, 2] = p := Option.some.inj hp
    have e2 : (drX ns 5).fmod 4 = e := Option.some.inj he
    rw [pc2] at e1
    rw [← e1, ← e2, ← dec_nat b2.1]
    exact ckS1_ok (law_t ns) (num_mem ns) S2 j (by omega)
  | 2, hp, he =>
    have e1 : [aV ns * aV ns + dV ns, 0 - 2 * aV ns, 1] = p := Option.some.inj hp
    have e2 : (drX ns 6).fmod 2 = e := Option.some.inj he
    rw [pc3] at e1
    rw [← e1, ← e2, ← dec_nat b3.1]
    exact ckS1_ok (law_t ns) (num_mem ns) S3 j (by omega)
  | k + 3, hp, he => simp [pcsA] at hp

section
variable {prog : Program} {w : World} {A : Around} {E : Value → Shared → Prop} {s : Shared} {env : Env} {h₀ : Heap} {body : List Stmt} {Q : Flow → Shared → Prop}
/-- as for_walks, with entries ks of the ledger that the loop reads and the invariant keeps -/
theorem for_walks2 {target : PySem.Expr} {I : Addr} {fp wr wn : List Addr} {ks : List (Addr × Obj)} {n : Nat} {P Md : Nat → Value → Heap → Prop} {St : Nat → Heap → Prop} {m₀ : Str → Option Value} {news : List (Addr × Obj)} (W : KTurns prog w A target I fp wr n P Md St) (J : Nat → (Str → Option Value) → List (Addr × Obj) → Prop)
    (hks : ∀ i m nx, J i m nx → ∀ p ∈ ks, p ∈ nx)
    (hfp : ∀ b ∈ fp, b ∈ wn ∨ (∃ o, h₀.get? b = some o) ∨ ∃ o, (b, o) ∈ ks) (hwr : ∀ b ∈ wr, b ∈ wn) (hwn : ∀ b ∈ wn, h₀.get? b = none ∧ b ≠ env.locals ∧ ∀ p ∈ news, p.1 ≠ b) (hex : ∀ i h, St i h → ∀ b ∈ wn, ∃ o, h.get? b = some o)
    (hst : St 0 s.heap) (F : Fr h₀ env.locals s.heap m₀) (N : News h₀ env.locals s.heap news) (hj : J 0 m₀ news)
    (turn : ∀ (i : Nat) (v : Value) (m₁ : Str → Option Value) (nx ow : List (Addr × Obj)) (h : Heap) (tk : Nat), i < n → P i v h → (∀ p ∈ nx, ∀ q ∈ ow, p.1 ≠ q.1) → J i m₁ nx → Fr h₀ env.locals h m₁ → News h₀ env.locals h (nx ++ ow) →
      wpAny (model prog w) A (assign target env v) (fun _ s₃ => wpAny (model prog w) A (execs body env) (FPost h₀ env.locals ow (J (i + 1)) { s with heap := h, toks := tk } Q) E s₃) E { s with heap := h, toks := tk })
    (done : ∀ (m₁ : Str → Option Value) (nx : List (Addr × Obj)) (h : Heap) (tk : Nat), J n m₁ nx → Fr h₀ env.locals h m₁ → News h₀ env.locals h nx → Q .next { s with heap := h, toks := tk }) :
    TurnsAt prog w A h₀ env target body Q E (.ref I) s := by
  have hLf : env.locals ∉ fp := fun hm => by
    rcases hfp _ hm with q | ⟨o, q⟩ | ⟨o, q⟩
    · exact (hwn _ q).2.1 rfl
    · have := F.above
      exact absurd (Heap.lt_size q) (Nat.not_lt.mpr this)
    · exact (N _ (hks _ _ _ hj _ q)).2.1 rfl
  refine ⟨I, fp, wr, n, P, Md, St, m₀, news, fun i m nx => (∀ p ∈ nx, p.1 ∉ wn) ∧ J i m nx, rfl, W, hLf, fun b hb => (hwn b (hwr b hb)).1, fun p hp hb => (hwn _ (hwr _ hb)).2.2 p hp rfl, hst, F, N, ⟨fun p hp hb => (hwn _ hb).2.2 p hp rfl, hj⟩, ?_, fun h' tk m' news' F' N' _ hJ => done m' news' h' tk hJ.2 F' N'⟩
  rintro i v m₁ nx h₁ tk₁ own hin hP ⟨hnn, hJ⟩ hnw hofp hown hmem hst' F₁ N₁
  obtain ⟨ow, e1, e2⟩ := own_list wn (hex _ _ hst')
  have hmw : ∀ p ∈ ow, p.1 ∈ wn := fun p hp => e1 ▸ List.mem_map_of_mem hp
  have hsub : ∀ p ∈ own, p ∈ ow ∨ p ∈ ks := by
    intro p hp
    rcases hfp _ (hofp p hp) with q | ⟨o, q⟩ | ⟨o, q⟩
    · rw [← e1] at q
      obtain ⟨p', hp', e⟩ := List.mem_map.mp q
      have := e2 p' hp'
      rw [e, hown p hp] at this
      have ee : p' = p := Prod.ext e (Option.some.inj this).symm
      exact .inl (ee ▸ hp')
    · have := (N₁ p (List.mem_append_left _ hp)).2.2
      rw [q] at this
      cases this
    · have h1 := (N₁ _ (List.mem_append_right _ (hks _ _ _ hJ _ q))).1
      have h2 := hown p hp
      have h3 : h₁.get? p.1 = some o := h1
      rw [h3] at h2
      have ee : (p.1, o) = p := Prod.ext rfl (Option.some.inj h2)
      exact .inr (ee ▸ q)
  have hwr' : ∀ b ∈ wr, ∃ q ∈ ow, q.1 = b := by
    intro b hb
    have := hwr b hb
    rw [← e1] at this
    exact List.mem_map.mp this
  have hap : ∀ p ∈ nx, ∀ q ∈ ow, p.1 ≠ q.1 := fun p hp q hq e => hnn p hp (e ▸ hmw q hq)
  have hup : ∀ s₂, FEnd h₀ env.locals ow (J (i + 1)) { s with heap := h₁, toks := tk₁ } s₂ → LoopStepU h₀ env.locals wr own (fun m nx => (∀ p ∈ nx, p.1 ∉ wn) ∧ J (i + 1) m nx) { s with heap := h₁, toks := tk₁ } .next s₂ := by
    rintro s₂ ⟨h', tk, m', news', e, F', N', ha, hJ'⟩
    refine ⟨rfl, h', tk, m', news', e, F', fun p hp => ?_, fun p hp hb => ?_, fun p hp hb => ?_, hJ'⟩
    · rcases List.mem_append.mp hp with hp | hp
      · rcases hsub p hp with q | q
        · exact N' p (List.mem_append_left _ q)
        · exact N' p (List.mem_append_right _ (hks _ _ _ hJ' p q))
      · exact N' p (List.mem_append_right _ hp)
    · obtain ⟨q, hq, e⟩ := hwr' _ hb
      exact ha p hp q hq e.symm
    · rw [← e1] at hb
      obtain ⟨q, hq, e⟩ := List.mem_map.mp hb
      exact ha p hp q hq e.symm
  have hps : ∀ f s₂, FPost h₀ env.locals ow (J (i + 1)) { s with heap := h₁, toks := tk₁ } Q f s₂ → LoopStepV h₀ env.locals wr own (fun m nx => (∀ p ∈ nx, p.1 ∉ wn) ∧ J (i + 1) m nx) { s with heap := h₁, toks := tk₁ } (fun v s' => Q (.ret v) s') (fun s' => Q .next s') f s₂ := by
    intro f s₂ q
    cases f with
    | next => exact hup _ q
    | cont => exact hup _ q
    | brk => exact q
    | ret v => exact q
  refine wpAny_mono (turn i v m₁ nx ow h₁ tk₁ hin hP hap hJ F₁ fun p hp => ?_) (fun _ s₃ q => wpAny_mono q (fun f s₂ r => hps f s₂ r) fun _ _ e => e) fun _ _ e => e
  rcases List.mem_append.mp hp with hp | hp
  · exact N₁ p (List.mem_append_right _ hp)
  · exact ⟨e2 p hp, (hwn _ (hmw p hp)).2.1, (hwn _ (hmw p hp)).1⟩
/-- zip of two lists of the ledger, the targets left to the walker -/
theorem for_zip_free {x y : Str} {px py tp : Pos} {kk : Nat} {l₁ l₂ : Addr} {ps vs : List Value} {k₁ k₂ : Nat} {ns : List Int} {m₀ : Str → Option Value} (J : Nat → (Str → Option Value) → List (Addr × Obj) → Prop)
    (hks : ∀ i m nx, J i m nx → (l₁, listOf (List.toArray ps) k₁) ∈ nx ∧ (l₂, listOf (List.toArray vs) k₂) ∈ nx)
    (hh : A.handled = none) (hi : IntsAre vs ns) (hlen : ps.length = ns.length) (F : Fr h₀ env.locals s.heap m₀) (hJN : ∃ news, J 0 m₀ news ∧ News h₀ env.locals s.heap news)
    (turn : ∀ (i : Nat) (v : Value) (n : Int) (t : Tok) (m₁ : Str → Option Value) (nx ow : List (Addr × Obj)) (h : Heap) (tk : Nat), ps[i]? = some v → ns[i]? = some n → (∀ p ∈ nx, ∀ q ∈ ow, p.1 ≠ q.1) → J i m₁ nx →
      Fr h₀ env.locals h m₁ → News h₀ env.locals h (nx ++ ow) →
      wpAny (model prog w) A (assign (.Name x px) env v) (fun _ s₂ => wpAny (model prog w) A (assign (.Name y py) env (.int n t)) (fun _ s₃ => wpAny (model prog w) A (execs body env) (FPost h₀ env.locals ow (J (i + 1)) { s with heap := h, toks := tk } Q) E s₃) E s₂) E { s with heap := h, toks := tk })
    (done : ∀ (m₁ : Str → Option Value) (nx : List (Addr × Obj)) (h : Heap) (tk : Nat), J ns.length m₁ nx → Fr h₀ env.locals h m₁ → News h₀ env.locals h nx → Q .next { s with heap := h, toks := tk }) :
    wpAny (model prog w) A (call (.type "zip") [.ref l₁, .ref l₂]) (fun xv s₁ => wpAny (model prog w) A (pyIter xv) (fun it s₂ => TurnsAt prog w A h₀ env (.Tuple [.Name x px, .Name y py] kk tp) body Q E it s₂) E s₁) E s := by
  obtain ⟨news, hj, N⟩ := hJN
  obtain ⟨hm₁, hm₂⟩ := hks _ _ _ hj
  have hs₁ : s.heap.IsList l₁ ps.toArray := ⟨_, (N _ hm₁).1, rfl, _, rfl⟩
  have hs₂ : s.heap.IsList l₂ vs.toArray := ⟨_, (N _ hm₂).1, rfl, _, rfl⟩
  have hlt₁ : l₁ < s.heap.objs.size := Heap.lt_size (N _ hm₁).1
  have hlt₂ : l₂ < s.heap.objs.size := Heap.lt_size (N _ hm₂).1
  have hLs : env.locals < s.heap.objs.size := F.ns.lt
  have D : ZipApart (s.heap.objs.size + 4) (s.heap.objs.size + 2) (s.heap.objs.size + 3) s.heap.objs.size (s.heap.objs.size + 1) l₁ l₂ := ktu_apart _ _ _ hlt₁ hlt₂
  refine call_zip_2 hs₁ hs₂ fun h' hz hTI hTO hi1 hi2 hsz hk => ?_
  refine wpAny_pyIter_zip hz ?_
  have W := WalksT.zip2 (prog := prog) (w := w) hh _ _ _ _ _ _ _ D ps.toArray vs.toArray
  have hn : min ps.toArray.size vs.toArray.size = ns.length := by simp [hi.length, hlen]
  rw [hn] at W
  have big : ∀ b ∈ [s.heap.objs.size + 4, s.heap.objs.size + 2, s.heap.objs.size + 3, s.heap.objs.size, s.heap.objs.size + 1], s.heap.objs.size ≤ b := by
    intro b hb
    simp only [List.mem_cons, List.not_mem_nil, or_false] at hb
    rcases hb with rfl | rfl | rfl | rfl | rfl
    · exact Nat.le_add_right _ _
    · exact Nat.le_add_right _ _
    · exact Nat.le_add_right _ _
    · exact Nat.le_refl _
    · exact Nat.le_add_right _ _
  refine for_walks2 (ks := [(l₁, listOf (List.toArray ps) k₁), (l₂, listOf (List.toArray vs) k₂)]) (wn := [s.heap.objs.size + 4, s.heap.objs.size + 2, s.heap.objs.size + 3, s.heap.objs.size, s.heap.objs.size + 1]) (KTurns.ofWalksU W.toU) J ?_ ?_ ?_ ?_ ?_ ⟨hz, hTI, ⟨_, _, hTO⟩, hi1, hi2, hs₁.at fun o e => hk _ o e, hs₂.at fun o e => hk _ o e⟩ (F.keeps hk) (N.grown hk) hj ?_ done
  · intro i m nx hJ p hp
    rcases List.mem_cons.mp hp with rfl | hp
    · exact (hks _ _ _ hJ).1
    · rw [List.mem_singleton.mp hp]; exact (hks _ _ _ hJ).2
  · intro b hb
    simp only [List.mem_cons, List.not_mem_nil, or_false] at hb ⊢
    rcases hb with rfl | rfl | rfl | rfl | rfl | rfl | rfl
    · exact .inl (by simp)
    · exact .inl (by simp)
    · exact .inl (by simp)
    · exact .inl (by simp)
    · exact .inl (by simp)
    · exact .inr (.inr ⟨_, .inl rfl⟩)
    · exact .inr (.inr ⟨_, .inr rfl⟩)
  · intro b hb
    simp only [List.mem_cons, List.not_mem_nil, or_false] at hb ⊢
    rcases hb with rfl | rfl | rfl | rfl <;> simp
  · intro b hb
    have := big b hb
    exact ⟨get_new F this, fun e => absurd hLs (by rw [← e]; exact Nat.not_lt.mpr this), fun p hp e => absurd (Heap.lt_size (N p hp).1) (by rw [e]; exact Nat.not_lt.mpr this)⟩
  · rintro i h ⟨q1, q2, ⟨_, _, q3⟩, ⟨o4, q4, _⟩, ⟨o5, q5, _⟩, _, _⟩ b hb
    simp only [List.mem_cons, List.not_mem_nil, or_false] at hb
    rcases hb with rfl | rfl | rfl | rfl | rfl
    · exact ⟨_, q1⟩
    · exact ⟨_, q2⟩
    · exact ⟨_, q3⟩
    · exact ⟨_, q4⟩
    · exact ⟨_, q5⟩
  · rintro i v m₁ nx ow h₁ tk₁ hin ⟨T, vals, rfl, ⟨u, v', hu, hv, rfl⟩, hT⟩ hap hJ F₁ N₁
    obtain ⟨n, t', rfl, hnn, _⟩ := ints_get' hi i v' (by simpa using hv)
    refine assign_Tuple_tuple hh hT rfl rfl fun h₄ he₄ => ?_
    have up : ∀ b o, h₁.get? b = some o → h₄.get? b = some o := fun b o q => he₄ b o (Nat.ne_of_lt (Heap.lt_size q)) q
    have F₄ := F₁.keeps up
    have N₄ := N₁.grown up
    refine assignInOrder_cons (wpAny_mono (turn i u n t' m₁ nx ow h₄ _ (by simpa using hu) hnn hap hJ F₄ N₄) (fun _ s₅ q => ?_) fun _ _ e => e)
    refine assignInOrder_cons (wpAny_mono q (fun _ s₆ q => ?_) fun _ _ e => e)
    exact assignInOrder_nil q
/-- a list comprehension whose element makes nothing that stays: by an invariant over what it has gathered -/
theorem comp_ind {h₀ : Heap} {L : Addr} {m : Str → Option Value} {elt : PySem.Expr} {x : Str} {scope : Scope} {cl : List (Str × Addr)} {S : List (Addr × Obj) → Prop} {P : Nat → Value → Prop} {Fin : List Value → List (Addr × Obj) → Prop} {n : Nat} {news : List (Addr × Obj)} (J : Nat → List Value → Prop)
    (step : ∀ i ys v I oI C oC D m₂ h tk (E' : Value → Shared → Prop), i < n → J i ys → P i v → LCg.NsObj oC m₂ → m₂ x = some v → Fr h₀ L h m → News h₀ L h ((I, oI) :: (C, oC) :: (D, LCg.lst ys) :: news) → LCg.Off3 I C D news → ((@Ne Nat I C) ∧ (@Ne Nat I D) ∧ (@Ne Nat C D)) →
      wpAny (model prog w) A (eval elt (compEnvC scope cl C env)) (fun y s' => ∃ h' tk', s' = { s with heap := h', toks := tk' } ∧ Fr h₀ L h' m ∧ News h₀ L h' ((I, oI) :: (C, oC) :: (D, LCg.lst ys) :: news) ∧ J (i + 1) (ys ++ [y])) E' { s with heap := h, toks := tk })
    (hS : S news) (fin : ∀ ys, J n ys → Fin ys news) : ∀ (k i : Nat) (ys : List Value), i + k = n → J i ys → LCg.CompRest prog w A h₀ L m env elt x scope cl s S P Fin k i ys news
  | 0, i, ys, hik, hJ => by
    have : i = n := hik
    subst this
    exact fin ys hJ
  | k + 1, i, ys, hik, hJ => by
    refine LCg.CompRest.succ fun v I oI C oC D m₂ h tk E' hP hC hx F N off hne => ?_
    refine wpAny_mono (step i ys v I oI C oC D m₂ h tk E' (by omega) hJ hP hC hx F N off hne) (fun y s' q => ?_) fun _ _ e => e
    obtain ⟨h', tk', rfl, F', N', hJ'⟩ := q
    exact LCg.CompEnd.intro F' N' news (fun p hp => hp) off hS (comp_ind J step hS fin k (i + 1) (ys ++ [y]) (by omega) hJ')
end

open LCg LCp
/-! [elt for x, x₂ in zip(a, b)], by an invariant over what is gathered -/
section
variable {prog : Program} {w : World} {A : Around} {E : Value → Shared → Prop} {s : Shared} {h₀ : Heap} {L : Addr} {m : Str → Option Value} {env : Env}
def ZStep (prog : Program) (w : World) (A : Around) (h₀ : Heap) (L : Addr) (m : Str → Option Value) (env : Env) (elt : PySem.Expr) (x x₂ : Str) (scope : Scope) (cl : List (Str × Addr)) (s : Shared) (xs us : Array Value) (news : List (Addr × Obj)) (J : Nat → List Value → Prop) : Prop :=
  ∀ i ys v₁ v₂ C oC D ow m₂ h tk (E' : Value → Shared → Prop), J i ys → xs[i]? = some v₁ → us[i]? = some v₂ → NsObj oC m₂ → m₂ x = some v₁ → m₂ x₂ = some v₂ → Fr h₀ L h m → News h₀ L h ((C, oC) :: (D, lst ys) :: (news ++ ow)) →
    wpAny (model prog w) A (eval elt (compEnvC scope cl C env)) (fun y s' => ∃ h' tk', s' = { s with heap := h', toks := tk' } ∧ Fr h₀ L h' m ∧ News h₀ L h' ((C, oC) :: (D, lst ys) :: (news ++ ow)) ∧ J (i + 1) (ys ++ [y])) E' { s with heap := h, toks := tk }
theorem block_Z {elt iter : PySem.Expr} {x x₂ : Str} {px px₂ tp : Pos} {tk} {scope : Scope} {cl : List (Str × Addr)} {pos : Pos} {s₂ : Shared} {z TI TO i1 i2 l1 l2 : Addr} {xs us : Array Value} {news : List (Addr × Obj)} {RR : Value → Addr → Result → Shared → Prop} (J : Nat → List Value → Prop)
    (D : ZipApart z TI TO i1 i2 l1 l2) (hh : A.handled = none) (hsz : min xs.size us.size ≤ sizeLine)
    (hcell : ∀ y ∈ scope.names, y.2 ≠ .cell) (hkind : scope.kind = .function) (hx : scope.names.lookup x = some .local) (hx₂ : scope.names.lookup x₂ = some .local) (hxx : x ≠ x₂)
    (hst : IsZip s₂.heap z TI TO .none ∧ IsPair s₂.heap TI (.ref i1) (.ref i2) ∧ (∃ a b, IsPair s₂.heap TO a b) ∧ s₂.heap.IsListIter i1 l1 0 ∧ s₂.heap.IsListIter i2 l2 0 ∧ s₂.heap.IsList l1 xs ∧ s₂.heap.IsList l2 us)
    (hlt : ∀ b ∈ [z, TI, TO, i1, i2, l1, l2], b < s₂.heap.objs.size)
    (F : Fr h₀ L s₂.heap m) (N : News h₀ L s₂.heap news) (hm1 : ∃ o, (l1, o) ∈ news) (hm2 : ∃ o, (l2, o) ∈ news)
    (hwn : ∀ b ∈ [z, TI, TO, i1, i2], h₀.get? b = none ∧ b ≠ L ∧ ∀ p ∈ news, p.1 ≠ b) (h0 : J 0 []) (step : ZStep prog w A h₀ L m env elt x x₂ scope cl s₂ xs us news J)
    (hRR : ∀ D C h tk m' vs, Fr h₀ L h m → News h₀ L h ((D, lst vs) :: news) → (∀ p ∈ news, p.1 ≠ D) → h.Ns C m' → h₀.get? C = none → h₀.get? D = none → C ≠ L → D ≠ L → C ≠ D → (∀ p ∈ news, p.1 ≠ C) → J (min xs.size us.size) vs → RR (.ref D) C (.ok .next) { s₂ with heap := h, toks := tk }) :
    wpAny (model prog w) A (newList []) (fun acc s₃ => wpAny (model prog w) A (newFunctionEnv scope env.globals cl [] env.qual none .none (some env)) (fun cenv s₄ =>
      codeAny (model prog w) A (.compStart (.ListComp elt [⟨.Tuple [.Name x px, .Name x₂ px₂] tk tp, iter, [], 0⟩] scope pos) 0 (.ref z) acc { cenv with scope := relabel scope env }) (RR acc cenv.locals) s₄) E s₃) E s₂ := by
  have W := (WalksT.zip2 (prog := prog) (w := w) hh z TI TO i1 i2 l1 l2 D xs us).toU
  refine wpAny_newObj_type (wpAny_newFunctionEnv hcell (by intro y hy; simp at hy) (fun h₁ hns₁ hsb₁ => ?_) hkind)
  dsimp only at hns₁ hsb₁ ⊢
  generalize hH2 : s₂.heap.push { cls := .type "list", dict := none, data := .seq ([] : List Value).toArray } = H2 at hns₁ hsb₁ ⊢
  have hC : H2.objs.size = s₂.heap.objs.size + 1 := by rw [← hH2, Heap.size_push]
  have hDC : s₂.heap.objs.size ≠ H2.objs.size := by rw [hC]; exact Nat.ne_of_lt (Nat.lt_succ_self _)
  have below : ∀ b, b < s₂.heap.objs.size → b ≠ H2.objs.size ∧ b ≠ s₂.heap.objs.size := fun b hb => ⟨by rw [hC]; exact Nat.ne_of_lt (Nat.lt_succ_of_lt hb), Nat.ne_of_lt hb⟩
  have hDf : ∀ b ∈ [z, TI, TO, i1, i2, l1, l2], b ≠ s₂.heap.objs.size := fun b hb => (below b (hlt b hb)).2
  have hCf : ∀ b ∈ [z, TI, TO, i1, i2, l1, l2], b ≠ H2.objs.size := fun b hb => (below b (hlt b hb)).1
  have old : ∀ b o, s₂.heap.get? b = some o → h₁.get? b = some o := fun b o e => hsb₁.extBut b o (below b (Heap.lt_size e)).1 (Heap.get?_push_of_some _ (hH2 ▸ Heap.get?_push_of_some _ e))
  have hacc : h₁.get? s₂.heap.objs.size = some (lst []) := hsb₁.extBut _ _ hDC (Heap.get?_push_of_some _ (hH2 ▸ Heap.get?_push_size _ rfl))
  have hst₁ := W.frame 0 _ h₁ hst fun b _ o e => old b o e
  have fresh : ∀ a, s₂.heap.objs.size ≤ a → s₂.heap.get? a = none := fun a ha => by
    cases e : s₂.heap.get? a with
    | none => rfl
    | some o' => exact absurd (Heap.lt_size e) (Nat.not_lt.mpr ha)
  have fresh₀ : ∀ a, s₂.heap.objs.size ≤ a → h₀.get? a = none := fun a ha => by
    cases e : h₀.get? a with
    | none => rfl
    | some o' => have := F.keep a o' e; rw [fresh a ha] at this; cases this
  have hD₀ : h₀.get? s₂.heap.objs.size = none := fresh₀ _ (Nat.le_refl _)
  have hC₀ : h₀.get? H2.objs.size = none := fresh₀ _ (by rw [hC]; exact Nat.le_succ _)
  have hLlt : L < s₂.heap.objs.size := F.ns.lt
  have hDL : s₂.heap.objs.size ≠ L := Ne.symm (below L hLlt).2
  have hCL : H2.objs.size ≠ L := Ne.symm (below L hLlt).1
  have offD : ∀ p ∈ news, p.1 ≠ s₂.heap.objs.size := fun p hp => (below _ (Heap.lt_size (N p hp).1)).2
  have offC : ∀ p ∈ news, p.1 ≠ H2.objs.size := fun p hp => (below _ (Heap.lt_size (N p hp).1)).1
  have wrw : ∀ b ∈ [z, TO, i1, i2], b ∈ [z, TI, TO, i1, i2] := fun b hb => by
    simp only [List.mem_cons, List.not_mem_nil, or_false] at hb ⊢
    rcases hb with rfl | rfl | rfl | rfl <;> simp
  have wnf : ∀ b ∈ [z, TI, TO, i1, i2], b ∈ [z, TI, TO, i1, i2, l1, l2] := fun b hb => by
    simp only [List.mem_cons, List.not_mem_nil, or_false] at hb ⊢
    rcases hb with rfl | rfl | rfl | rfl | rfl <;> simp
  have Lwr : L ∉ [z, TO, i1, i2] := fun hb => (hwn L (wrw L hb)).2.1 rfl
  have frW : ∀ {h h' : Heap}, Fr h₀ L h m → (∀ b o, b ∉ [z, TO, i1, i2] → h.get? b = some o → h'.get? b = some o) → Fr h₀ L h' m := fun F hk =>
    ⟨F.ns.at' fun o e => hk L o Lwr e, fun b o e => hk b o (fun hb => by rw [(hwn b (wrw b hb)).1] at e; cases e) (F.keep b o e), F.above⟩
  have nwW : ∀ {h h' : Heap} {vs : List Value}, News h₀ L h ((s₂.heap.objs.size, lst vs) :: news) → (∀ b o, b ∉ [z, TO, i1, i2] → h.get? b = some o → h'.get? b = some o) → News h₀ L h' ((s₂.heap.objs.size, lst vs) :: news) := fun N hk p hp => by
    refine ⟨hk _ _ (fun hb => ?_) (N p hp).1, (N p hp).2⟩
    rcases List.mem_cons.mp hp with rfl | hp
    · exact hDf _ (wnf _ (wrw _ hb)) rfl
    · exact (hwn _ (wrw _ hb)).2.2 p hp rfl
  have loop : ∀ s₃ : Shared, s₃ = { s₂ with heap := h₁, toks := s₂.toks + ([] : List (Str × Value)).length } →
      codeAny (model prog w) A (.compLoop (.ListComp elt [⟨.Tuple [.Name x px, .Name x₂ px₂] tk tp, iter, [], 0⟩] scope pos) 0 (.ref z) (.ref s₂.heap.objs.size) (compEnvC scope cl H2.objs.size env))
        (RR (.ref s₂.heap.objs.size) H2.objs.size) s₃ := by
    rintro s₃ rfl
    refine codeAny_compLoop_pair
      (fun k s' => ∃ h' tk i ys m', s' = { s₂ with heap := h', toks := tk } ∧ i ≤ min xs.size us.size ∧ k = min xs.size us.size + 1 - i ∧ ys.length = i ∧
        (IsZip h' z TI TO .none ∧ IsPair h' TI (.ref i1) (.ref i2) ∧ (∃ a b, IsPair h' TO a b) ∧ h'.IsListIter i1 l1 i ∧ h'.IsListIter i2 l2 i ∧ h'.IsList l1 xs ∧ h'.IsList l2 us) ∧ Fr h₀ L h' m ∧ h'.Ns H2.objs.size m' ∧ News h₀ L h' ((s₂.heap.objs.size, lst ys) :: news) ∧ J i ys) ?_ (min xs.size us.size + 1)
      ⟨h₁, _, 0, [], _, rfl, Nat.zero_le _, rfl, rfl, hst₁, F.keeps old, hns₁, fun p hp => ?_, h0⟩
    · rintro k s' ⟨h', tk, i, ys, m', rfl, hi, rfl, hyl, hst', F', hn', N', hJ⟩
      by_cases hlt2 : i < min xs.size us.size
      · refine W.item i _ _ _ hlt2 hst' fun T vals h₂ tk₂ hP hT hMid hk₂ => ?_
        obtain ⟨v₁, v₂, hv₁, hv₂, rfl⟩ := hP
        refine W.go _ _ _ i T _ _ _ hMid fun h₄ hst₄ hk₄ => ?_
        have hT4 : IsTup h₄ T #[v₁, v₂] := hT.at fun o e => hk₄ T o (W.apart i T _ hMid) e
        refine assign_Tuple_tuple hh hT4 rfl rfl fun h₅ he => ?_
        have he' : ∀ b o, h₄.get? b = some o → h₅.get? b = some o := fun b o e => he b o (Nat.ne_of_lt (Heap.lt_size e)) e
        have Cwr : H2.objs.size ∉ [z, TO, i1, i2] := fun hb => hCf _ (wnf _ (wrw _ hb)) rfl
        have hk5 : ∀ b o, b ∉ [z, TO, i1, i2] → h'.get? b = some o → h₅.get? b = some o := fun b o hb e => he' _ _ (hk₄ _ _ hb (hk₂ _ _ hb e))
        refine assignInOrder_cons (wpAny_assign_Name (wpAny_storeName_local (lookup_relabel_local hx) (hn'.at' fun o e => hk5 _ o Cwr e) (fun h₆ hn₆ hs₆ => ?_) (by simp [compEnvC, relabel, hkind])))
        refine assignInOrder_cons (wpAny_assign_Name (wpAny_storeName_local (lookup_relabel_local hx₂) hn₆ (fun h₃ hn₃ hs₃ => ?_) (by simp [compEnvC, relabel, hkind])))
        refine assignInOrder_nil ?_
        have old3 : ∀ b o, b ≠ H2.objs.size → h₅.get? b = some o → h₃.get? b = some o := fun b o hb e => hs₃.extBut b o hb (hs₆.extBut b o hb e)
        have hst₃ := W.frame (i + 1) _ h₃ hst₄ fun b hb o e => old3 b o (hCf b hb) (he' b o e)
        obtain ⟨ow, e1, e2⟩ := own_list (h := h₃) [z, TI, TO, i1, i2] (by
          obtain ⟨q1, q2, ⟨_, _, q3⟩, ⟨o4, q4, _⟩, ⟨o5, q5, _⟩, _, _⟩ := hst₃
          intro b hb
          simp only [List.mem_cons, List.not_mem_nil, or_false] at hb
          rcases hb with rfl | rfl | rfl | rfl | rfl
          · exact ⟨_, q1⟩
          · exact ⟨_, q2⟩
          · exact ⟨_, q3⟩
          · exact ⟨_, q4⟩
          · exact ⟨_, q5⟩)
        obtain ⟨oC, heC, hoC⟩ := ns_obj hn₃
        have F₃ : Fr h₀ L h₃ m := ((frW F' hk5).change hs₆ hCL hC₀).change hs₃ hCL hC₀
        have N₅ := nwW N' hk5
        have hmw : ∀ p ∈ ow, p.1 ∈ [z, TI, TO, i1, i2] := fun p hp => e1 ▸ List.mem_map_of_mem hp
        have N₃ : News h₀ L h₃ ((H2.objs.size, oC) :: (s₂.heap.objs.size, lst ys) :: (news ++ ow)) := fun p hp => by
          rcases List.mem_cons.mp hp with rfl | hp
          · exact ⟨heC, hCL, hC₀⟩
          rcases List.mem_cons.mp hp with rfl | hp
          · exact ⟨old3 _ _ hDC (N₅ _ (.head _)).1, (N₅ _ (.head _)).2⟩
          rcases List.mem_append.mp hp with hp | hp
          · exact ⟨old3 _ _ (offC p hp) (N₅ p (.tail _ hp)).1, (N₅ p (.tail _ hp)).2⟩
          · exact ⟨e2 p hp, (hwn _ (hmw p hp)).2.1, (hwn _ (hmw p hp)).1⟩
        refine wpAny_mono (step i ys v₁ v₂ H2.objs.size oC s₂.heap.objs.size ow _ h₃ _ _ hJ hv₁ hv₂ hoC (by simp [hxx]) (by simp) F₃ N₃) (fun y s₄ h₄ => ?_) fun _ _ e => e
        obtain ⟨h₆', tk₄, rfl, F₄, N₄, hJ₄⟩ := h₄
        have zC := (N₄ (H2.objs.size, oC) (.head _)).1
        have zD := (N₄ (s₂.heap.objs.size, lst ys) (.tail _ (.head _))).1
        have hst₆ := W.frame (i + 1) _ h₆' hst₃ fun b hb o e => by
          simp only [List.mem_cons, List.not_mem_nil, or_false] at hb
          have inW : b ∈ [z, TI, TO, i1, i2] → h₆'.get? b = some o := fun hb => by
            rw [← e1] at hb
            obtain ⟨q, hq, rfl⟩ := List.mem_map.mp hb
            have := e2 q hq
            rw [this] at e
            cases e
            exact (N₄ q (.tail _ (.tail _ (List.mem_append_right _ hq)))).1
          have inN : ∀ o', (b, o') ∈ news → h₆'.get? b = some o := fun o' hq => by
            have q1 := (N₃ (b, o') (.tail _ (.tail _ (List.mem_append_left _ hq)))).1
            have q1 : h₃.get? b = some o' := q1
            rw [q1] at e
            rw [← e]
            exact (N₄ (b, o') (.tail _ (.tail _ (List.mem_append_left _ hq)))).1
          rcases hb with hb | hb | hb | hb | hb | hb | hb
          · exact inW (by rw [hb]; simp)
          · exact inW (by rw [hb]; simp)
          · exact inW (by rw [hb]; simp)
          · exact inW (by rw [hb]; simp)
          · exact inW (by rw [hb]; simp)
          · obtain ⟨o', q⟩ := hm1
            exact inN o' (hb ▸ q)
          · obtain ⟨o', q⟩ := hm2
            exact inN o' (hb ▸ q)
        refine append_at (hsz := by show ys.toArray.size ≤ sizeLine; rw [List.size_toArray, hyl]; exact Nat.le_trans hi hsz) zD fun h₇ hs₇ hD₇ => ?_
        refine ⟨min xs.size us.size + 1 - (i + 1), by omega, h₇, tk₄, i + 1, ys ++ [y], _, rfl, hlt2, rfl, by rw [List.length_append, List.length_singleton, hyl], W.frame _ _ _ hst₆ fun b hb o e => hs₇.extBut b o (hDf b hb) e, F₄.change hs₇ hDL hD₀,
          (hoC.ns zC).sameBut hs₇ (Ne.symm hDC), fun p hp => ?_, hJ₄⟩
        rcases List.mem_cons.mp hp with rfl | hp
        · exact ⟨hD₇.trans (congrArg some (lst_snoc ys y)), hDL, hD₀⟩
        · have q := N₄ p (.tail _ (.tail _ (List.mem_append_left _ hp)))
          exact ⟨hs₇.extBut _ _ (offD p hp) q.1, q.2⟩
      · obtain rfl : i = min xs.size us.size := Nat.le_antisymm hi (Nat.not_lt.mp hlt2)
        refine W.done _ _ _ hst' fun h₂ tk₂ hk₂ => ?_
        have Cwr : H2.objs.size ∉ [z, TO, i1, i2] := fun hb => hCf _ (wnf _ (wrw _ hb)) rfl
        exact hRR _ _ h₂ tk₂ _ ys (frW F' hk₂) (nwW N' hk₂) offD (hn'.at' fun o e => hk₂ _ o Cwr e) hC₀ hD₀ hCL hDL (Ne.symm hDC) offC hJ
    · rcases List.mem_cons.mp hp with rfl | hp
      · exact ⟨hacc, hDL, hD₀⟩
      · exact ⟨old _ _ (N p hp).1, (N p hp).2⟩
  exact codeAny_compStart_list (loop _ rfl) (W.self 0 _ _ _ hst₁ (loop _ rfl))
/-- what the iterable of such a comprehension must come to: a zip of two lists of the ledger, the turns and the end in hand -/
def ZSrc (prog : Program) (w : World) (A : Around) (h₀ : Heap) (L : Addr) (m : Str → Option Value) (env : Env) (elt : PySem.Expr) (x x₂ : Str) (scope : Scope) (cl : List (Str × Addr)) (Fin : Shared → List Value → List (Addr × Obj) → Prop) (xv : Value) (s₁ : Shared) : Prop :=
  ∃ (z TI TO i1 i2 l1 l2 : Addr) (xs us : Array Value) (news : List (Addr × Obj)) (J : Nat → List Value → Prop), xv = .ref z ∧ A.handled = none ∧ ZipApart z TI TO i1 i2 l1 l2 ∧ min xs.size us.size ≤ sizeLine ∧
    (IsZip s₁.heap z TI TO .none ∧ IsPair s₁.heap TI (.ref i1) (.ref i2) ∧ (∃ a b, IsPair s₁.heap TO a b) ∧ s₁.heap.IsListIter i1 l1 0 ∧ s₁.heap.IsListIter i2 l2 0 ∧ s₁.heap.IsList l1 xs ∧ s₁.heap.IsList l2 us) ∧
    (∀ b ∈ [z, TI, TO, i1, i2, l1, l2], b < s₁.heap.objs.size) ∧ Fr h₀ L s₁.heap m ∧ News h₀ L s₁.heap news ∧ (∃ o, (l1, o) ∈ news) ∧ (∃ o, (l2, o) ∈ news) ∧
    (∀ b ∈ [z, TI, TO, i1, i2], h₀.get? b = none ∧ b ≠ L ∧ ∀ p ∈ news, p.1 ≠ b) ∧ J 0 [] ∧ ZStep prog w A h₀ L m env elt x x₂ scope cl s₁ xs us news J ∧ ∀ vs, J (min xs.size us.size) vs → Fin s₁ vs news
theorem zsrc_call {elt : PySem.Expr} {x x₂ : Str} {scope : Scope} {cl : List (Str × Addr)} {Fin : Shared → List Value → List (Addr × Obj) → Prop} {l1 l2 : Addr} {ps qs : List Value} {k1 k2 : Nat} {news : List (Addr × Obj)} (J : Nat → List Value → Prop)
    (hh : A.handled = none) (F : Fr h₀ L s.heap m) (N : News h₀ L s.heap news) (hm1 : (l1, listOf (List.toArray ps) k1) ∈ news) (hm2 : (l2, listOf (List.toArray qs) k2) ∈ news) (hsz : min ps.length qs.length ≤ sizeLine)
    (h0 : J 0 []) (step : ∀ g, ZStep prog w A h₀ L m env elt x x₂ scope cl { s with heap := g } (List.toArray ps) (List.toArray qs) news J) (fin : ∀ g vs, J (min ps.length qs.length) vs → Fin { s with heap := g } vs news) :
    wpAny (model prog w) A (call (.type "zip") [.ref l1, .ref l2]) (ZSrc prog w A h₀ L m env elt x x₂ scope cl Fin) E s := by
  have hs₁ : s.heap.IsList l1 ps.toArray := ⟨_, (N _ hm1).1, rfl, _, rfl⟩
  have hs₂ : s.heap.IsList l2 qs.toArray := ⟨_, (N _ hm2).1, rfl, _, rfl⟩
  have hlt₁ : l1 < s.heap.objs.size := Heap.lt_size (N _ hm1).1
  have hlt₂ : l2 < s.heap.objs.size := Heap.lt_size (N _ hm2).1
  have hLs : L < s.heap.objs.size := F.ns.lt
  have D : ZipApart (s.heap.objs.size + 4) (s.heap.objs.size + 2) (s.heap.objs.size + 3) s.heap.objs.size (s.heap.objs.size + 1) l1 l2 := ktu_apart _ _ _ hlt₁ hlt₂
  refine call_zip_2 hs₁ hs₂ fun h' hz hTI hTO hi1 hi2 hsz' hk => ?_
  have big : ∀ b ∈ [s.heap.objs.size + 4, s.heap.objs.size + 2, s.heap.objs.size + 3, s.heap.objs.size, s.heap.objs.size + 1], s.heap.objs.size ≤ b ∧ b < s.heap.objs.size + 5 := by
    intro b hb
    simp only [List.mem_cons, List.not_mem_nil, or_false] at hb
    rcases hb with rfl | rfl | rfl | rfl | rfl <;> exact ⟨by simp, by simp⟩
  refine ⟨_, _, _, _, _, l1, l2, ps.toArray, qs.toArray, news, J, rfl, hh, D, by simpa using hsz, ⟨hz, hTI, ⟨_, _, hTO⟩, hi1, hi2, hs₁.at fun o e => hk _ o e, hs₂.at fun o e => hk _ o e⟩, ?_, F.keeps hk, N.grown hk, ⟨_, hm1⟩, ⟨_, hm2⟩, ?_, h0, step h', fun vs hj => fin h' vs (by simpa using hj)⟩
  · intro b hb
    show b < h'.objs.size
    rw [hsz']
    have hb : b ∈ [s.heap.objs.size + 4, s.heap.objs.size + 2, s.heap.objs.size + 3, s.heap.objs.size, s.heap.objs.size + 1] ++ [l1, l2] := hb
    rcases List.mem_append.mp hb with hb | hb
    · exact (big b hb).2
    · simp only [List.mem_cons, List.not_mem_nil, or_false] at hb
      rcases hb with rfl | rfl
      · exact Nat.lt_of_lt_of_le hlt₁ (Nat.le_add_right _ _)
      · exact Nat.lt_of_lt_of_le hlt₂ (Nat.le_add_right _ _)
  · intro b hb
    have q := (big b hb).1
    exact ⟨get_new F q, fun e => absurd hLs (by rw [← e]; exact Nat.not_lt.mpr q), fun p hp e => absurd (Heap.lt_size (N p hp).1) (by rw [e]; exact Nat.not_lt.mpr q)⟩
theorem Assign_ListComp_Z {elt iter : PySem.Expr} {x x₂ y : Str} {px px₂ tp py : Pos} {tk} {scope : Scope} {cl : List (Str × Addr)} {pos spos : Pos} {Q : Flow → Shared → Prop} (F₀ : Fr h₀ L s.heap m) (hLe : env.locals = L)
    (hsw : swapsWith (.ListComp elt [⟨.Tuple [.Name x px, .Name x₂ px₂] tk tp, iter, [], 0⟩] scope pos) (some (.Name y py)) spos.line env = pure true)
    (hclos : closureFor scope env = pure cl) (hcell : ∀ z ∈ scope.names, z.2 ≠ .cell) (hkind : scope.kind = .function)
    (hnames : ∀ z ∈ scope.names, z.2 = .local → scope.names.lookup z.1 = some .local) (hx : scope.names.lookup x = some .local) (hx₂ : scope.names.lookup x₂ = some .local) (hxx : x ≠ x₂)
    (hy : env.kindOf y = some .local) (hp : (env.scope.kind == .class || (env.scope.kind == .module && env.locals != env.globals)) = false)
    (h : wpAny (model prog w) A (eval iter env) (ZSrc prog w A h₀ L m env elt x x₂ scope cl (fun s₂ vs news => ∀ D h tk, Fr h₀ L h (fun z => if z = y then some (.ref D) else m z) → News h₀ L h ((D, lst vs) :: news) → (∀ p ∈ news, p.1 ≠ D) → Q .next { s₂ with heap := h, toks := tk })) E s)
    (hs : ∀ x, foldedSetIterable iter env x = pure x := by intro _; rfl) :
    wpAny (model prog w) A (exec (.Assign [.Name y py] (.ListComp elt [⟨.Tuple [.Name x px, .Name x₂ px₂] tk tp, iter, [], 0⟩] scope pos) spos) env) Q E s := by
  subst hLe
  rw [exec_Assign_Name_used _ _ _ _ hsw]
  refine wpAny_bind (wpAny_standAt (wpAny_bind ?_))
  show wpAny _ A (do let _ ← comprehension (.ListComp elt [⟨.Tuple [.Name x px, .Name x₂ px₂] tk tp, iter, [], 0⟩] scope pos) scope env _ (newList []) false (eval iter env) (some (assign (.Name y py) env))) _ _ s
  refine wpAny_bind (wpAny_mono (wpAny_comprehension_free (use := some (assign (.Name y py) env)) (Q := fun _ s' => Q .next s') rfl hs hclos hkind hnames
    (wpAny_mono h (fun xv s₁ h₁ => ?_) fun _ _ e => e)) (fun _ s' hq => wpAny_pure (wpAny_pure hq)) fun _ _ e => e)
  obtain ⟨z, TI, TO, i1, i2, l1, l2, xs, us, news, J, rfl, hh, D, hsz, hst, hlt, F, N, hm1, hm2, hwn, h0, step, fin⟩ := h₁
  refine wpAny_pyIter_zip hst.1 ?_
  refine block_Z J D hh hsz hcell hkind hx hx₂ hxx hst hlt F N hm1 hm2 hwn h0 step ?_
  intro D C h' tk m' vs F' N' offD hn hC₀ hD₀ hCL hDL hCD offC hJ
  show wpAny _ A (assign (.Name y py) env (.ref D)) _ _ _
  refine wpAny_assign_Name (wpAny_storeName_local hy F'.ns (fun h₂ hn₂ hs₂ => ?_) hp)
  have hL₀ : h₀.get? env.locals = none := Heap.get?_none_of_le F'.above
  have F₂ : Fr h₀ env.locals h₂ (fun z => if z = y then some (.ref D) else m z) := ⟨hn₂, fun b o e => hs₂.extBut b o (fun q => by rw [q, hL₀] at e; cases e) (F'.keep b o e), F'.above⟩
  refine ⟨m', hn.sameBut hs₂ hCL, fun h'' hs'' => fin vs hJ D h'' _ (F₂.change hs'' hCL hC₀) (fun p hp => ?_) offD⟩
  have z : h₂.get? p.1 = some p.2 := hs₂.extBut _ _ (N' p hp).2.1 (N' p hp).1
  refine ⟨hs''.extBut _ _ ?_ z, (N' p hp).2⟩
  rcases List.mem_cons.mp hp with rfl | hp
  · exact Ne.symm hCD
  · exact offC p hp
end

theorem kw_57 : True := by
  k_with_none
  trivial
theorem kw_58 : True := by
  (k_with "my ktr_room" => (first | ((with_reducible apply room_in); (case h => with_reducible assumption); exact rfl) | ((with_reducible apply room_in2); (case h => with_reducible assumption); exact rfl) | (with_reducible exact room_in1 (by assumption)) | decide | exact room_in (by with_reducible assumption) rfl | exact room_in2 (by with_reducible assumption) rfl | exact room_in1 (by with_reducible assumption) | exact Nat.le_of_ble_eq_true rfl | fail "own room"))
  trivial
theorem kw_59 : True := by
  (k_with "my ktr_units" => (first | ((with_reducible apply room_in); (case h => with_reducible assumption); exact rfl) | ((with_reducible apply room_in2); (case h => with_reducible assumption); exact rfl) | (with_reducible exact room_in1 (by assumption)) | decide | exact room_in (by with_reducible assumption) rfl | exact room_in2 (by with_reducible assumption) rfl | exact room_in1 (by with_reducible assumption) | exact Nat.le_of_ble_eq_true rfl | fail "own room"))
  trivial
theorem kw_60 : True := by
  (k_with "my l_fit" => ((try simp only [List.length_append, List.length_cons, List.length_nil, List.length_map]); (first | (with_reducible assumption) | ((with_reducible apply lt_wide); (case h => with_reducible assumption); exact rfl) | ((with_reducible apply le_wide); (case h => with_reducible assumption); exact rfl) | ((with_reducible apply ints_lt); (case i => with_reducible assumption); (case h => with_reducible assumption); exact rfl) | fail "own fit")))
  trivial
theorem kw_61 : True := by
  (k_with "my and" => first | with_reducible assumption | exact ax1 (by with_reducible assumption) | exact ax2 (by with_reducible assumption) | exact az2 (by with_reducible assumption) | exact ax3 (by with_reducible assumption) | exact az3 (by with_reducible assumption) | exact ax4 (by with_reducible assumption) | exact az4 (by with_reducible assumption) | exact ax1 (ax1 (by with_reducible assumption)) | exact ax2 (ax1 (by with_reducible assumption)) | exact az2 (ax1 (by with_reducible assumption)) | exact ax3 (ax1 (by with_reducible assumption)) | exact az3 (ax1 (by with_reducible assumption)) | fail "my and")
  trivial
theorem kw_62 : True := by
  (k_with "my omega" => (first | with_reducible assumption | ((with_reducible apply lt_wide); (case h => with_reducible assumption); exact rfl) | ((with_reducible apply le_wide); (case h => with_reducible assumption); exact rfl) | ((with_reducible apply le_wide2); (case h => with_reducible assumption); exact rfl) | ((with_reducible apply lt_wide2); (case h => with_reducible assumption); exact rfl) | ((with_reducible apply room_in); (case h => with_reducible assumption); exact rfl) | ((with_reducible apply room_in2); (case h => with_reducible assumption); exact rfl) | (with_reducible exact room_in1 (by assumption)) | (with_reducible exact cast_le (by assumption)) | (with_reducible exact cast_lt (by assumption)) | (with_reducible exact neg_cast (by assumption)) | (with_reducible exact sub_nn (by assumption)) | (with_reducible exact cast_ne (by assumption)) | (with_reducible exact cast_sub (by assumption)) | ((with_reducible apply cast_lt_k); (case h => with_reducible assumption); exact rfl) | ((with_reducible apply cast_le_k); (case h => with_reducible assumption); exact rfl) | ((with_reducible apply sub_lt_k); (case h => with_reducible assumption); exact rfl) | (with_reducible exact absurd (by assumption) (nle_of_lt (by assumption))) | k_extra "my and" | decide | fail "own omega"))
  trivial
theorem kw_63 : True := by
  (k_with "my news_mem" => k_mem)
  trivial
theorem kw_64 : True := by
  (k_with "my k_ne" => (refine neN ?_; (try dsimp only); first | exact NeA.out (by with_reducible assumption) | exact NeA.out2 (by with_reducible assumption) | exact neGet (by with_reducible assumption) (by k_mem) | exact ltGet (by with_reducible assumption) (by k_mem) | exact (neGet (by with_reducible assumption) (by k_mem)).symm | exact (ltGet (by with_reducible assumption) (by k_mem)).symm | (refine Nat.ne_of_lt ?_; k_extra "my and") | (refine Nat.ne_of_gt ?_; k_extra "my and") | k_extra "my and" | (refine Ne.symm ?_; k_extra "my and") | exact Nat.succ_ne_self _ | exact (Nat.succ_ne_self _).symm | fail "k_ne: not at hand"))
  trivial
theorem kw_65 : True := by
  (k_with "my mul_fits" => (refine mul_of_all (by assumption) ?_; assumption))
  trivial
theorem kw_66 : True := by
  (k_with "exec While Compare" => (k_here; k_dflt (refine wh_start ?_)))
  trivial
theorem kw_67 : True := by
  (k_with "exec While BoolOp" => (k_here; k_dflt (refine wh_start ?_)))
  trivial
theorem kw_68 : True := by
  (k_with "exec While Compare cons nil" => (k_here; k_dflt (refine wh_start ?_)))
  trivial
theorem kw_69 : True := by
  (k_with "WhPost" => (dsimp only [WhPost]))
  trivial
theorem kw_70 : True := by
  (k_with "binaryOp FloorDiv int int" => (k_here; (with_reducible apply floordiv_int); (case hb => first | assumption | omega); (case hp => (refine Or.inr (PySem.PylongRoom.of ?_ ?_); (next => exact (Heap.NoLimit.keeps (Top.nolimit (by assumption)) (Fr.keep (by assumption)))); (next => ((show _ + 100 < _); ktr_room))))))
  trivial
local macro_rules | `(tactic| k_qdec) => `(tactic| k_extra "my k_qdec")
theorem kw_71 : True := by
  (k_with "my k_qdec" => decide +kernel)
  trivial
theorem newList_ints {prog : Program} {w : World} {A : Around} {E : Value → Shared → Prop} {s : Shared} {h₀ : Heap} {L : Addr} {m : Str → Option Value} {news : List (Addr × Obj)} {vs : List Value} {ns : List Int} {Q : Value → Shared → Prop} (F : Fr h₀ L s.heap m) (N : News h₀ L s.heap news) (hi : IntsAre vs ns) (hz : vs.length ≤ sizeLine)
    (h : ∀ ws l h', IntsAre ws ns → Fr h₀ L h' m → News h₀ L h' ((l, listOf (List.toArray ws) 0) :: news) → (∀ p ∈ news, p.1 < l) → Q (.ref l) { s with heap := h' }) : wpAny (model prog w) A (newList vs) Q E s :=
  newList_K F N (fun l h' F' N' hl => h vs l h' hi F' N' hl) hz
theorem kw_72 : True := by
  (k_with "newList" => (k_here; (with_reducible show wpAny _ _ (newList (_ :: _)) _ _ _); (fail_if_success (with_reducible show wpAny _ _ (newList (Value.int (Int.fmod _ _) _ :: _)) _ _ _)); k_dflt (apply newList_ints; (case F => k_asm); (case N => k_asm); (case hi => l_ints); (case hz => exact Nat.le_of_ble_eq_true rfl); k_whole); intro zqws' zql' zqh' zqi1 zqF' zqN' zql1; (try k_sweep)))
  trivial
theorem pcs3 {h : Heap} {l1 l2 l3 : Addr} {v1 v2 v3 : List Value} {p1 p2 p3 : List Int} (i1 : IntsAre v1 p1) (i2 : IntsAre v2 p2) (i3 : IntsAre v3 p3) (h1 : h.IsList l1 (List.toArray v1)) (h2 : h.IsList l2 (List.toArray v2)) (h3 : h.IsList l3 (List.toArray v3)) : PcsAt h [.ref l1, .ref l2, .ref l3] [p1, p2, p3] := by
  refine ⟨rfl, fun i v hi => ?_⟩
  match i, hi with
  | 0, hi => cases hi; exact ⟨_, _, _, rfl, rfl, h1, i1⟩
  | 1, hi => cases hi; exact ⟨_, _, _, rfl, rfl, h2, i2⟩
  | 2, hi => cases hi; exact ⟨_, _, _, rfl, rfl, h3, i3⟩
  | n + 3, hi => simp at hi
theorem fm_small (x : Int) {b : Int} (h : 0 < b) (hb : b ≤ 64) : 0 ≤ x.fmod b ∧ x.fmod b < b ∧ x.fmod b < 64 := ⟨Int.fmod_nonneg_of_pos _ h, Int.fmod_lt_of_pos _ h, by have := Int.fmod_lt_of_pos x h; omega⟩
theorem mulAA (ns : List Int) : IntMulOk ((drX ns 0).fmod 41 - 20) ((drX ns 0).fmod 41 - 20) := by
  have h := fm_small (drX ns 0) (by decide : (0 : Int) < 41) (by decide)
  exact IntMulOk.of_le (m := 10) (n := 10) (intBits_le_iff.mpr (by omega)) (intBits_le_iff.mpr (by omega)) (by decide)
theorem kw_73 : True := by
  (k_with "my mul_fits" => exact mulAA _)
  trivial
theorem kw_74 : True := by
  (k_with "subscriptTail" => (k_here; (with_reducible show wpAny _ _ (subscriptTail _ _ (Value.ref _) (Value.int (Int.fmod (drX _ _) _) _)) _ _ _); (with_unfolding_all (apply item_anyK; (case hl => is_list); (case hi => l_ints); (case h0 => exact Int.fmod_nonneg_of_pos _ (by decide)); (case h1 => exact Int.fmod_lt_of_pos _ (by decide)); (case hfit => exact Int.lt_trans (Int.fmod_lt_of_pos _ (by decide)) (by decide)); (case hs => with_unfolding_all rfl)); k_whole); intro _))
  trivial
theorem alike_ok (n : Int) (ts : List Int) : ∀ x ∈ List.map (fun k' => if k' = n then (1 : Int) else 0) ts, 0 ≤ x ∧ x ≤ 3 := by
  intro x hx
  obtain ⟨k, _, rfl⟩ := List.mem_map.mp hx
  split <;> decide
theorem news_app {h₀ h : Heap} {L : Addr} {r1 r2 : List (Addr × Obj)} (N1 : News h₀ L h r1) (N2 : News h₀ L h r2) : News h₀ L h (r1 ++ r2) := fun p hp => (List.mem_append.mp hp).elim (N1 p) (N2 p)
theorem allLt_out {d : Nat} : ∀ {l : List (Addr × Obj)}, AllLt d l → ∀ p ∈ l, @LT.lt Nat _ p.1 d
  | [], _, p, hp => nomatch hp
  | q :: r, h, p, hp => (List.mem_cons.mp hp).elim (fun e => e ▸ h.1) fun hp => allLt_out h.2 p hp
theorem news_fin {h₀ h : Heap} {L : Addr} {news r : List (Addr × Obj)} (N : News h₀ L h news) (hs : ∀ p ∈ r, p ∈ news) : News h₀ L h r := fun p hp => N p (hs p hp)
theorem kw_75 : True := by
  (k_with "call ref" => (k_here; (with_reducible show wpAny _ _ (call (Value.ref 192) _) _ _ _); k_dflt (apply con_useI; (case' hC => apply c_law_drawn); (case hpp => (show Heap.IsList _ _ _; is_list)); (case hi => l_ints); (case hn => l_fit); (case h0 => decide); (case h1 => decide); (case h2 => decide); (case hB => k_asm); (case hF => k_asm); (case hX => k_asm); (case hN => k_asm); (case hT => k_asm); (case hkk => first | exact rfl | assumption); (case hdp => ktr_room); (case hun => ktr_units); k_whole); intro zqt' zqh' zqtk' zqF' zqN'; (try dsimp only); (try k_fold); (try k_sweep)))
  trivial
theorem pcs_ok (ns : List Int) : ∀ p ∈ pcsA ns, 0 < p.length ∧ p.length ≤ 3 ∧ ∀ y ∈ p, Builtin.Int.intBits y ≤ 64 := by
  have h0 := fm_small (drX ns 0) (by decide : (0 : Int) < 41) (by decide)
  have h1 := fm_small (drX ns 1) (by decide : (0 : Int) < 9) (by decide)
  have h2 := fm_small (drX ns 2) (by decide : (0 : Int) < 9) (by decide)
  have hq : (((drX ns 0).fmod 41 - 20) * ((drX ns 0).fmod 41 - 20)).natAbs ≤ 400 := by
    rw [Int.natAbs_mul]
    exact Nat.mul_le_mul (by omega : _ ≤ 20) (by omega : _ ≤ 20)
  intro p hp
  simp only [pcsA, List.mem_cons, List.not_mem_nil, or_false] at hp
  rcases hp with rfl | rfl | rfl <;> refine ⟨Nat.succ_pos _, by simp, fun y hy => intBits_le_iff.mpr ?_⟩ <;> simp only [List.mem_cons, List.not_mem_nil, or_false] at hy
  · rcases hy with rfl | rfl <;> omega
  · rcases hy with rfl | rfl <;> omega
  · rcases hy with rfl | rfl | rfl <;> omega
theorem tm_ok (ns : List Int) : ∀ n ∈ [(drX ns 4).fmod 3, (drX ns 5).fmod 4, (drX ns 6).fmod 2], 0 ≤ n ∧ n ≤ 3 := by
  have h0 := fm_small (drX ns 4) (by decide : (0 : Int) < 3) (by decide)
  have h1 := fm_small (drX ns 5) (by decide : (0 : Int) < 4) (by decide)
  have h2 := fm_small (drX ns 6) (by decide : (0 : Int) < 2) (by decide)
  intro n hn
  simp only [List.mem_cons, List.not_mem_nil, or_false] at hn
  rcases hn with rfl | rfl | rfl <;> omega
theorem kw_76 : True := by
  (k_with "call ref" => (k_here; (with_reducible show wpAny _ _ (call (Value.ref 206) _) _ _ _); k_dflt (refine stop_out ?_)))
  trivial
theorem kw_77 : True := by
  (k_with "exec For Name Tuple cons nil" => (k_here; k_dflt (refine For_turns (by k_asm) ?_)))
  trivial
theorem kw_78 : True := by
  (k_with "exec For Name Tuple" => (k_here; k_dflt (refine For_turns (by k_asm) ?_)))
  trivial
theorem kw_79 : True := by
  (k_with "FPost" => (dsimp only [FPost]))
  trivial
theorem kw_80 : True := by
  (k_with "call type:enumerate" => (k_here; (with_reducible show wpAny _ _ (call (Value.type _) [Value.ref _]) (fun xv s₁ => wpAny _ _ (pyIter xv) _ _ _) _ _); k_dflt (refine stop_out ?_)))
  trivial
theorem kw_81 : True := by
  (k_with "pyIter ref" => (k_here; (with_reducible show wpAny _ _ (pyIter (Value.ref _)) (fun it s₂ => TurnsAt _ _ _ _ _ _ _ _ _ it s₂) _ _); k_dflt (refine stop_out ?_)))
  trivial
theorem kw_82 : True := by
  (k_with "exec For Tuple Call" => (k_here; k_dflt (refine For_turns (by k_asm) ?_)))
  trivial
theorem kw_83 : True := by
  (k_with "exec For Tuple Call cons nil" => (k_here; k_dflt (refine For_turns (by k_asm) ?_)))
  trivial
theorem kw_84 : True := by
  (k_with "exec For Name Call" => (k_here; k_dflt (refine For_turns (by k_asm) ?_)))
  trivial
theorem kw_85 : True := by
  (k_with "exec For Name Call cons nil" => (k_here; k_dflt (refine For_turns (by k_asm) ?_)))
  trivial
theorem kw_86 : True := by
  (k_with "call type:zip" => (k_here; (with_reducible show wpAny _ _ (call (Value.type _) [Value.ref _, Value.ref _]) (fun xv s₁ => wpAny _ _ (pyIter xv) _ _ _) _ _); k_dflt (refine stop_out ?_)))
  trivial
theorem kw_87 : True := by
  (k_with "my k_all" => assumption)
  trivial
theorem drop_of {h₀ h : Heap} {L : Addr} {news : List (Addr × Obj)} (N : News h₀ L h news) (n : Nat) : ∃ B, B = news.drop n := ⟨_, rfl⟩
theorem cut_of {h₀ h : Heap} {L : Addr} {news : List (Addr × Obj)} (N : News h₀ L h news) (a b : Nat) : ∃ B, B = (news.drop a).take b ∧ ∀ p ∈ B, p ∈ news := ⟨_, rfl, fun p hp => List.mem_of_mem_drop (List.mem_of_mem_take hp)⟩
theorem pcs_at {RZ : List (Addr × Obj)} {l1 l2 l3 : Addr} {v1 v2 v3 : List Value} {k1 k2 k3 : Nat} {p1 p2 p3 : List Int} (m1 : (l1, listOf (List.toArray v1) k1) ∈ RZ) (m2 : (l2, listOf (List.toArray v2) k2) ∈ RZ) (m3 : (l3, listOf (List.toArray v3) k3) ∈ RZ) (i1 : IntsAre v1 p1) (i2 : IntsAre v2 p2) (i3 : IntsAre v3 p3) :
    ∀ (i : Nat) (v : Value), [Value.ref l1, .ref l2, .ref l3][i]? = some v → ∃ l vs k p, v = .ref l ∧ (l, listOf (List.toArray vs) k) ∈ RZ ∧ [p1, p2, p3][i]? = some p ∧ IntsAre vs p := by
  intro i v hi
  match i, hi with
  | 0, hi => cases hi; exact ⟨_, _, _, _, rfl, m1, rfl, i1⟩
  | 1, hi => cases hi; exact ⟨_, _, _, _, rfl, m2, rfl, i2⟩
  | 2, hi => cases hi; exact ⟨_, _, _, _, rfl, m3, rfl, i3⟩
  | n + 3, hi => simp at hi
theorem pcs_el {RZ : List (Addr × Obj)} {l1 l2 l3 : Addr} {v1 v2 v3 : List Value} {k1 k2 k3 : Nat} {p1 p2 p3 : List Int} {i : Nat} {v : Value} {P : Prop} (hi : [Value.ref l1, .ref l2, .ref l3][i]? = some v) (m1 : (l1, listOf (List.toArray v1) k1) ∈ RZ) (m2 : (l2, listOf (List.toArray v2) k2) ∈ RZ) (m3 : (l3, listOf (List.toArray v3) k3) ∈ RZ) (i1 : IntsAre v1 p1) (i2 : IntsAre v2 p2) (i3 : IntsAre v3 p3)
    (h : ∀ l vs k p, v = .ref l → (l, listOf (List.toArray vs) k) ∈ RZ → [p1, p2, p3][i]? = some p → IntsAre vs p → P) : P := by
  obtain ⟨l, vs, k, p, e, a, b, c⟩ := pcs_at m1 m2 m3 i1 i2 i3 i v hi
  exact h l vs k p e a b c
theorem le_of_ts {ns : List Int} {M n : Int} {i : Nat} (h : (drX ns 4).fmod 3 ≤ M ∧ (drX ns 5).fmod 4 ≤ M ∧ (drX ns 6).fmod 2 ≤ M) (hi : (tsA ns)[i]? = some n) : n ≤ M := by
  have := List.mem_of_getElem? hi
  simp only [tsA, List.mem_cons, List.not_mem_nil, or_false] at this
  rcases this with rfl | rfl | rfl <;> omega
theorem slice_upto {vs : List Value} {y : Int} (h0 : 0 ≤ y) (h2 : y ≤ (vs.length : Int)) : (slicePick vs.toArray none (some y) none).toList = vs.take y.toNat := by
  have ey : y = (y.toNat : Int) := by omega
  rw [ey, slicePick_upto vs.toArray y.toNat (by simp; omega)]
  simp [← ey]
theorem size_small {vs : List Value} (h : vs.length < 100) : vs.toArray.size ≤ sizeLine := by
  rw [List.size_toArray, sizeLine_eq]
  omega
theorem kw_88 : True := by
  (k_with "subscriptTail Name Slice ref ref" => (k_here; (with_reducible show wpAny _ _ (subscriptTail _ (PySem.Expr.Slice none (some _) none _) (Value.ref _) (Value.ref _)) _ _ _); k_dflt (apply kmk_slice_lit; (case F => k_asm); (case N => k_asm); (case hl => kmk_list); (case pl => kmk_part); (case pu => kmk_part); (case e => exact slice_upto (by assumption) (by assumption)); (case hs => with_unfolding_all rfl); (case ht => kmk_pure); (case hz => exact size_small (by assumption))); intro zqD' zqh' zqF' zqN' zql1; (try k_lt zql1); (try k_sweep)))
  trivial
theorem kw_89 : True := by
  (k_with "CompSrc" => (k_here; (with_reducible show LCg.CompSrc _ _ _ _ _ _ _ (PySem.Expr.Call _ [PySem.Expr.Name _ _, PySem.Expr.Name _ _] _ _) _ _ _ _ _ _); k_dflt (refine stop_out ?_)))
  trivial
theorem pcs_len {ns : List Int} {i : Nat} {p : List Int} (h : (pcsA ns)[i]? = some p) : p.length < 100 := by
  have := (pcs_ok ns p (List.mem_of_getElem? h)).2.1
  omega
theorem take_get {vs : List Value} {n j : Nat} {v : Value} (h : (List.toArray (List.take n vs))[j]? = some v) : vs[j]? = some v := by
  rw [List.getElem?_toArray, List.getElem?_take] at h
  split at h
  · exact h
  · cases h
theorem kw_90 : True := by
  (k_with "call ref" => (k_here; (with_reducible show wpAny _ _ (call (Value.ref 143) _) _ _ _); k_dflt (refine stop_out ?_)))
  trivial
def ansB (n : Int) (i : Nat) : List Bool := (List.range i).map fun j : Nat => decide ((j : Int) < n)
def ansL (n : Int) (i : Nat) : List Value := (ansB n i).map Value.bool
theorem ansL_succ (n : Int) (i : Nat) : ansL n (i + 1) = ansL n i ++ [Value.bool (decide ((i : Int) < n))] := by
  rw [ansL, ansB, List.range_succ, List.map_append, List.map_append]
  rfl
section
variable {prog : Program} {w : World} {A : Around} {E : Value → Shared → Prop} {s : Shared} {h₀ : Heap} {L : Addr} {m : Str → Option Value} {news : List (Addr × Obj)} {Q : Value → Shared → Prop}
theorem mul_rep {l : Addr} {v : Value} {c : Nat} {x : Int} {u : Tok} (F : Fr h₀ L s.heap m) (N : News h₀ L s.heap news) (hm : (l, listOf (List.toArray [v]) c) ∈ news) (h0 : 0 ≤ x ∧ x ≤ 3)
    (h : ∀ D h', Fr h₀ L h' m → News h₀ L h' ((D, listOf (List.toArray (List.replicate x.toNat v)) 0) :: news) → (∀ p ∈ news, p.1 < D) → Q (.ref D) { s with heap := h' }) :
    wpAny (model prog w) A (binaryOp .Mult (.ref l) (.int x u)) Q E s := by
  refine mul_list F N (N _ hm).1 (by omega) (by omega) (by simp; omega) fun h' F' N' => ?_
  have e : List.foldl (fun x1 x2 => x1 ++ x2) #[] (List.replicate (if (#[v] : Array Value).isEmpty = true then 0 else x.toNat) #[v]) = List.toArray (List.replicate x.toNat v) := by
    have : x = 0 ∨ x = 1 ∨ x = 2 ∨ x = 3 := by omega
    rcases this with rfl | rfl | rfl | rfl <;> rfl
  rw [e] at N'
  exact h _ h' F' N' fun p hp => Heap.lt_size (N p hp).1
theorem add_vals {a b : Addr} {vs ws : List Value} {c d : Nat} (F : Fr h₀ L s.heap m) (N : News h₀ L s.heap news) (ha : (a, listOf (List.toArray vs) c) ∈ news) (hb : (b, listOf (List.toArray ws) d) ∈ news) (hz : vs.length + ws.length ≤ sizeLine)
    (h : ∀ D h', Fr h₀ L h' m → News h₀ L h' ((D, listOf (List.toArray (vs ++ ws)) 0) :: news) → (∀ p ∈ news, p.1 < D) → Q (.ref D) { s with heap := h' }) :
    wpAny (model prog w) A (binaryOp .Add (.ref a) (.ref b)) Q E s :=
  add_lists F N ⟨_, (N _ ha).1, rfl, _, rfl⟩ ⟨_, (N _ hb).1, rfl, _, rfl⟩ (fun h' F' N' => h _ h' F' N' fun p hp => Heap.lt_size (N p hp).1) hz
end
theorem rep_size {n : Int} {v w : Value} (h : 0 ≤ n ∧ n ≤ 3) : (List.replicate n.toNat v).length + [w].length ≤ sizeLine := by
  rw [List.length_replicate, sizeLine_eq]
  show n.toNat + 1 ≤ _
  omega
theorem kw_91 : True := by
  (k_with "binaryOp Mult ref int" => (k_here; (with_reducible show wpAny _ _ (binaryOp Operator.Mult (Value.ref _) (Value.int _ _)) _ _ _); k_dflt (apply mul_rep; (case F => k_asm); (case N => k_asm); (case hm => k_mem); (case h0 => assumption); k_whole); intro zqD' zqh' zqF' zqN' zql1; (try k_lt zql1); (try k_sweep)))
  trivial
theorem kw_92 : True := by
  (k_with "binaryOp Add ref ref" => (k_here; (with_reducible show wpAny _ _ (binaryOp Operator.Add (Value.ref _) (Value.ref _)) _ _ _); k_dflt (apply add_vals; (case F => k_asm); (case N => k_asm); (case ha => k_mem); (case hb => k_mem); (case hz => exact rep_size (by assumption)); k_whole); intro zqD' zqh' zqF' zqN' zql1; (try k_lt zql1); (try k_sweep)))
  trivial
theorem kw_93 : True := by
  (k_with "compareOp NotEq ref ref" => (k_here; k_dflt (refine stop_out ?_)))
  trivial
theorem reads_bools {h : Heap} : ∀ bs : List Bool, ∃ as, ReadsAll h (bs.map Value.bool) (bs.map PyData.bool) as
  | [] => ⟨_, .nil⟩
  | b :: bs => by
    obtain ⟨as, x⟩ := reads_bools (h := h) bs
    exact ⟨_, .cons (.bool b) x⟩
theorem rep_ans {n : Int} (h : 0 ≤ n ∧ n ≤ 3) : List.replicate n.toNat (Value.bool true) ++ [Value.bool false] = (ansB n (n + 1).toNat).map Value.bool := by
  have : n = 0 ∨ n = 1 ∨ n = 2 ∨ n = 3 := by omega
  rcases this with rfl | rfl | rfl | rfl <;> rfl
theorem less_form (ts : List Int) (i : Nat) : List.map (fun k' : Int => if 0 > k' - (1 + (i : Int)) then 0 else k' - (1 + (i : Int))) ts = lessA ts ((i : Int) + 1) := by
  unfold lessA
  refine List.map_congr_left fun k _ => ?_
  split <;> omega
theorem less_raw (ns : List Int) (i : Nat) : ∀ n ∈ List.map (fun k' : Int => if 0 > k' - (1 + (i : Int)) then 0 else k' - (1 + (i : Int))) [(drX ns 4).fmod 3, (drX ns 5).fmod 4, (drX ns 6).fmod 2], 0 ≤ n ∧ n ≤ 3 := by
  rw [less_form]
  exact less_ok ns (i + 1)
theorem abs_form (n : Int) : (if n < 0 then -n else n) = (n.natAbs : Int) := by split <;> omega
theorem IntsAre.trans_eq {vs : List Value} {a b : List Int} (h : IntsAre vs a) (e : a = b) : IntsAre vs b := e ▸ h
theorem kA_of {vs : List Value} {ns : List Int} {i : Nat} (h : IntsAre vs (builtL [if [1, -2, 3, -6].getD ((drX ns 3).fmod 4).toNat 0 < 0 then -[1, -2, 3, -6].getD ((drX ns 3).fmod 4).toNat 0 else [1, -2, 3, -6].getD ((drX ns 3).fmod 4).toNat 0]
    [[0 - ((drX ns 0).fmod 41 - 20), 1], [0 - 2 * ((drX ns 0).fmod 41 - 20) - 2 * ((drX ns 1).fmod 9 - 4) - 1, 2], [((drX ns 0).fmod 41 - 20) * ((drX ns 0).fmod 41 - 20) + (1 + (drX ns 2).fmod 9), 0 - 2 * ((drX ns 0).fmod 41 - 20), 1]]
    (List.map (fun k' : Int => if 0 > k' - (1 + (i : Int)) then 0 else k' - (1 + (i : Int))) [(drX ns 4).fmod 3, (drX ns 5).fmod 4, (drX ns 6).fmod 2]))) : IntsAre vs (kA ns (i + 1)) := by
  rw [abs_form, less_form] at h
  exact h
theorem kw_94 : True := by
  (k_with "exec Assign cons ListComp" => (k_here; (with_reducible show wpAny _ _ (exec (PySem.Stmt.Assign [PySem.Expr.Name (Str.ofString "both") _] _ _) _) _ _ _); k_dflt (refine Assign_ListComp_Z (F₀ := by k_asm) (by rfl) (by with_unfolding_all rfl) (by with_unfolding_all rfl) (by decide) (by rfl) (by decide) (by rfl) (by rfl) (by decide) (by rfl) (by rfl) ?_)))
  trivial
theorem kw_95 : True := by
  (k_with "call type:zip" => (k_here; (with_reducible show wpAny _ _ (call (Value.type _) [Value.ref _, Value.ref _]) _ _ _); k_dflt (refine stop_out ?_)))
  trivial
theorem kw_96 : True := by
  (k_with "compareOp Eq ref ref" => (k_here; k_dflt (refine stop_out ?_)))
  trivial
theorem kw_97 : True := by
  (k_with "call ref" => (k_here; (with_reducible show wpAny _ _ (call (Value.ref 211) _) _ _ _); k_dflt (apply con_useI; (case' hC => apply c_law_common); (case hpp => exact True.intro); (case h0 => exact com_pos _); (case h1 => exact com_max _); (case hB => k_asm); (case hF => k_asm); (case hX => k_asm); (case hN => k_asm); (case hT => k_asm); (case hkk => first | exact rfl | assumption); (case hdp => ktr_room); (case hun => ktr_units); k_whole); intro zqt' zqh' zqtk' zqF' zqN'; (try dsimp only); (try k_fold); (try k_sweep)))
  trivial
theorem both_get {ns : List Int} {i : Nat} {a b : Int} (ha : (tsA ns)[i]? = some a) (hb : (osA ns)[i]? = some b) : (bothA ns).take (i + 1) = (bothA ns).take i ++ [min a b] := by
  match i, ha, hb with
  | 0, ha, hb => cases ha; cases hb; rfl
  | 1, ha, hb => cases ha; cases hb; rfl
  | 2, ha, hb => cases ha; cases hb; rfl
  | n + 3, ha, hb => simp [tsA] at ha
theorem min_if (a b : Int) : min a b = if b < a then b else a := by
  split <;> omega
theorem last_raw (ns : List Int) : GcdRun (builtL [[1, -2, 3, -6].getD ((drX ns 3).fmod 4).toNat 0] [[0 - ((drX ns 0).fmod 41 - 20), 1], [0 - 2 * ((drX ns 0).fmod 41 - 20) - 2 * ((drX ns 1).fmod 9 - 4) - 1, 2], [((drX ns 0).fmod 41 - 20) * ((drX ns 0).fmod 41 - 20) + (1 + (drX ns 2).fmod 9), 0 - 2 * ((drX ns 0).fmod 41 - 20), 1]] [(drX ns 4).fmod 3, (drX ns 5).fmod 4, (drX ns 6).fmod 2])
    (builtL [[4, -3, 9].getD ((drX ns 10).fmod 3).toNat 0] [[0 - ((drX ns 0).fmod 41 - 20), 1], [0 - 2 * ((drX ns 0).fmod 41 - 20) - 2 * ((drX ns 1).fmod 9 - 4) - 1, 2], [((drX ns 0).fmod 41 - 20) * ((drX ns 0).fmod 41 - 20) + (1 + (drX ns 2).fmod 9), 0 - 2 * ((drX ns 0).fmod 41 - 20), 1]] [(drX ns 7).fmod 2, (drX ns 8).fmod 2, (drX ns 9).fmod 3])
    (builtL [(Int.gcd (numA ns) (moreA ns) : Int)] (pcsA ns) (bothA ns)) := last_run ns
theorem f_raw (ns : List Int) : (builtL [[1, -2, 3, -6].getD ((drX ns 3).fmod 4).toNat 0] [[0 - ((drX ns 0).fmod 41 - 20), 1], [0 - 2 * ((drX ns 0).fmod 41 - 20) - 2 * ((drX ns 1).fmod 9 - 4) - 1, 2], [((drX ns 0).fmod 41 - 20) * ((drX ns 0).fmod 41 - 20) + (1 + (drX ns 2).fmod 9), 0 - 2 * ((drX ns 0).fmod 41 - 20), 1]] [(drX ns 4).fmod 3, (drX ns 5).fmod 4, (drX ns 6).fmod 2]).length < 100 := by
  have h : (fA ns).length < 100 := Nat.lt_of_le_of_lt (fA_bd ns).2 (by decide)
  exact h
theorem g_len (ns : List Int) : (builtL [moreA ns] (pcsA ns) (osA ns)).length < 100 := by
  have c1 := fmB (drX ns 7) (by decide : (0 : Int) < 2)
  have c2 := fmB (drX ns 8) (by decide : (0 : Int) < 2)
  have c3 := fmB (drX ns 9) (by decide : (0 : Int) < 3)
  unfold osA
  rw [law_built, List.length_map, trn_length, (F0_len ..).2]
  omega
theorem g_raw (ns : List Int) : (builtL [[4, -3, 9].getD ((drX ns 10).fmod 3).toNat 0] [[0 - ((drX ns 0).fmod 41 - 20), 1], [0 - 2 * ((drX ns 0).fmod 41 - 20) - 2 * ((drX ns 1).fmod 9 - 4) - 1, 2], [((drX ns 0).fmod 41 - 20) * ((drX ns 0).fmod 41 - 20) + (1 + (drX ns 2).fmod 9), 0 - 2 * ((drX ns 0).fmod 41 - 20), 1]] [(drX ns 7).fmod 2, (drX ns 8).fmod 2, (drX ns 9).fmod 3]).length < 100 := g_len ns
theorem ints_snoc {ys : List Value} {l : List Int} {c : Int} {t : Tok} (h : IntsAre ys l) : IntsAre (ys ++ [.int c t]) (l ++ [c]) := by
  induction h with
  | nil => exact .cons _ _ .nil
  | cons n t' _ ih => exact .cons n t' ih
theorem cut2_of {h₀ h : Heap} {L : Addr} {news : List (Addr × Obj)} (N : News h₀ L h news) (a b c d : Nat) : ∃ B, B = (news.drop a).take b ++ (news.drop c).take d ∧ ∀ p ∈ B, p ∈ news := ⟨_, rfl, fun p hp => (List.mem_append.mp hp).elim (fun hp => List.mem_of_mem_drop (List.mem_of_mem_take hp)) fun hp => List.mem_of_mem_drop (List.mem_of_mem_take hp)⟩
theorem map_of {h₀ h : Heap} {L : Addr} {m : Str → Option Value} (F : Fr h₀ L h m) : ∃ m', m' = m := ⟨_, rfl⟩
def adr1 : List (Addr × Obj) → Addr
  | (a, _) :: _ => a
  | [] => 0
theorem kw_98 : True := by
  (k_with "call ref" => (k_here; (with_reducible show wpAny _ _ (call (Value.ref 185) _) _ _ _); k_dflt (refine stop_out ?_)))
  trivial
theorem kw_99 : True := by
  (k_with "call ref" => (k_here; (with_reducible show wpAny _ _ (call (Value.ref 178) _) _ _ _); k_dflt (apply con_useL; (case' hC => apply c_zgcd); (case hpp => (constructor; (case left => is_list); (case right => is_list))); (case hi1 => l_ints); (case hi2 => l_ints); (case hn1 => l_fit); (case hn2 => l_fit); (case hg => assumption); (case hB => k_asm); (case hF => k_asm); (case hX => k_asm); (case hN => k_asm); (case hT => k_asm); (case hkk => first | exact rfl | assumption); (case hdp => ktr_room); (case hun => ktr_units); k_whole); intro zql' zqvs' zqk' zqh' zqtk' zqF' zqN' zql1 zqi1; (try dsimp only); (try k_fold); (try k_sweep)))
  trivial
theorem kw_100 : True := by
  (k_with "call ref" => (k_here; (with_reducible show wpAny _ _ (call (Value.ref 122) _) _ _ _); k_dflt (apply con_useL; (case' hC => apply c_zderive); (case hpp => (show Heap.IsList _ _ _; is_list)); (case hi => l_ints); (case hn => l_fit); (case hm => assumption); (case hB => k_asm); (case hF => k_asm); (case hX => k_asm); (case hN => k_asm); (case hT => k_asm); (case hkk => first | exact rfl | assumption); (case hdp => ktr_room); (case hun => ktr_units); k_whole); intro zql' zqvs' zqk' zqh' zqtk' zqF' zqN' zql1 zqi1; (try dsimp only); (try k_fold); (try k_sweep)))
  trivial
theorem kw_101 : True := by
  (k_with "subscriptTail" => (k_here; (with_reducible show wpAny _ _ (subscriptTail _ _ (Value.ref _) (Value.int (-1) _)) _ _ _); k_dflt (apply row_last; (case N => k_asm); (case hm => k_mem); (case hl => assumption); (case hs => with_unfolding_all rfl); k_whole)))
  trivial
set_option maxHeartbeats 8000000 in
theorem law_holds : PySem.Challenge.rw_sa0102_01.Holds := hd (by
  k_go0
  show (let v₂ : Env := _; let A₂ : Around := Around.deeper _ v₂; wpAny _ A₂ (execs _ v₂) _ _ _)
  intro v₂ A₂
  (all_goals try k_fold)
  k_steps
  refine stop_in ?_
  (k_here; (with_reducible show wpAny _ _ (call (Value.ref 206) _) _ _ _); k_dflt (refine' con_useL (c_law_built (kP := 0) ?ki ?z1 ?z2 ?z3 ?z4) ?k1 ?k2 ?k3 ?k4 ?k5 ?kK ?kp ?kd ?ku ?_; (case kp => (refine' ⟨?kp1, ?kp2, ?kp3⟩; (case kp1 => is_list); (case kp2 => is_list); (case kp3 => (refine' pcs3 ?i1 ?i2 ?i3 ?h1 ?h2 ?h3; (case h1 => is_list); (case h2 => is_list); (case h3 => is_list); (case i1 => l_ints); (case i2 => l_ints); (case i3 => l_ints))))); (case ki => l_ints); (case z1 => rfl); (case z2 => first | assumption | exact Nat.le_refl _); (case z3 => exact pcs_ok _); (case z4 => first | assumption | exact tm_ok _ | exact alike_ok _ _); (case k1 => k_asm); (case k2 => k_asm); (case k3 => k_asm); (case k4 => k_asm); (case k5 => k_asm); (case kK => first | exact rfl | assumption); (case kd => ktr_room); (case ku => ktr_units); k_whole); intro l' vs' k' h' tk' F' N' l1 i1; (try dsimp only); (try k_fold); (try k_sweep))
  k_steps
  refine stop_in ?_
  have N9 := (by assumption : News _ _ _ (_ :: _ :: _ :: _ :: _ :: _ :: _ :: _ :: _ :: _ :: _ :: _ :: [_]))
  have F9 := (by assumption : Fr _ _ _ _)
  obtain ⟨B0, hB0⟩ := drop_of N9 1
  obtain ⟨B1, hB1⟩ := drop_of N9 12
  obtain ⟨B, hB, hBs⟩ := cut_of N9 2 10
  obtain ⟨m₀, hm₀⟩ := map_of F9
  simp only [List.drop_succ_cons, List.drop_zero] at hB0 hB1
  simp only [List.drop_succ_cons, List.drop_zero, List.take_succ_cons, List.take_zero] at hB
  rename List Int => ns
  k_dflt (refine for_tuple (ns := [1, 2, 3]) (J := fun i m nw => ∃ vs k c v items, nw = (adr1 B0, listOf (List.toArray vs) k) :: (adr1 B1, c) :: (B ++ items) ∧ c.data = Data.cell v ∧ (∀ p ∈ items, p.1 ≠ adr1 B0) ∧ (∀ p ∈ items, p.1 ≠ adr1 B1) ∧ RI items vs (dueA (pcsA ns) [(drX ns 4).fmod 3, (drX ns 5).fmod 4, (drX ns 6).fmod 2] i) ∧ vs.length ≤ i ∧ (∀ x : Str, x ≠ "alike" → m x = m₀ x)) rfl ⟨_, (N9 _ (.head _)).1, rfl, _, rfl⟩ (N9 _ (.head _)).2.2 (N9 _ (.head _)).2.1 (.cons _ _ (.cons _ _ (.cons _ _ .nil))) (by assumption) ?hJ ?turn ?done)
  case hJ =>
    refine' ⟨_, ⟨[], 0, ?cc, ?vv, [], rfl, ?j1, (fun p hp => nomatch hp), (fun p hp => nomatch hp), (fun h _ => ⟨_, .nil⟩), Nat.le_refl _, (fun x _ => by rw [hm₀])⟩, ?j2, ?j3⟩
    case j2 =>
      have hBN := news_all N9 hBs
      rw [hB0, hB1]
      simp only [adr1, List.append_nil]
      exact news_c N9 (by k_mem) (news_c N9 (by k_mem) hBN)
    case j1 => assumption
    case j3 =>
      rw [hB0, hB1, hB]
      simp only [adr1, List.append_nil]
      repeat' (first | (intro p hp; exact absurd hp List.not_mem_nil) | refine List.forall_mem_cons.mpr ⟨by k_ne, ?_⟩)
  case done =>
    rintro m₁ nx h tk ⟨vs, k, c, v, items, rfl, hcd, hd0, hd1, hri, hvl, hm⟩ F' N'
    have hm1 : m₁ = fun y : Str => if y = "alike" then m₁ "alike" else m₀ y := by
      funext y
      by_cases e : y = "alike"
      · rw [if_pos e, e]
      · rw [if_neg e, hm y e]
    rw [hm1, hm₀] at F'
    rw [hB0] at hd0 N'
    rw [hB1] at hd1 N'
    rw [hB] at N'
    simp only [adr1] at hd0 hd1
    simp only [adr1, List.cons_append, List.nil_append] at N'
    (try dsimp only at F')
    (try k_fold)
    k_steps
    refine stop_in ?_
    have i8 := (by assumption : IntsAre _ (builtL [_] _ [_, _, _]))
    (k_here; (with_reducible show wpAny _ _ (call (Value.ref 185) _) _ _ _); k_dflt (refine' con_useY (c_yun_law ns ?ki) ?k1 ?k2 ?k3 ?k4 ?k5 ?kK ?kp ?kd ?ku ?_; (case kp => (show Heap.IsList _ _ _; is_list)); (case ki => exact i8); (case k1 => k_asm); (case k2 => k_asm); (case k3 => k_asm); (case k4 => k_asm); (case k5 => k_asm); (case kK => first | exact rfl | assumption); (case kd => ktr_room); (case ku => ktr_units); k_whole); intro rY asY h' tk' F' N' hY; (try dsimp only); (try k_fold))
    k_steps
    refine stop_in ?_
    obtain ⟨bsY, hbY⟩ := hri _ fun p hp => (N' p (by repeat' (first | exact hp | refine List.Mem.tail _ ?_))).1
    refine ne_same hY (.list (N' _ (.head _)).1 rfl rfl hbY) (shaped_found _) (by ktr_units) ?_
    clear hY hbY
    k_steps
    refine stop_in ?_
    rename Int => M9
    have hMa := (by assumption : M9 = _ ∨ M9 = _ ∨ M9 = _)
    have hMb := (by assumption : _ ≤ M9 ∧ _ ≤ M9 ∧ _ ≤ M9)
    have hM0 : 0 ≤ M9 ∧ M9 ≤ 3 := by
      have b1 := fm_small (drX ns 4) (by decide : (0 : Int) < 3) (by decide)
      have b2 := fm_small (drX ns 5) (by decide : (0 : Int) < 4) (by decide)
      have b3 := fm_small (drX ns 6) (by decide : (0 : Int) < 2) (by decide)
      omega
    have N9 := (by assumption : News _ _ _ (_ :: _ :: _ :: _ :: _ :: _ :: _ :: _ :: _ :: _ :: _ :: _ :: _ :: items))
    have F9 := (by assumption : Fr _ _ _ _)
    obtain ⟨SB, hSB⟩ := drop_of N9 0
    obtain ⟨R9, hR9, hR9s⟩ := cut_of N9 2 11
    obtain ⟨m₂, hm₂⟩ := map_of F9
    obtain ⟨RF, hRF, hRFs⟩ := cut_of N9 3 8
    obtain ⟨CS, hCS, hCSs⟩ := cut2_of N9 2 1 11 2
    simp only [List.drop_zero] at hSB
    simp only [List.drop_succ_cons, List.drop_zero, List.take_succ_cons, List.take_zero] at hR9 hRF
    simp only [List.drop_succ_cons, List.drop_zero, List.take_succ_cons, List.take_zero, List.cons_append, List.nil_append] at hCS
    have eSB : ∃ a, a = adr1 SB := ⟨_, rfl⟩
    rw [hSB] at eSB
    obtain ⟨aS, eSB⟩ := eSB
    simp only [adr1] at eSB
    k_dflt (refine for_range_iter (J := fun i m nw => ∃ its k ll vl kl items', nw = (aS, listOf (List.toArray (its ++ [.ref ll])) k) :: (ll, listOf (List.toArray vl) kl) :: (R9 ++ items') ∧ NeA ll aS ∧ (∀ p ∈ items', p.1 ≠ aS) ∧ (∀ q ∈ CS, ∀ p ∈ (ll, listOf (List.toArray vl) kl) :: items', p.1 ≠ q.1) ∧ SlA (fA ns) (RF ++ items') its ∧ its.length = i ∧ IntsAre vl (dit (fA ns) i) ∧ (∀ x : Str, x ≠ "turn" → m x = m₂ x)) rfl (by assumption) (by omega) (by omega) (by omega) (by omega) (by assumption) ?hJ2 (by with_unfolding_all rfl) (by with_unfolding_all rfl) ?turn2 ?done2)
    case hJ2 =>
      refine' ⟨_, ⟨[], _, _, _, _, [], rfl, ?j1, (fun p hp => nomatch hp), ?j3, slA_nil _ _, rfl, i8, (fun x _ => by rw [hm₂])⟩, ?j2⟩
      case j2 =>
        rw [eSB]
        simp only [List.append_nil, List.nil_append]
        exact news_c N9 (by k_mem) (news_c N9 (by k_mem) (news_all N9 hR9s))
      case j1 =>
        rw [eSB]
        exact NeA.of (by k_ne)
      case j3 =>
        rw [hCS]
        repeat' (first | (intro p hp; exact absurd hp List.not_mem_nil) | refine List.forall_mem_cons.mpr ⟨?_, ?_⟩)
        all_goals (dsimp only; k_ne)
    case done2 =>
      rintro m₁ nx h tk ⟨its, k, ll, vl, kl, items', rfl, hne, hd0, hdC, hsl, hil, il, hm⟩ F' N'
      have hm1 : m₁ = fun y : Str => if y = "turn" then m₁ "turn" else m₂ y := by
        funext y
        by_cases e : y = "turn"
        · rw [if_pos e, e]
        · rw [if_neg e, hm y e]
      rw [hm1, hm₂] at F'
      rw [hR9] at N'
      simp only [eSB] at N' hne hd0
      simp only [List.cons_append, List.nil_append] at N'
      (try dsimp only at F')
      (try k_fold)
      k_steps
      refine stop_in ?_
      have N9 := (by assumption : News _ _ _ (_ :: (ll, listOf (List.toArray vl) kl) :: _))
      have F9 := (by assumption : Fr _ _ _ _)
      have hil3 : its.length ≤ 3 := by omega
      obtain ⟨m₃, hm₃⟩ := map_of F9
      obtain ⟨RZ, hRZ, hRZs⟩ := cut2_of N9 0 2 3 8
      simp only [List.drop_succ_cons, List.drop_zero, List.take_succ_cons, List.take_zero, List.cons_append, List.nil_append] at hRZ
      obtain ⟨aM, eM⟩ : ∃ a, a = adr1 CS := ⟨_, rfl⟩
      obtain ⟨a3, e3⟩ : ∃ a, a = adr1 (CS.drop 1) := ⟨_, rfl⟩
      obtain ⟨a2, e2⟩ : ∃ a, a = adr1 (CS.drop 2) := ⟨_, rfl⟩
      rw [hCS] at eM e3 e2
      simp only [adr1, List.drop_succ_cons, List.drop_zero] at eM e3 e2
      k_dflt (refine' for_zip_free (ps := ?zps) (vs := ?zvs) (k₁ := ?zk1) (k₂ := ?zk2) (ns := tsA ns) (J := fun i m nx => ∃ c0 c3 c2, nx = (aM, c0) :: (a3, c3) :: (a2, c2) :: (RZ ++ items') ∧ (∃ v, c0.data = Data.cell v) ∧ (∃ v, c3.data = Data.cell v) ∧ (∃ v, c2.data = Data.cell v) ∧ m = m₃) ?hks rfl ?hi ?hlen (by assumption) ?hJ3 ?turn3 ?done3)
      case hks =>
        rintro i m nx ⟨c0, c3, c2, rfl, _, _, _, _⟩
        rw [hRZ]
        refine ⟨?_, ?_⟩ <;> (simp only [List.cons_append, List.nil_append]; k_mem)
      case hi => exact .cons _ _ (.cons _ _ (.cons _ _ .nil))
      case hlen => rfl
      case hJ3 =>
        refine' ⟨_, ⟨_, _, _, rfl, ⟨_, ?u0⟩, ⟨_, ?u3⟩, ⟨_, ?u2⟩, hm₃.symm⟩, ?uN⟩
        case uN =>
          rw [eM, e3, e2]
          exact news_c N9 (by k_mem) (news_c N9 (by k_mem) (news_c N9 (by k_mem) (news_app (news_fin N9 hRZs) (news_fin N9 fun p hp => by repeat' (first | exact hp | refine List.Mem.tail _ ?_)))))
        case u0 => assumption
        case u3 => assumption
        case u2 => assumption
      case turn3 =>
        rintro i v n t m₁ nx ow h tk hpi hni hap ⟨c0, c3, c2, rfl, ⟨v0, hc0⟩, ⟨v3, hc3⟩, ⟨v2, hc2⟩, rfl⟩ F' N'
        refine' pcs_el (RZ := RZ) hpi ?m1 ?m2 ?m3 ?i1 ?i2 ?i3 ?_
        case m1 => rw [hRZ]; k_mem
        case m2 => rw [hRZ]; k_mem
        case m3 => rw [hRZ]; k_mem
        case i1 => l_ints
        case i2 => l_ints
        case i3 => l_ints
        rintro lp vp kp p rfl hpm hpp hip
        have hRZ2 : RZ = (aS, listOf (List.toArray (its ++ [.ref ll])) k) :: (ll, listOf (List.toArray vl) kl) :: RF := by rw [hRZ, hRF, eSB]
        have hRows : SlA (fA ns) (RZ ++ items') (its ++ [.ref ll]) := slA_snoc hsl (fun p hp => by rw [hRZ2]; exact .tail _ (.tail _ hp)) (by rw [hRZ2]; exact .tail _ (.head _)) (by rw [hil]; exact il)
        have hn9 : 0 ≤ n ∧ n ≤ 3 := tm_ok ns n (List.mem_of_getElem? hni)
        have hnM : n ≤ M9 := le_of_ts hMb hni
        have hal : (its ++ [Value.ref ll]).length < 100 := by rw [List.length_append]; show its.length + 1 < 100; omega
        have hn0 : 0 ≤ n + 1 := by omega
        have hn1 : n + 1 ≤ ((its ++ [Value.ref ll]).length : Int) := by rw [List.length_append, hil]; show n + 1 ≤ (((M9 - 0).toNat + 1 : Nat) : Int); omega
        have hdM := hdC _ (by rw [hCS]; exact .head _)
        have hd3 := hdC _ (by rw [hCS]; exact .tail _ (.head _))
        have hd2 := hdC _ (by rw [hCS]; exact .tail _ (.tail _ (.head _)))
        dsimp only at hdM hd3 hd2
        have wM := NeA.of (hdM _ (.head _))
        have w3 := NeA.of (hd3 _ (.head _))
        have w2 := NeA.of (hd2 _ (.head _))
        have hEM : ∀ p ∈ items' ++ ow, p.1 ≠ aM := fun p hp => (List.mem_append.mp hp).elim (fun q => by rw [eM]; exact hdM p (.tail _ q)) fun q e => hap _ (.head _) p q e.symm
        have hE3 : ∀ p ∈ items' ++ ow, p.1 ≠ a3 := fun p hp => (List.mem_append.mp hp).elim (fun q => by rw [e3]; exact hd3 p (.tail _ q)) fun q e => hap _ (.tail _ (.head _)) p q e.symm
        have hE2 : ∀ p ∈ items' ++ ow, p.1 ≠ a2 := fun p hp => (List.mem_append.mp hp).elim (fun q => by rw [e2]; exact hd2 p (.tail _ q)) fun q e => hap _ (.tail _ (.tail _ (.head _))) p q e.symm
        rw [eM] at hEM
        rw [e3] at hE3
        rw [e2] at hE2
        rw [hm₃] at F'
        rw [eM, e3, e2, hRZ] at N'
        simp only [List.cons_append, List.nil_append, List.append_assoc] at N'
        (try dsimp only at F')
        (try k_fold)
        k_steps
        refine stop_in ?_
        have N9 := (by assumption : News _ _ _ ((_, listOf (List.toArray (List.take (n + 1).toNat (its ++ [.ref ll]))) 0) :: _))
        have hsz : (List.toArray (List.take (n + 1).toNat (its ++ [Value.ref ll]))).size = (n + 1).toNat := by rw [List.size_toArray, List.length_take]; omega
        k_dflt (refine LCg.CompSrc.ledger rfl (by assumption) N9 (.head _) (by rw [hsz, sizeLine_eq]; omega) ?_)
        intro g
        k_dflt (refine comp_ind (J := fun i ys => ys = ansL n i) ?stepC (.inr ⟨_, .head _, rfl, _, rfl⟩) ?finC _ 0 [] (Nat.zero_add _) rfl)
        case stepC =>
          intro j ys v I oI C oC D m₂ h tk E' hj hJ hP hC hx F' N' off hne
          rw [hsz] at hj
          obtain ⟨la, va, ka, rfl, hma, hia⟩ := hRows j v (take_get hP)
          obtain ⟨r, hex, hrs⟩ := slope_ans ns i p n hpp hni j (by omega)
          k_steps
          refine stop_in ?_
          have N8 := (by assumption : News _ _ _ ((I, oI) :: (C, oC) :: _))
          rw [hRZ] at hpm
          have q1 := (N8 (lp, listOf (List.toArray vp) kp) (.tail _ (.tail _ (.tail _ (.tail _ (.tail _ (.tail _ (.tail _ (List.mem_append_left (items' ++ ow) hpm))))))))).1
          have q2 := (N8 (la, listOf (List.toArray va) ka) (by
            rcases List.mem_append.mp hma with q | q
            · rw [hRZ] at q
              exact .tail _ (.tail _ (.tail _ (.tail _ (.tail _ (.tail _ (.tail _ (List.mem_append_left (items' ++ ow) q)))))))
            · repeat' (first | exact List.mem_append_right _ (List.mem_append_left _ q) | exact List.mem_append_left _ q | refine List.Mem.tail _ ?_))).1
          (k_here; k_dflt (refine' con_useB (c_zdivides hia hip (dit_len ns j) (pcs_len (ns := ns) hpp) hex) ?k1 ?k2 ?k3 ?k4 ?k5 ?kK ?kp ?kd ?ku ?_; (case kp => exact ⟨⟨_, q1, rfl, _, rfl⟩, ⟨_, q2, rfl, _, rfl⟩⟩); (case k1 => k_asm); (case k2 => k_asm); (case k3 => k_asm); (case k4 => k_asm); (case k5 => k_asm); (case kK => first | exact rfl | assumption); (case kd => ktr_room); (case ku => ktr_units); k_whole); intro h' tk' F' N'; (try dsimp only); (try k_fold))
          (try k_unfold)
          (try dsimp only)
          refine ⟨_, _, rfl, (by assumption), (by assumption), ?_⟩
          rw [hJ, hrs, ansL_succ]
        case finC =>
          intro ys hys
          rw [hsz] at hys
          unfold LCg.FinE
          intro D h tk F' N' o1
          k_steps
          refine stop_in ?_
          have N8 := (by assumption : News _ _ _ ((_, listOf (List.toArray (List.replicate n.toNat (Value.bool true) ++ [Value.bool false])) 0) :: _))
          rw [rep_ans hn9] at N8
          refine ne_same (.list (N8 (D, LCg.lst ys) (by k_mem)).1 rfl rfl (by rw [hys]; exact (reads_bools (ansB n (n + 1).toNat)).choose_spec)) (.list (N8 _ (.head _)).1 rfl rfl (reads_bools (ansB n (n + 1).toNat)).choose_spec) (shaped_bools _) (by ktr_units) ?_
          k_steps
          have N7 := (by assumption : News _ _ _ ((_, listOf (List.toArray (List.replicate n.toNat (Value.bool true) ++ [Value.bool false])) 0) :: _))
          refine' ⟨_, _, _, (aM, _) :: (a3, c3) :: (a2, _) :: (RZ ++ items'), rfl, (by assumption), ?N4, ?A4, _, _, _, rfl, ⟨_, ?x1⟩, ⟨_, hc3⟩, ⟨_, ?x2⟩, ?x3⟩
          case N4 =>
            rw [eM, e3, e2]
            refine news_app (news_fin N7 fun p hp => ?_) (news_c N7 (by k_mem) (news_c N7 (by k_mem) (news_c N7 (by k_mem) (news_app (news_fin N7 fun p hp => ?_) (news_fin N7 fun p hp => ?_)))))
            · repeat' (first | exact List.mem_append_right _ hp | refine List.Mem.tail _ ?_)
            · rw [hRZ] at hp
              exact .tail _ (.tail _ (.tail _ (.tail _ (.tail _ (.tail _ (.tail _ (.tail _ (.tail _ (List.mem_append_left (items' ++ ow) hp)))))))))
            · repeat' (first | exact List.mem_append_left _ hp | refine List.Mem.tail _ ?_)
          case x1 => assumption
          case x2 => assumption
          case x3 => exact hm₃.symm
          case A4 =>
            intro p hp q hq
            rcases List.mem_cons.mp hp with rfl | hp
            · have z := hap _ (.head _) q hq
              exact z
            rcases List.mem_cons.mp hp with rfl | hp
            · have z := hap _ (.tail _ (.head _)) q hq
              exact z
            rcases List.mem_cons.mp hp with rfl | hp
            · have z := hap _ (.tail _ (.tail _ (.head _))) q hq
              exact z
            · exact hap p (.tail _ (.tail _ (.tail _ hp))) q hq
      case done3 =>
        rintro m₁ nx h tk ⟨c0, c3, c2, rfl, ⟨v0, hc0⟩, ⟨v3, hc3⟩, ⟨v2, hc2⟩, rfl⟩ F' N'
        have hdM := hdC _ (by rw [hCS]; exact .head _)
        have hd3 := hdC _ (by rw [hCS]; exact .tail _ (.head _))
        have hd2 := hdC _ (by rw [hCS]; exact .tail _ (.tail _ (.head _)))
        dsimp only at hdM hd3 hd2
        rw [hm₃] at F'
        rw [eM, e3, e2, hRZ] at N'
        simp only [List.cons_append, List.nil_append] at N'
        (try dsimp only at F')
        (try k_fold)
        k_steps
        refine stop_in ?_
        rename Int => M8
        have hMa8 := (by assumption : M8 = _ ∨ M8 = _ ∨ M8 = _)
        have hMb8 := (by assumption : _ ≤ M8 ∧ _ ≤ M8 ∧ _ ≤ M8)
        have hM8 : 0 ≤ M8 ∧ M8 ≤ 3 := by
          have b1 := bm1 ns
          have b2 := bm2 ns
          have b3 := bm3 ns
          omega
        have N9 := (by assumption : News _ _ _ ((_, c0) :: (_, c3) :: (_, c2) :: _))
        have F9 := (by assumption : Fr _ _ _ _)
        obtain ⟨m₄, hm₄⟩ := map_of F9
        obtain ⟨RK, hRK, hRKs⟩ := cut_of N9 5 7
        simp only [List.drop_succ_cons, List.drop_zero, List.take_succ_cons, List.take_zero] at hRK
        k_dflt (refine for_range_free (J := fun i m nw => ∃ c1 l vs kk, nw = (a3, c1) :: (l, listOf (List.toArray vs) kk) :: RK ∧ (∃ v, c1.data = Data.cell v) ∧ NeA l a3 ∧ IntsAre vs (kA ns i) ∧ m "known" = some (.ref l) ∧ (∀ x : Str, x ≠ "known" → m x = m₄ x)) rfl (by assumption) (by omega) (by omega) (by omega) (by omega) (by assumption) ?hJ5 ?turn5 ?done5)
        case hJ5 =>
          refine' ⟨_, ⟨_, _, _, _, rfl, ⟨_, hc3⟩, ?j1, i8, ?j2, fun x _ => by rw [hm₄]⟩, ?j3⟩
          case j2 => with_unfolding_all rfl
          case j3 =>
            rw [e3]
            exact news_c N9 (by k_mem) (news_c N9 (by k_mem) (news_all N9 hRKs))
          case j1 =>
            rw [e3]
            exact NeA.of (by k_ne)
        case turn5 =>
          rintro i t m₁ nx ow h tk hi hap ⟨c1, l, vs, kk, rfl, ⟨v1, hc1⟩, hne1, il1, hmk, hm⟩ F' N'
          have hrun := kA_run ns i
          have hk1 := (kA_bd ns i).2
          have hk2 := (kA_bd ns (i + 1)).2
          have hk3 := kA_deL ns i
          have hzd := kA_de ns i
          have hm1 : m₁ = fun y : Str => if y = "known" then some (.ref l) else m₄ y := by
            funext y
            by_cases e : y = "known"
            · rw [if_pos e, e, hmk]
            · rw [if_neg e, hm y e]
          have hEo : ∀ p ∈ ow, p.1 ≠ a3 := fun p hp e => hap _ (.head _) p hp e.symm
          rw [e3] at hEo hne1
          rw [hm1, hm₄] at F'
          rw [e3, hRK] at N'
          simp only [List.cons_append, List.nil_append] at N'
          (try dsimp only at F')
          (try k_fold)
          k_steps
          refine stop_in ?_
          have z9 := less_raw ns i
          have i5 := (by assumption : IntsAre _ (List.map (fun k' : Int => if 0 > k' - (1 + (i : Int)) then 0 else k' - (1 + (i : Int))) _))
          (k_here; (with_reducible show wpAny _ _ (call (Value.ref 206) _) _ _ _); k_dflt (refine' con_useL (c_law_built (kP := 0) ?ki ?z1 ?z2 ?z3 ?z4) ?k1 ?k2 ?k3 ?k4 ?k5 ?kK ?kp ?kd ?ku ?_; (case kp => (refine' ⟨?kp1, ?kp2, ?kp3⟩; (case kp1 => is_list); (case kp2 => is_list); (case kp3 => (refine' pcs3 ?i1 ?i2 ?i3 ?h1 ?h2 ?h3; (case h1 => is_list); (case h2 => is_list); (case h3 => is_list); (case i1 => l_ints); (case i2 => l_ints); (case i3 => l_ints))))); (case ki => exact i5); (case z1 => rfl); (case z2 => first | assumption | exact Nat.le_refl _); (case z3 => exact pcs_ok _); (case z4 => exact z9); (case k1 => k_asm); (case k2 => k_asm); (case k3 => k_asm); (case k4 => k_asm); (case k5 => k_asm); (case kK => first | exact rfl | assumption); (case kd => ktr_room); (case ku => ktr_units); k_whole); intro l' vs' k' h' tk' F' N' l1 i1; (try dsimp only); (try k_fold); (try k_sweep))
          have i9 : IntsAre vs' (kA ns (i + 1)) := kA_of i1
          have N8 := (by assumption : News _ _ _ (_ :: (_, LCg.lst _) :: _))
          refine ne_same (d := .list ((kA ns (i + 1)).map PyData.int)) (.list (N8 _ (.tail _ (.tail _ (.head _)))).1 rfl rfl (reads_ints (by assumption)).choose_spec) (.list (N8 _ (.head _)).1 rfl rfl (reads_ints i9).choose_spec) (shaped_ints _) (by ktr_units) ?_
          (try k_unfold)
          (try dsimp only)
          k_steps
          have N7 := (by assumption : News _ _ _ (_ :: (_, LCg.lst _) :: _))
          refine' ⟨_, _, _, (a3, _) :: (?l5, listOf (List.toArray ?v5) _) :: RK, rfl, (by assumption), ?N5, ?A5, _, ?l5, ?v5, _, rfl, ⟨_, ?x5⟩, ?x6, ?x7, ?x8, ?x9⟩
          case x8 => with_unfolding_all rfl
          case N5 =>
            rw [e3, hRK]
            refine news_app (news_fin N7 fun p hp => ?_) (news_c N7 (by k_mem) (news_c N7 (by k_mem) (news_fin N7 fun p hp => ?_)))
            · repeat' (first | exact hp | refine List.Mem.tail _ ?_)
            · exact .tail _ (.tail _ (.tail _ (.tail _ (.tail _ (.tail _ (List.mem_append_left ow hp))))))
          case x5 => assumption
          case x6 => rw [e3]; exact NeA.of (by k_ne)
          case x7 => assumption
          case x9 =>
            intro x hx
            rw [hm₄]
            simp only [if_neg hx]
          case A5 =>
            intro p hp q hq
            rcases List.mem_cons.mp hp with rfl | hp
            · have z := hap _ (.head _) q hq
              exact z
            rcases List.mem_cons.mp hp with rfl | hp
            · exact Ne.symm (allNe_out (by assumption) q (by repeat' (first | exact hq | exact List.mem_append_right _ hq | refine List.Mem.tail _ ?_)))
            · exact hap p (.tail _ (.tail _ hp)) q hq
        case done5 =>
          rintro m₁ nx h tk ⟨c1, l, vs, kk, rfl, ⟨v1, hc1⟩, hne1, il1, hmk, hm⟩ F' N'
          have hm1 : m₁ = fun y : Str => if y = "known" then some (.ref l) else m₄ y := by
            funext y
            by_cases e : y = "known"
            · rw [if_pos e, e, hmk]
            · rw [if_neg e, hm y e]
          rw [e3] at hne1
          rw [hm1, hm₄] at F'
          rw [e3, hRK] at N'
          (try dsimp only at F')
          (try k_fold)
          k_steps
          refine stop_in ?_
          have N9 := (by assumption : News _ _ _ (_ :: (_, listOf (List.toArray [Value.int ((drX ns 7).fmod 2) _, Value.int ((drX ns 8).fmod 2) _, Value.int ((drX ns 9).fmod 3) _]) 0) :: _))
          k_dflt (refine' zsrc_call (J := fun i ys => IntsAre ys ((bothA ns).take i)) rfl (by assumption) N9 ?zm1 ?zm2 ?zz .nil ?zstep ?zfin)
          case zm1 => k_mem
          case zm2 => k_mem
          case zz => exact Nat.le_of_ble_eq_true rfl
          case zstep =>
            intro g i ys v₁ v₂ C oC D ow m₂ h tk E' hJ h1 h2 hoC hx1 hx2 F' N'
            obtain ⟨a5, ta5, rfl, ha5, _⟩ := ints_get' (ns := tsA ns) (.cons _ _ (.cons _ _ (.cons _ _ .nil))) i v₁ (by simpa using h1)
            obtain ⟨b5, tb5, rfl, hb5, _⟩ := ints_get' (ns := osA ns) (.cons _ _ (.cons _ _ (.cons _ _ .nil))) i v₂ (by simpa using h2)
            clear h1 h2
            k_steps
            · assumption
            · assumption
            · rw [both_get ha5 hb5, ← min_if]
              exact ints_snoc hJ
          case zfin =>
            intro g vs5 hvs5 D h tk F' N' oD
            have hvs5 : IntsAre vs5 (bothA ns) := hvs5
            have hlast := last_raw ns
            have hf1 := f_raw ns
            have hg1 := g_raw ns
            k_steps
            refine stop_in ?_
            (k_here; (with_reducible show wpAny _ _ (call (Value.ref 206) _) _ _ _); k_dflt (refine' con_useL (c_law_built (kP := 0) ?ki ?z1 ?z2 ?z3 ?z4) ?k1 ?k2 ?k3 ?k4 ?k5 ?kK ?kp ?kd ?ku ?_; (case kp => (refine' ⟨?kp1, ?kp2, ?kp3⟩; (case kp1 => is_list); (case kp2 => is_list); (case kp3 => (refine' pcs3 ?i1 ?i2 ?i3 ?h1 ?h2 ?h3; (case h1 => is_list); (case h2 => is_list); (case h3 => is_list); (case i1 => l_ints); (case i2 => l_ints); (case i3 => l_ints))))); (case ki => exact (.cons _ _ (.cons _ _ (.cons _ _ .nil)))); (case z1 => rfl); (case z2 => first | assumption | exact Nat.le_refl _); (case z3 => exact pcs_ok _); (case z4 => exact os_ok ns); (case k1 => k_asm); (case k2 => k_asm); (case k3 => k_asm); (case k4 => k_asm); (case k5 => k_asm); (case kK => first | exact rfl | assumption); (case kd => ktr_room); (case ku => ktr_units); k_whole); intro l' vs' k' h' tk' F' N' l1 i1; (try dsimp only); (try k_fold); (try k_sweep))
            k_steps
            refine stop_in ?_
            have hz5 := (by assumption : IntsAre _ (builtL [(Int.gcd (numA ns) (moreA ns) : Int)] (pcsA ns) (bothA ns)))
            (k_here; (with_reducible show wpAny _ _ (call (Value.ref 206) _) _ _ _); k_dflt (refine' con_useL (c_law_built (kP := 0) ?ki ?z1 ?z2 ?z3 ?z4) ?k1 ?k2 ?k3 ?k4 ?k5 ?kK ?kp ?kd ?ku ?_; (case kp => (refine' ⟨?kp1, ?kp2, ?kp3⟩; (case kp1 => is_list); (case kp2 => is_list); (case kp3 => (refine' pcs3 ?i1 ?i2 ?i3 ?h1 ?h2 ?h3; (case h1 => is_list); (case h2 => is_list); (case h3 => is_list); (case i1 => l_ints); (case i2 => l_ints); (case i3 => l_ints))))); (case ki => exact hvs5); (case z1 => rfl); (case z2 => first | assumption | exact Nat.le_refl _); (case z3 => exact pcs_ok _); (case z4 => exact both_ok ns); (case k1 => k_asm); (case k2 => k_asm); (case k3 => k_asm); (case k4 => k_asm); (case k5 => k_asm); (case kK => first | exact rfl | assumption); (case kd => ktr_room); (case ku => ktr_units); k_whole); intro l' vs' k' h' tk' F' N' l1 i1; (try dsimp only); (try k_fold); (try k_sweep))
            (try k_unfold)
            (try dsimp only)
            have i2 : IntsAre vs' (builtL [(Int.gcd (numA ns) (moreA ns) : Int)] (pcsA ns) (bothA ns)) := i1
            refine eq_same (d := .list ((builtL [(Int.gcd (numA ns) (moreA ns) : Int)] (pcsA ns) (bothA ns)).map PyData.int)) (.list (N' _ (.tail _ (.head _))).1 rfl rfl (reads_ints hz5).choose_spec) (.list (N' _ (.head _)).1 rfl rfl (reads_ints i2).choose_spec) (shaped_ints _) (by ktr_units) ?_
            have b10 := fmB (drX ns 10) (by decide : (0 : Int) < 3)
            have b03 := fmB (drX ns 3) (by decide : (0 : Int) < 4)
            k_steps
    case turn2 =>
      rintro i t m₁ nx h tk it oi hi hit ⟨its, k, ll, vl, kl, items', rfl, hne, hd0, hdC, hsl, hil, il, hm⟩ F' N'
      have hzd := dit_de ns i (by omega)
      have hzl := dit_len ns i
      have w1 : NeA aS it := NeA.of (hit _ (.head _))
      rw [eSB] at w1
      have hits : its.length < 1000 := by omega
      have hal : (its ++ [Value.ref ll]).length < 100 := by rw [List.length_append]; show its.length + 1 < 100; omega
      have hm1 : m₁ = fun y : Str => if y = "turn" then m₁ "turn" else m₂ y := by
        funext y
        by_cases e : y = "turn"
        · rw [if_pos e, e]
        · rw [if_neg e, hm y e]
      rw [hm1, hm₂] at F'
      rw [hR9] at N'
      rw [eSB] at hne hd0 N'
      simp only [List.cons_append, List.nil_append] at N'
      (try dsimp only at F')
      (try k_fold)
      k_steps
      have N9 := (by assumption : News _ _ _ (_ :: (it, oi) :: _))
      simp only [List.push_toArray] at N9
      have n9 := (by assumption : AllNe _ (_ :: _))
      have b9 : it ≠ _ := neGet n9 (by k_mem)
      refine' ⟨_, _, _, (aS, listOf (List.toArray ((its ++ [.ref ll]) ++ [.ref ?lr])) _) :: (?lr, listOf (List.toArray ?vr) _) :: (R9 ++ ((ll, listOf (List.toArray vl) kl) :: items')), rfl, (by assumption), ?N2, ?A2, its ++ [.ref ll], _, ?lr, ?vr, _, (ll, listOf (List.toArray vl) kl) :: items', rfl, ?q1, ?q2, ?q3, ?q4, ?q5, (by assumption), ?q7⟩
      case N2 =>
        rw [eSB, hR9]
        refine news_app (news_1 N9 (by k_mem)) (news_c N9 (by k_mem) (news_c N9 (by k_mem) (news_app (news_fin N9 fun p hp => ?_) (news_c N9 (by k_mem) (news_fin N9 fun p hp => ?_)))))
        · exact .tail _ (.tail _ (.tail _ (.tail _ (List.mem_append_left items' hp))))
        · repeat' (first | exact hp | refine List.Mem.tail _ ?_)
      case A2 =>
        intro p hp q hq
        rw [List.mem_singleton.mp hq]
        rcases List.mem_cons.mp hp with rfl | hp
        · have q9 := hit _ (.head _)
          exact q9
        rcases List.mem_cons.mp hp with rfl | hp
        · exact b9.symm
        rcases List.mem_append.mp hp with hp | hp
        · exact hit p (.tail _ (.tail _ (List.mem_append_left _ hp)))
        rcases List.mem_cons.mp hp with rfl | hp
        · exact hit _ (.tail _ (.head _))
        · exact hit p (.tail _ (.tail _ (List.mem_append_right _ hp)))
      case q1 =>
        rw [eSB]
        exact NeA.of (by k_ne)
      case q2 =>
        rw [eSB]
        exact List.forall_mem_cons.mpr ⟨hne.out, hd0⟩
      case q3 =>
        intro q hq p hp
        rcases List.mem_cons.mp hp with rfl | hp
        · rw [hCS] at hq
          simp only [List.mem_cons, List.not_mem_nil, or_false] at hq
          rcases hq with rfl | rfl | rfl <;> (dsimp only; k_ne)
        · exact hdC q hq p hp
      case q4 => exact slA_snoc hsl (fun p hp => (List.mem_append.mp hp).elim (fun q => List.mem_append_left _ q) fun q => List.mem_append_right _ (.tail _ q)) (List.mem_append_right _ (.head _)) (by rw [hil]; exact il)
      case q5 => rw [List.length_append, hil]; rfl
      case q7 =>
        intro x hx
        rw [hm₂]
        simp only [if_neg hx]

  case turn =>
    rintro i n t m₁ nx ow h tk hni hap ⟨vs, k, c, v, items, rfl, hcd, hd0, hd1, hri, hvl, hm⟩ F' N'
    have hm1 : m₁ = fun y : Str => if y = "alike" then m₁ "alike" else m₀ y := by
      funext y
      by_cases e : y = "alike"
      · rw [if_pos e, e]
      · rw [if_neg e, hm y e]
    have hE0 : ∀ p ∈ items ++ ow, p.1 ≠ adr1 B0 := fun p hp => (List.mem_append.mp hp).elim (fun q => hd0 p q) fun q e => hap _ (.head _) p q e.symm
    have hE1 : ∀ p ∈ items ++ ow, p.1 ≠ adr1 B1 := fun p hp => (List.mem_append.mp hp).elim (fun q => hd1 p q) fun q e => hap _ (.tail _ (.head _)) p q e.symm
    rw [hB0] at hE0
    rw [hB1] at hE1
    simp only [adr1] at hE0 hE1
    rw [hm1, hm₀] at F'
    rw [hB0, hB1, hB] at N'
    simp only [adr1, List.cons_append, List.nil_append, List.append_assoc] at N'
    (try dsimp only at F')
    (try k_fold)
    have hn : n = (i : Int) + 1 := by
      match i, hni with
      | 0, h => cases h; rfl
      | 1, h => cases h; rfl
      | 2, h => cases h; rfl
      | j + 3, h => simp at h
    subst hn
    have hi3 : i < 3 := by
      rcases Nat.lt_or_ge i 3 with q | q
      · exact q
      · rw [List.getElem?_eq_none (by simpa using q)] at hni; cases hni
    have hv9 : vs.length < 100 := by omega
    k_steps
    · refine stop_in ?_
      (k_here; (with_reducible show wpAny _ _ (call (Value.ref 206) _) _ _ _); k_dflt (refine' con_useL (c_law_built (kP := 0) ?ki ?z1 ?z2 ?z3 ?z4) ?k1 ?k2 ?k3 ?k4 ?k5 ?kK ?kp ?kd ?ku ?_; (case kp => (refine' ⟨?kp1, ?kp2, ?kp3⟩; (case kp1 => is_list); (case kp2 => is_list); (case kp3 => (refine' pcs3 ?i1 ?i2 ?i3 ?h1 ?h2 ?h3; (case h1 => is_list); (case h2 => is_list); (case h3 => is_list); (case i1 => l_ints); (case i2 => l_ints); (case i3 => l_ints))))); (case ki => l_ints); (case z1 => rfl); (case z2 => first | assumption | exact Nat.le_refl _); (case z3 => exact pcs_ok _); (case z4 => first | assumption | exact tm_ok _ | exact alike_ok _ _); (case k1 => k_asm); (case k2 => k_asm); (case k3 => k_asm); (case k4 => k_asm); (case k5 => k_asm); (case kK => first | exact rfl | assumption); (case kd => ktr_room); (case ku => ktr_units); k_whole); intro l' vs' k' h' tk' F' N' l1 i1; (try dsimp only); (try k_fold); (try k_sweep))
      have i9 := (by assumption : IntsAre _ (builtL [1] _ _))
      k_steps
      rename (_ : Obj).data = Data.cell (some _) => hc9
      have l9 := (by assumption : ∀ p ∈ (_ :: _ : List (Addr × Obj)), @LT.lt Addr _ p.1 _)
      have n9 := allNe_out (by assumption : AllNe _ (_ :: _))
      have N9 := (by assumption : News _ _ _ (_ :: _ :: _ :: _ :: _ :: _ :: _ :: _ :: _ :: _ :: _ :: _ :: _ :: _ :: _ :: (items ++ ow)))
      simp only [List.push_toArray] at N9
      refine' ⟨_, _, _, _, rfl, (by assumption), ?N2, ?A2, vs ++ [.ref _], _, _, _, (_, ({ cls := .type "tuple", data := .seq #[.ref ?lp, .int ((i : Int) + 1) _] _ } : Obj)) :: (?lp, listOf (List.toArray _) _) :: items, rfl, hc9, ?d0, ?d1, ?ri2, ?vl2, ?hm2⟩
      case N2 =>
        refine news_app (news_fin N9 fun p hp => ?_) ?_
        · repeat' (first | exact List.mem_append_right _ hp | refine List.Mem.tail _ ?_)
        rw [hB0, hB1]
        simp only [adr1]
        refine news_c N9 (by k_mem) (news_c N9 (by k_mem) (news_app (news_fin N9 fun p hp => ?_) (news_c N9 (by k_mem) (news_c N9 (by k_mem) (news_fin N9 fun p hp => ?_)))))
        · rw [hB] at hp
          exact .tail _ (.tail _ (.tail _ (.tail _ (.tail _ (List.mem_append_left (items ++ ow) hp)))))
        · repeat' (first | exact List.mem_append_left _ hp | refine List.Mem.tail _ ?_)
      case A2 =>
        intro p hp q hq
        rcases List.mem_cons.mp hp with rfl | hp
        · exact hap _ (.head _) q hq
        rcases List.mem_cons.mp hp with rfl | hp
        · exact hap _ (.tail _ (.head _)) q hq
        rcases List.mem_append.mp hp with hp | hp
        · exact hap p (.tail _ (.tail _ (List.mem_append_left _ hp))) q hq
        rcases List.mem_cons.mp hp with rfl | hp
        · exact Nat.ne_of_gt (l9 q (by repeat' (first | exact hq | exact List.mem_append_right _ hq | refine List.Mem.tail _ ?_)))
        rcases List.mem_cons.mp hp with rfl | hp
        · exact Ne.symm (n9 q (by repeat' (first | exact hq | exact List.mem_append_right _ hq | refine List.Mem.tail _ ?_)))
        · exact hap p (.tail _ (.tail _ (List.mem_append_right _ hp))) q hq
      case d0 =>
        rw [hB0]
        simp only [adr1]
        exact List.forall_mem_cons.mpr ⟨by k_ne, List.forall_mem_cons.mpr ⟨by k_ne, by rw [hB0] at hd0; exact hd0⟩⟩
      case d1 =>
        rw [hB1]
        simp only [adr1]
        exact List.forall_mem_cons.mpr ⟨by k_ne, List.forall_mem_cons.mpr ⟨by k_ne, by rw [hB1] at hd1; exact hd1⟩⟩
      case ri2 =>
        have a9 : (alikeA [(drX ns 4).fmod 3, (drX ns 5).fmod 4, (drX ns 6).fmod 2] ((i : Int) + 1)).any (fun x => x == 1) = true := (by assumption : List.any (List.map _ _) _ = true)
        rw [dueA, if_pos a9]
        exact ri_snoc hri i9
      case vl2 =>
        rw [List.length_append]
        exact Nat.add_le_add_right hvl 1
      case hm2 =>
        intro x hx
        rw [hm₀]
        simp only [if_neg hx]
    · rename (_ : Obj).data = Data.cell (some _) => hc9
      refine' ⟨_, _, _, _, rfl, (by assumption), ?Nd, ?Ad, vs, k, _, _, items, rfl, hc9, hd0, hd1, ?rid, by omega, ?hmd⟩
      case Nd =>
        refine news_fin (by assumption) fun p hp => ?_
        rcases List.mem_append.mp hp with hp | hp
        · repeat' (first | exact List.mem_append_right _ hp | refine List.Mem.tail _ ?_)
        rcases List.mem_cons.mp hp with rfl | hp
        · rw [hB0]; simp only [adr1]; k_mem
        rcases List.mem_cons.mp hp with rfl | hp
        · rw [hB1]; simp only [adr1]; k_mem
        rcases List.mem_append.mp hp with hp | hp
        · rw [hB] at hp
          exact .tail _ (.tail _ (.tail _ (List.mem_append_left (items ++ ow) hp)))
        · repeat' (first | exact List.mem_append_left _ hp | refine List.Mem.tail _ ?_)
      case Ad =>
        intro p hp q hq
        rcases List.mem_cons.mp hp with rfl | hp
        · exact hap _ (.head _) q hq
        rcases List.mem_cons.mp hp with rfl | hp
        · exact hap _ (.tail _ (.head _)) q hq
        · exact hap p (.tail _ (.tail _ hp)) q hq
      case rid =>
        rw [dueA, if_neg, List.append_nil]
        · exact hri
        · exact fun e => Bool.false_ne_true ((by assumption : List.any (List.map _ _) _ = false).symm.trans e)
      case hmd =>
        intro x hx
        rw [hm₀]
        simp only [if_neg hx]
  )

end Mine
theorem PySem.Challenge.cw_sa0102_01_holds : PySem.Challenge.rw_sa0102_01.Holds := by
  exact Mine.law_holds
