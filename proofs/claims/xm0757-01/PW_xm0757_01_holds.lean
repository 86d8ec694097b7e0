import PyProof.Rows.All
import Wide.All
import OpenK.AllK
import Wide.FinOn
import Lean
import PySem.Challenge.RW_xm0757_01
open PySem PySem.W PyProof.Rows PySem.Spec PySem.Calls
set_option Elab.async false
set_option maxRecDepth 100000
set_option maxHeartbeats 8000000
set_option rowWalk.seconds 0
set_option linter.unusedVariables false
namespace Mine
def topG (st : SharedT → Thread → Option (SharedT × Thread)) (ok : Thread → Bool) : Nat → SharedT → Thread → Option SharedT
  | 0, _, _ => none
  | n + 1, s, t => match through t with
    | true => some s
    | false => match ok t with
      | false => none
      | true => match st s t with
        | some (s', t') => topG st ok n s' t'
        | none => none
theorem topG_of {tb : String → Option Builtin} {p : Program} {w : World} {n₀ : Nat} {ann : Option Value} :
    ∀ {n : Nat} {s s' : SharedT} {t : Thread}, topG (stepT (denote tb) p w) (stepOk n₀ ann) n s t = some s' → topRun tb p w n₀ ann n s.abs t = some s'.abs
  | 0, _, _, _, h => by cases h
  | n + 1, s, s', t, h => by
    unfold topG at h
    unfold topRun
    cases he : through t with
    | true => rw [he] at h; cases h; rfl
    | false =>
      rw [he] at h
      cases hk : stepOk n₀ ann t with
      | false => rw [hk] at h; cases h
      | true =>
        rw [hk] at h
        cases hs : stepT (denote tb) p w s t with
        | none => rw [hs] at h; cases h
        | some r => obtain ⟨s₂, t₂⟩ := r; rw [hs] at h; rw [stepT_spec hs]; exact topG_of h
def treeOf : Nat → List Obj → BT → BT
  | _, [], t => t
  | n, o :: r, t => treeOf (n + 1) r (t.ins n o)
noncomputable def bootT (P : Params) : BT := treeOf 0 (boot_heap P).objs.toList .nil
theorem boot_tree : ∀ P, boot_heap P = absHeap (bootT P) 11 {} := by intro P; kernel_rfl
theorem boot_size : ∀ P, ((boot_heap P).isNs mainGlobals, (boot_heap P).objs.size, (boot_heap P).nsMap mainGlobals "__annotations__") = (true, 11, some (.ref 6)) := by intro P; kernel_rfl
-- the top's run at once, over the boot's heap as a tree; each heavy word of the run may be given by a quicker one that it equals
noncomputable abbrev RunAt (st : (Code → Sem Fin) → Program → World → SharedT → Thread → Option (SharedT × Thread)) (ok : Nat → Option Value → Thread → Bool) (de : (String → Option Builtin) → Code → Sem Fin) (tt : String → Option Builtin) (p : Program) (M : Nat) (w : World) (os : OsState) : Option SharedT :=
  topG (st (de tt) p w) (ok 11 (some (.ref 6))) M ⟨bootT w.params, 11, {}, #[], boot_drawn, boot_toks, os⟩ (topStub p)
def atT (s : SharedT) (a : Addr) : Option Obj := match Nat.blt a s.n with
  | true => alive ((s.tree.get a).getD default)
  | false => none
theorem atT_eq (s : SharedT) (a : Addr) : s.abs.heap.get? a = atT s a := by
  obtain ⟨t, n, life, gs, d, k, os⟩ := s
  show (absHeap t n life).get? a = _
  unfold atT Heap.get?
  rw [absHeap_at]
  dsimp only
  cases h : Nat.blt a n with
  | true =>
    rw [if_pos (show a < n from Nat.le_of_ble_eq_true h)]
    dsimp only
    generalize (t.get a).getD default = o
    obtain ⟨c, d, dt, sl⟩ := o
    cases dt <;> rfl
  | false => rw [if_neg (show ¬ a < n from fun q => Bool.noConfusion (h.symm.trans (Nat.ble_eq_true_of_le q)))]
theorem left_at_once {p p' : Program} {q : Program → Program} {loose : List Str} {Xt : Program → Shared → Bool} {as : List Addr} {Ya : World → List (Option Obj)} {N M : Nat}
    {st : (Code → Sem Fin) → Program → World → SharedT → Thread → Option (SharedT × Thread)} {ok : Nat → Option Value → Thread → Bool} {de : (String → Option Builtin) → Code → Sem Fin} {tt : String → Option Builtin} {im : List Stmt → List Str} {sn : type_of% @openSeen}
    (hst : stepT = st) (hok : stepOk = ok) (hde : denote = de) (htt : treeTable = tt) (him : importedModules = im) (hsn : @openSeen = sn) (hp : p = p')
    (e : opening p = plainProg p.main.scope.names) (hN : Nat.ble 600 N = true) (f : ∀ s, fenceModules? p s = some s) (le : Nat.ble M N = true)
    (seen : ∀ w : World, (fun os => (RunAt st ok de tt p' M w os).map fun s => sn (q p') loose (im p'.main.body) (Xt p') true s.abs) = fun _ => some (openGood (q p') loose))
    (left : ∀ w : World, (fun os => (RunAt st ok de tt p' M w os).map fun s =>
      ((staticsOk (im p'.main.body) (boot_heap w.params) s.abs.heap && namesBound p' s.abs.heap && gensDone s.abs && laidKept (boot_heap w.params) s.abs.heap), as.map (atT s))) = fun _ => some (true, Ya w)) :
    LeftO p (q p) loose (Xt p) (fun s => as.map s.heap.get?) Ya N := fun w => by
  subst hst hok hde htt him hsn hp
  obtain ⟨⟨h, gs, d, k, os⟩, e1, e'⟩ := Option.map_eq_some_iff.mp (boot_open e hN f w)
  obtain ⟨rfl, rfl, rfl, rfl⟩ : h = boot_heap w.params ∧ gs = #[] ∧ d = boot_drawn ∧ k = boot_toks := by simpa using e'
  obtain ⟨z1, z2, z3⟩ : _ ∧ _ ∧ _ := by simpa only [Prod.mk.injEq] using boot_size w.params
  obtain ⟨s, a1, a2⟩ := Option.map_eq_some_iff.mp (congrFun (left w) os)
  obtain ⟨s', b1, l2⟩ := Option.map_eq_some_iff.mp (congrFun (seen w) os)
  obtain rfl : s = s' := Option.some.inj (a1.symm.trans b1)
  obtain ⟨l1, l3⟩ : _ ∧ _ := by simpa only [Prod.mk.injEq] using a2
  have l3 : as.map s.abs.heap.get? = Ya w := by rw [← l3]; exact List.map_congr_left fun a _ => atT_eq s a
  have r := topRun_mono (N - M) _ _ _ _ (topG_of a1)
  rw [show M + (N - M) = N by have := Nat.le_of_ble_eq_true le; omega] at r
  have r' : topRun treeTable p w 11 (some (.ref 6)) N ⟨boot_heap w.params, #[], boot_drawn, boot_toks, os⟩ (topStub p) = some s.abs := by
    rw [boot_tree w.params]; exact r
  have t : topFrom treeTable p w N ⟨boot_heap w.params, #[], boot_drawn, boot_toks, os⟩ = some s.abs := by
    unfold topFrom
    dsimp only
    rw [z1, z2, z3, r']
    show (match staticsOk (importedModules p.main.body) (boot_heap w.params) s.abs.heap && namesBound p s.abs.heap && gensDone s.abs && laidKept (boot_heap w.params) s.abs.heap with | true => _ | false => _) = _
    rw [l1]
  unfold openEnds
  rw [e1]
  show (topFrom treeTable p w N _).map _ = _
  rw [t]
  exact congrArg some (Prod.ext l2 l3)
abbrev hdView (p : Program) : Program := view p [0, 2, 3, 4, 5, 7, 8, 9, 10, 11, 13, 15, 16, 17, 18, 19, 20, 21, 22, 23, 24, 25, 27, 29, 30, 31, 32, 33, 34, 35, 36, 37]
noncomputable def hdQ : Program := hdView PySem.Challenge.pw_xm0757_01
abbrev hdLoose : List Str := [Str.ofString "MAX_INT", Str.ofString "REPLACEMENT"]
abbrev hdLv : List (Str × WData) := [(Str.ofString "MAX_INT", .int 9223372036854775807), (Str.ofString "REPLACEMENT", .str { cps := #[65533] })]
theorem hd_open : opening PySem.Challenge.pw_xm0757_01 = plainProg PySem.Challenge.pw_xm0757_01.main.scope.names := by kernel_rfl
theorem hd_fence : ∀ s, fenceModules? PySem.Challenge.pw_xm0757_01 s = some s := by intro s; kernel_rfl
theorem hd_ok : (chainsOk hdQ && opensWell PySem.Challenge.rw_xm0757_01.row.prog && (frees PySem.Challenge.rw_xm0757_01.row.toRowW && PySem.Challenge.rw_xm0757_01.row.within.isEmpty)) = true := by k_qdec
abbrev hdX (p : Program) (s : Shared) : Bool := xlAt (hdView p) hdLv s && recOk (RowW.records PySem.Challenge.rw_xm0757_01.row.toRowW) s
theorem hd_seen : ∀ w : World, (fun os => (RunAt PySem.W.Fast.tw10156331382660048174 PySem.W.Fast.tw6613529449190102663 PySem.W.Fast.tw11892475500146522536 PySem.W.Fast.tw14364793385576792824 PySem.W.Fast.tw15406555464740782946 3000 w os).map fun s => PySem.W.Fast.tw4187177175401517315 (hdView PySem.W.Fast.tw15406555464740782946) hdLoose (PySem.W.Fast.tw5923862056798008813 PySem.W.Fast.tw15406555464740782946.main.body) (hdX PySem.W.Fast.tw15406555464740782946) true s.abs) = fun _ => some (openGood (hdView PySem.W.Fast.tw15406555464740782946) hdLoose) := by
  intro w; kernel_rfl
local macro_rules | `(tactic| o_head $H) => `(tactic| (refine holds_open (q := hdQ) (loose := hdLoose) (Xt := hdX PySem.Challenge.pw_xm0757_01) (XP := XL hdQ hdLv) (Yf := Hook.obs $H) (Ya := Hook.val $H) (YP := Hook.says $H) (N := 5098) ?hl (Hook.of $H) (Hook.keeps $H) (fun s e => xl_of s (Bool.and_eq_true_iff.mp e).1) XL.keeps (by rfl) (by rfl) (by rfl) (fun s e => recFacts_of (Bool.and_eq_true_iff.mp e).2) (by rfl) (by assumption) hd_ok ⟨rfl, rfl, rfl, rfl, rfl, by decide +kernel⟩ ?hw ?hc; (case hl => (refine left_at_once (p := PySem.Challenge.pw_xm0757_01) (q := hdView) (Xt := hdX) (M := 3000) PySem.W.Fast.te10156331382660048174 PySem.W.Fast.te6613529449190102663 PySem.W.Fast.te11892475500146522536 PySem.W.Fast.te14364793385576792824 PySem.W.Fast.te5923862056798008813 PySem.W.Fast.te4187177175401517315 PySem.W.Fast.te15406555464740782946 hd_open rfl hd_fence rfl hd_seen ?_; intro w; kernel_rfl))))
open_top hd for PySem.Challenge.rw_xm0757_01
variable {prog : Program} {w : World} {s : Shared} {h₀ : Heap} {outer : List Env} {dp un : Nat} {gd : Option (List Code)} {cn : Str} {cs : Scope} {L ca : Addr} {ccd : Value} {cl : List (Str × Addr)} {m : Str → Option Value}
  {Q E : Value → Shared → Prop}
theorem off0 : True := by
  w_top off
  trivial


/-- h' keeps what h holds, but at S -/
def Keeps (S : List Addr) (h h' : Heap) : Prop := ∀ b o, h.get? b = some o → b ∉ S → h'.get? b = some o
theorem Keeps.refl (S : List Addr) (h : Heap) : Keeps S h h := fun _ _ e _ => e

/-- what stands around a call -/
structure Site (w : World) (h₀ : Heap) (outer : List Env) (cs : Scope) : Prop where
  out : ∃ A₀ base p loose mean mg mb, Below A₀ base outer h₀ ∧ (Mine.hd.heap_39 w.params).In h₀ ∧ Top p loose mean mg mb h₀
  kind : cs.kind = .function

/-- the end of a def: what the def's ground g holds stays -/
def LeaveM (h₀ : Heap) (L : Addr) (m : Str → Option Value) (S : List Addr) (h g : Heap) (Q : Value → Shared → Prop) (v : Value) (s' : Shared) : Prop :=
  ∃ L' m', Fr g L' s'.heap m' ∧ (Fr h₀ L s'.heap m → Keeps S h s'.heap → Q v s')

theorem leaveM_ {h₀ : Heap} {L L' : Addr} {m m' : Str → Option Value} {S : List Addr} {h g : Heap} {Q : Value → Shared → Prop} {v : Value} {s' : Shared} (F' : Fr g L' s'.heap m')
    (k : Fr h₀ L s'.heap m → Keeps S h s'.heap → Q v s') : LeaveM h₀ L m S h g Q v s' := ⟨L', m', F', k⟩

theorem enterM {prog : Program} {w : World} {s : Shared} {h₀ : Heap} {outer : List Env} {dp un : Nat} {gd : Option (List Code)} {cn : Str} {cs : Scope} {L a : Addr} {ccd : Value} {cl : List (Str × Addr)} {m : Str → Option Value} {need : List (Addr × Obj)}
    {Q E : Value → Shared → Prop} {name qual : Str} {params : Arguments} {body : List Stmt} {scope : Scope} {dV kV doc pm cdv ct oc : Value} {an od : Option Addr} {osl : Array (Option Value)} {f : Addr} {args : List Value} {binds : List (Str × Value)}
    (W : Site w h₀ outer cs) (F : Fr h₀ L s.heap m) (N : News h₀ L s.heap need) (hroom : dp < recursionLimit)
    (ho : (Mine.hd.heap_39 w.params).lookup f = some ⟨oc, od, .func (fnOf name qual params body scope dV kV doc pm an cdv ct), osl⟩) (hcd : codeIn (Mine.hd.heap_39 w.params) cdv qual = true)
    (hbind : BindsTo s (fnOf name qual params body scope dV kV doc pm an cdv ct) ⟨args, []⟩ binds) (hloc : ∀ y ∈ binds, scope.names.lookup y.1 = some .local)
    (h : ∀ A₀ base p loose mean mg mb g L' h₁, Keeps (need.map (·.1)) s.heap g → (∀ b o, g.get? b = some o → s.heap.get? b = some o) → h₀.StaysIn g → (∀ b o, s.heap.get? b = some o → b < L') → Fr g L' h₁ (fun y => binds.reverse.lookup y) → News g L' h₁ need →
      Below A₀ base (envX cn cs L a ccd cl :: outer) g → (Mine.hd.heap_39 w.params).In g → Top p loose mean mg mb g →
      wpAny (model prog w) ((ktrTop dp un gd cn cs L a ccd cl outer).deeper (envOf qual scope L' f cdv)) (execs body (envOf qual scope L' f cdv))
        (fun fl s' => LeaveM h₀ L m (need.map (·.1)) s.heap g Q (match fl with | .ret v => v | _ => .none) s')
        (fun _ _ => False)
        { s with heap := h₁, toks := s.toks + binds.length })
    (hco : scope.isCoroutine = false) (hgen : scope.isGenerator = false) (hk : scope.kind = .function)
    (hcell : ∀ x ∈ scope.names, x.2 ≠ .cell) : wpAny (model prog w) (ktrTop dp un gd cn cs L a ccd cl outer) (call (.ref f) args) Q E s := by
  obtain ⟨⟨A₀, base, p, loose, mean, mg, mb, B, X, T⟩, hke⟩ := W
  obtain ⟨FG, BG, st, -⟩ := groundX (A := ktrTop dp un gd cn cs L a ccd cl outer) (R := fun _ _ => True) B F N rfl rfl hke
  refine wpAny_call ?_
  refine codeAny_call_def (fd := fnOf name qual params body scope dV kV doc pm an cdv ct) (body := body) (binds := binds) hroom ((X.keeps F.keep) _ _ ho) rfl (T.nolimit.keeps F.keep) (codeRec_of (X.keeps F.keep) hcd) rfl hbind hcell hloc (fun h₁ hns hk₁ => ?_) hco hgen hk
  have kp : Keeps (need.map (·.1)) s.heap (hideAll s.heap (need.map (·.1))) := fun b o e n => hideAll_get _ e n
  refine wpAny_mono (h _ base p loose mean mg mb (hideAll s.heap (need.map (·.1))) s.heap.objs.size h₁ kp (fun b o e => of_hideAll _ e) st (fun b o e => Heap.lt_size e) ⟨hns, fun b o e => hk₁ b o (of_hideAll _ e), Nat.le_of_eq (hideAll_size _ _)⟩
    (fun p hp => ⟨hk₁ _ _ (N p hp).1, Nat.ne_of_lt (Heap.lt_size (N p hp).1), hideAll_none _ (List.mem_map_of_mem hp)⟩) BG (X.keeps fun b o e => st b o e) (T.keeps fun b o e => st b o e)) (fun fl s' hl => ?_) fun _ _ y => y.elim
  obtain ⟨L', m', F', k⟩ := hl
  obtain ⟨oL, es, ep, hL, hLd, hLk, hLf⟩ := FG.ns
  exact k ⟨⟨oL, es, ep, F'.keep L oL hL, hLd, hLk, hLf⟩, fun b o e => F'.keep b o (st b o e), F.above⟩ fun b o e n => F'.keep b o (kp b o e n)

theorem Keeps.mono {S S' : List Addr} {h h' : Heap} (k : Keeps S h h') (hs : ∀ a ∈ S, a ∈ S') : Keeps S' h h' := fun b o e n => k b o e fun q => n (hs b q)
theorem Keeps.trans {S : List Addr} {h h' h'' : Heap} (k : Keeps S h h') (k' : Keeps S h' h'') : Keeps S h h'' := fun b o e n => k' b o (k b o e n) n
/-- an address that holds what it held is no change -/
theorem Keeps.shrink {a : Addr} {S : List Addr} {h h' : Heap} {o : Obj} (k : Keeps (a :: S) h h') (e : h.get? a = some o) (e' : h'.get? a = some o) : Keeps S h h' := fun b o' q n => by
  by_cases hb : b = a
  · subst hb; rw [e] at q; cases q; exact e'
  · exact k b o' q fun m => (List.mem_cons.mp m).elim hb n
theorem Keeps.swap {a b : Addr} {S : List Addr} {h h' : Heap} (k : Keeps (a :: b :: S) h h') : Keeps (b :: a :: S) h h' := k.mono fun c hc => by
  simp only [List.mem_cons] at *
  rcases hc with rfl | rfl | hc <;> simp_all

theorem News.sub {h₀ h : Heap} {L : Addr} {news news' : List (Addr × Obj)} (N : News h₀ L h news) (hs : ∀ p ∈ news', p ∈ news) : News h₀ L h news' := fun p hp => N p (hs p hp)
theorem News.still {h₀ h h' : Heap} {L : Addr} {news : List (Addr × Obj)} (N : News h₀ L h news) (k : Keeps [] h h') : News h₀ L h' news := fun p hp => ⟨k _ _ (N p hp).1 (fun q => nomatch q), (N p hp).2⟩
theorem News.put {h₀ h h' : Heap} {L d : Addr} {o o' : Obj} {news news' : List (Addr × Obj)} (N : News h₀ L h news) (k : Keeps [d] h h') (e : h'.get? d = some o') (U : Upd d o o' news news') : News h₀ L h' news' := by
  obtain ⟨pre, post, rfl, rfl, h1, h2⟩ := U.split
  intro p hp
  rcases List.mem_append.mp hp with q | q
  · have P := N p (List.mem_append_left _ q)
    exact ⟨k _ _ P.1 fun x => h1 p q (List.mem_singleton.mp x), P.2⟩
  · rcases List.mem_cons.mp q with rfl | q
    · have P := N (d, o) (by simp)
      exact ⟨e, P.2⟩
    · have P := N p (List.mem_append_right _ (.tail _ q))
      exact ⟨k _ _ P.1 fun x => h2 p q (List.mem_singleton.mp x), P.2⟩

/-- lists, tuples of a row -/
abbrev lst (vs : List Value) (n : Nat) : Obj := { cls := .type "list", data := .seq vs.toArray n }
abbrev tup (k : Int) (tk : Tok) (b : Array UInt8) (tb : Tok) (n : Nat) : Obj := { cls := .type "tuple", data := .seq #[.int k tk, .bytes b tb] n }

/-- a table's dict -/
abbrev tabD (P : Params) (k1 k2 k3 : Tok) (r : Addr) (place : Int) (tp : Tok) : Obj :=
  dictOf [⟨PyData.keyHash P (Str.ofString "rows"), .str (Str.ofString "rows") k1, .ref r⟩, ⟨PyData.keyHash P (Str.ofString "place"), .str (Str.ofString "place") k2, .int place tp⟩, ⟨PyData.keyHash P (Str.ofString "gone"), .str (Str.ofString "gone") k3, .none⟩] 3

/-- the rows of a table -/
inductive Rows (h : Heap) : List Value → List (Int × Array UInt8) → Prop where
  | nil : Rows h [] []
  | cons {t : Addr} {k : Int} {tk : Tok} {b : Array UInt8} {tb : Tok} {n : Nat} {vs ps} : h.get? t = some (tup k tk b tb n) → Rows h vs ps → Rows h (.ref t :: vs) ((k, b) :: ps)
theorem Rows.length {h : Heap} {vs ps} (R : Rows h vs ps) : vs.length = ps.length := by
  induction R with
  | nil => rfl
  | cons _ _ ih => simp [ih]
theorem Rows.get {h : Heap} {vs ps} (R : Rows h vs ps) : ∀ {i : Nat}, i < ps.length → ∃ t tk tb n, vs[i]? = some (.ref t) ∧ h.get? t = some (tup (ps.getD i (0, #[])).1 tk (ps.getD i (0, #[])).2 tb n) := by
  induction R with
  | nil => intro i hi; exact absurd hi (Nat.not_lt_zero _)
  | cons e _ ih =>
    intro i hi
    cases i with
    | zero => exact ⟨_, _, _, _, rfl, by simpa using e⟩
    | succ i =>
      obtain ⟨t, tk, tb, n, e1, e2⟩ := ih (i := i) (by simpa using hi)
      exact ⟨t, tk, tb, n, by simpa using e1, by simpa using e2⟩
theorem Rows.keeps {h h' : Heap} {S : List Addr} {vs ps} (R : Rows h vs ps) (k : Keeps S h h') (hs : ∀ a ∈ S, ∀ o, h.get? a = some o → o.cls ≠ .type "tuple") : Rows h' vs ps := by
  induction R with
  | nil => exact .nil
  | cons e _ ih => exact .cons (k _ _ e fun q => hs _ q _ e rfl) ih
theorem Keeps.but {h₀ h g h' : Heap} {L L' : Addr} {news news' : List (Addr × Obj)} {S : List Addr} (k : Keeps (news.map (·.1)) h h') (N : News h₀ L h news) (N' : News g L' h' news') (hs : ∀ p ∈ news, p.1 ∈ S ∨ p ∈ news') : Keeps S h h' := fun b o e n => by
  by_cases hb : b ∈ news.map (·.1)
  · obtain ⟨p, hp, rfl⟩ := List.mem_map.mp hb
    rcases hs p hp with q | q
    · exact absurd q n
    · have e1 := (N p hp).1
      rw [e] at e1
      cases e1
      exact (N' p q).1
  · exact k b o e hb
theorem News.one {h₀ h : Heap} {L : Addr} {p : Addr × Obj} {news : List (Addr × Obj)} (N : News h₀ L h news) (hm : p ∈ news) : News h₀ L h [p] := News.sub N fun q hq => (List.mem_singleton.mp hq) ▸ hm
theorem News.three {h₀ h : Heap} {L : Addr} {p q r : Addr × Obj} {news : List (Addr × Obj)} (N : News h₀ L h news) (hp : p ∈ news) (hq : q ∈ news) (hr : r ∈ news) : News h₀ L h [p, q, r] := News.sub N fun x hx => by
  rcases List.mem_cons.mp hx with rfl | hx
  · exact hp
  · rcases List.mem_cons.mp hx with rfl | hx
    · exact hq
    · exact (List.mem_singleton.mp hx) ▸ hr
section
variable {prog : Program} {w : World} {A : Around} {E : Value → Shared → Prop} {s : Shared}
theorem len_lst {l : Addr} {vs : List Value} {Q : Value → Shared → Prop} (hl : s.heap.IsList l vs.toArray) (hn : vs.length ≤ 100000)
    (h : Q (.int vs.length (s.toks + 1)) { s with toks := s.toks + 1 + 1 }) : wpAny (model prog w) A (call (.builtin "len") [.ref l]) Q E s :=
  len_list hl (by simp only [List.size_toArray]; omega) (by simpa using h)
end
theorem off1 : True := by
  w_top off
  trivial
local macro_rules | `(tactic| walk_at "m steps") => `(tactic| repeat' ((fail_if_success (with_reducible show wpAny _ _ (exec (Stmt.While _ _ _ _) _) _ _ _)); (fail_if_success (with_reducible show wpAny _ _ (exec (Stmt.For _ _ _ _ _) _) _ _ _)); (fail_if_success (with_reducible show KswEnd _ _ _ _ _ _ _ _ _ _ _ _)); first | (k_unfold; (try dsimp only)) | (dsimp only; walk1) | walk1))
local macro_rules | `(tactic| walk_at "m same") => `(tactic| (intro z h2 h3; (simp only [List.forall_mem_cons, List.not_mem_nil, false_implies, implies_true, and_true, ne_eq] at h2); (simp only [List.contains_cons, List.contains_nil, Bool.or_false, Bool.or_eq_false_iff, beq_eq_false_iff_ne, ne_eq] at h3); simp [kstB, h2, h3]))
local macro_rules | `(tactic| walk_at "m sub") => `(tactic| first | exact List.forall_mem_nil _ | (refine' List.forall_mem_cons.mpr ⟨?a, ?b⟩; (case a => first | exact Or.inl (by k_mem) | exact Or.inr (by k_mem)); (case b => walk_at "m sub")))
local macro_rules | `(tactic| walk_at "m room") => `(tactic| ((try dsimp only [ktrTop, Around.deeper]); omega))
local macro_rules | `(tactic| walk_at "m enter") => `(tactic| (k_dflt ((case ko => k_is); (case kc => k_is); (case kb => exact BindsTo.of_eq rfl); (case kl => exact locs rfl); (case c1 => exact rfl); (case c2 => exact rfl); (case c3 => exact rfl); (case c4 => decide); (case kd => omega))))
local macro_rules | `(tactic| walk_at "subscriptTail Name Constant ref int") => `(tactic| (k_here; (with_unfolding_all refine' item_litK ?k1 ?k2 ?k3 ?k4 ?_ ?k6; (case k1 => is_list); (case k2 => decide); (case k3 => decide); (case k4 => exact rfl); (case k6 => with_unfolding_all rfl); k_whole)))
local macro_rules | `(tactic| walk_at "binaryOp FloorDiv int int") => `(tactic| (with_reducible refine floordiv_int ?_ ?_ (Or.inl (PyProof.noPylong_small (by omega))); omega))
local macro_rules | `(tactic| walk_at "binaryOp Mod int int") => `(tactic| (with_reducible refine mod_int' ?_ ?_ (Or.inl (PyProof.noPylong_small (by omega))); omega))
theorem fmod_bounds (a : Int) {b : Int} (h : 0 < b) : 0 ≤ a.fmod b ∧ a.fmod b < b := ⟨Int.fmod_nonneg_of_pos a h, Int.fmod_lt_of_pos a h⟩
theorem fdiv_bounds {a b : Int} (ha : 0 ≤ a) (h : 0 < b) : 0 ≤ a.fdiv b := Int.fdiv_nonneg ha (by omega)
theorem take_spec {src n : Nat} {a b top : Int} {ta tb tt : Tok}
    (W : Site w h₀ outer cs) (F : Fr h₀ L s.heap m) (hd : dp + 1 < recursionLimit) (hu : un + 100 < cLine)
    (N : News h₀ L s.heap [(src, lst [.int a ta, .int b tb] n)])
    (ha : 0 ≤ a) (hb : 0 ≤ b) (hb2 : b < 2147483647) (ht : 0 < top) (ht2 : top < 1000)
    (h : ∀ (d : Int) td (a' b' : Int) ta' tb' n' h' tk', 0 ≤ d → d < top → 0 ≤ a' → 0 ≤ b' → b' < 2147483647 → Fr h₀ L h' m → Keeps [src] s.heap h' → h'.get? src = some (lst [.int a' ta', .int b' tb'] n') → Q (.int d td) { s with heap := h', toks := tk' }) :
    wpAny (model prog w) (ktrTop dp un gd cn cs L ca ccd cl outer) (call (.ref 323) [.ref src, .int top tt]) Q E s := by
  refine' enterM (binds := [(Str.ofString "source", .ref src), (Str.ofString "top", .int top tt)]) W F N ?kd ?ko ?kc ?kb ?kl ?_ ?c1 ?c2 ?c3 ?c4
  walk_at "m enter"
  intro A₀ base p loose mean mg mb g L' h₁ kp og st ltL F' N' B' X' T'
  try dsimp only
  k_fold
  walk_at "m steps"
  · show LeaveM _ _ _ _ _ _ _ _ _
    rename 0 < a => ha0
    refine leaveM_ (by assumption) fun FL KS => ?_
    have h1 := fmod_bounds a ht
    have h2 := fdiv_bounds ha ht
    exact h _ _ _ _ _ _ _ _ _ h1.1 h1.2 h2 hb hb2 FL KS (News.get (by assumption) (List.Mem.head _))
  · show LeaveM _ _ _ _ _ _ _ _ _
    refine leaveM_ (by assumption) fun FL KS => ?_
    have h1 := fmod_bounds (((((b * 39373 + 7).fmod 2147483647 * (b * 39373 + 7).fmod 2147483647).fmod 2147483629).fdiv 32)) ht
    have h2 := fmod_bounds (b * 39373 + 7) (b := 2147483647) (by decide)
    exact h _ _ _ _ _ _ _ _ _ h1.1 h1.2 ha h2.1 h2.2 FL KS (News.get (by assumption) (List.Mem.head _))
theorem off2 : True := by
  w_top off
  trivial
theorem type_ne {a b : String} (h : a ≠ b) : Value.type a ≠ Value.type b := fun e => h (Value.type.inj e)
theorem ledger_apart {h₀ h : Heap} {L x d r n : Nat} {P : Params} {k1 k2 k3 tp : Tok} {place : Int} {its : List Value} (N : News h₀ L h [(x, instObj 305 d), (d, tabD P k1 k2 k3 r place tp), (r, lst its n)]) : x ≠ d ∧ x ≠ r ∧ d ≠ r := by
  have e1 := (N (x, instObj 305 d) (by simp)).1
  have e2 := (N (d, tabD P k1 k2 k3 r place tp) (by simp)).1
  have e3 := (N (r, lst its n) (by simp)).1
  refine ⟨?_, ?_, ?_⟩
  · rintro rfl; rw [e1] at e2; cases e2
  · rintro rfl; rw [e1] at e3; cases e3
  · rintro rfl; rw [e2] at e3; exact type_ne (a := "dict") (b := "list") (by decide) (congrArg Obj.cls (Option.some.inj e3))
theorem Rows.at {h₀ h : Heap} {L : Addr} {m : Str → Option Value} {vs ps} (F : Fr h₀ L h m) (R : Rows h₀ vs ps) : Rows h vs ps := R.keeps (S := []) (fun b o e _ => F.keep b o e) (fun a q => nomatch q)
local macro_rules | `(tactic| walk_at "m rows") => `(tactic| exact Rows.at (by k_asm) (by assumption))
local macro_rules | `(tactic| walk_at "call builtin:len") => `(tactic| (k_here; (with_reducible show wpAny _ _ (call (Value.builtin "len") [Value.ref _]) _ _ _); (with_unfolding_all refine' len_lst ?k1 ?k2 ?_; (case k1 => is_list); (case k2 => omega); k_whole)))

theorem valid_spec {x d r n : Nat} {k1 k2 k3 tp : Tok} {place : Int} {its : List Value} 
    (W : Site w h₀ outer cs) (F : Fr h₀ L s.heap m) (hd : dp + 1 < recursionLimit) (hu : un + 10 < cLine)
    (N : News h₀ L s.heap [(x, instObj 305 d), (d, tabD w.params k1 k2 k3 r place tp), (r, lst its n)]) (hn : its.length ≤ 1000)
    (h : ∀ h' tk', Fr h₀ L h' m → Keeps [] s.heap h' → Q (.bool (decide (0 ≤ place ∧ place < (its.length : Int)))) { s with heap := h', toks := tk' }) :
    wpAny (model prog w) (ktrTop dp un gd cn cs L ca ccd cl outer) (call (.ref 267) [.ref x]) Q E s := by
  refine' enterM (binds := [(Str.ofString "self", .ref x)]) W F N ?kd ?ko ?kc ?kb ?kl ?_ ?c1 ?c2 ?c3 ?c4
  walk_at "m enter"
  intro A₀ base p loose mean mg mb g L' h₁ kp og st ltL F' N' B' X' T'
  k_fold
  walk_at "m steps"
  all_goals (show LeaveM _ _ _ _ _ _ _ _ _)
  · rename 0 ≤ place => hp
    rename News g _ _ _ => N9
    refine leaveM_ (by assumption) fun FL KS => ?_
    have K' := KS.but (S := []) N N9 (by walk_at "m sub")
    simpa [hp] using h _ _ FL K'
  · rename ¬ 0 ≤ place => hp
    rename News g _ _ _ => N9
    refine leaveM_ (by assumption) fun FL KS => ?_
    have K' := KS.but (S := []) N N9 (by walk_at "m sub")
    simpa [hp] using h _ _ FL K'

local macro_rules | `(tactic| walk_at "call ref") => `(tactic| (k_here; k_dflt (show wpAny _ _ (call (Value.ref 267) [Value.ref _]) _ _ _); (rename News _ _ _ _ => kN); k_dflt (refine' valid_spec ?W ?F ?d ?u ?N ?n ?_; (case W => exact Site.mk ⟨_, _, _, _, _, _, _, by k_asm, by k_asm, by k_asm⟩ rfl); (case F => k_asm); (case d => walk_at "m room"); (case u => walk_at "m room"); (case N => exact News.three kN (by k_mem) (by k_mem) (by k_mem)); (case n => omega)); intro h' tk' F' KS; (have N' := News.still kN KS); clear KS))

theorem ask_spec {x d r n : Nat} {k1 k2 k3 tp : Tok} {place : Int} {its : List Value} 
    (W : Site w h₀ outer cs) (F : Fr h₀ L s.heap m) (hd : dp + 2 < recursionLimit) (hu : un + 20 < cLine)
    (N : News h₀ L s.heap [(x, instObj 305 d), (d, tabD w.params k1 k2 k3 r place tp), (r, lst its n)]) (hn : its.length ≤ 1000) (hp0 : 0 ≤ place) (hp1 : place < (its.length : Int))
    (h : ∀ h' tk', Fr h₀ L h' m → Keeps [] s.heap h' → Q .none { s with heap := h', toks := tk' }) :
    wpAny (model prog w) (ktrTop dp un gd cn cs L ca ccd cl outer) (call (.ref 274) [.ref x]) Q E s := by
  refine' enterM (binds := [(Str.ofString "self", .ref x)]) W F N ?kd ?ko ?kc ?kb ?kl ?_ ?c1 ?c2 ?c3 ?c4
  walk_at "m enter"
  intro A₀ base p loose mean mg mb g L' h₁ kp og st ltL F' N' B' X' T'
  k_fold
  walk_at "m steps"
  all_goals (show LeaveM _ _ _ _ _ _ _ _ _)
  · rename News g _ _ _ => N9
    refine leaveM_ (by assumption) fun FL KS => ?_
    have K' := KS.but (S := []) N N9 (by walk_at "m sub")
    exact h _ _ FL K'

local macro_rules | `(tactic| walk_at "call ref") => `(tactic| (k_here; k_dflt (show wpAny _ _ (call (Value.ref 274) [Value.ref _]) _ _ _); (rename News _ _ _ _ => kN); k_dflt (refine' ask_spec ?W ?F ?d ?u ?N ?n ?p ?q ?_; (case W => exact Site.mk ⟨_, _, _, _, _, _, _, by k_asm, by k_asm, by k_asm⟩ rfl); (case F => k_asm); (case d => walk_at "m room"); (case u => walk_at "m room"); (case N => exact News.three kN (by k_mem) (by k_mem) (by k_mem)); (case n => omega); (case p => omega); (case q => omega)); intro h' tk' F' KS; (have N' := News.still kN KS); clear KS))
theorem isTup_of {h₀ h : Heap} {L t : Addr} {m : Str → Option Value} {k : Int} {tk tb : Tok} {b : Array UInt8} {n : Nat} (F : Fr h₀ L h m) (e : h₀.get? t = some (tup k tk b tb n)) : IsTup h t [.int k tk, .bytes b tb].toArray := ⟨_, F.keep _ _ e, rfl, n, rfl⟩
theorem its_ge {its : List Value} {t : Addr} {place : Int} (e : its[place.toNat]? = some (.ref t)) (h0 : 0 ≤ place) : place < its.length := by
  have := (List.getElem?_eq_some_iff.mp e).1
  omega
theorem ledger_no_tuple {h₀ h : Heap} {L x d r : Addr} {o1 o2 o3 : Obj} (N : News h₀ L h [(x, o1), (d, o2), (r, o3)]) (h1 : o1.cls ≠ .type "tuple") (h2 : o2.cls ≠ .type "tuple") (h3 : o3.cls ≠ .type "tuple") :
    ∀ a ∈ [x, d, r], ∀ o, h.get? a = some o → o.cls ≠ .type "tuple" := by
  intro a ha o e
  have e1 := (N (x, o1) (by simp)).1
  have e2 := (N (d, o2) (by simp)).1
  have e3 := (N (r, o3) (by simp)).1
  simp only [List.mem_cons, List.not_mem_nil, or_false] at ha
  rcases ha with rfl | rfl | rfl
  · rw [e] at e1; cases e1; exact h1
  · rw [e] at e2; cases e2; exact h2
  · rw [e] at e3; cases e3; exact h3
/-- the rows as the callee's ground has them -/
theorem rows_in {h₀ h g : Heap} {L x d r n : Addr} {P : Params} {k1 k2 k3 tp : Tok} {place : Int} {its : List Value} {vals : List (Int × Array UInt8)} (N : News h₀ L h [(x, instObj 305 d), (d, tabD P k1 k2 k3 r place tp), (r, lst its n)]) (k : Keeps [x, d, r] h g) (R : Rows h its vals) : Rows g its vals :=
  R.keeps k (ledger_no_tuple N (by intro q; cases q) (type_ne (by decide)) (type_ne (by decide)))
local macro_rules | `(tactic| walk_at "subscriptTail Attribute Name") => `(tactic| (k_here; (with_unfolding_all refine' item_litK ?k1 ?k2 ?k3 ?k4 ?_ ?k6; (case k1 => is_list); (case k2 => omega); (case k3 => omega); (case k4 => assumption); (case k6 => with_unfolding_all rfl); k_whole)))
local macro_rules | `(tactic| walk_at "subscriptTail Subscript Attribute") => `(tactic| (k_here; (with_unfolding_all refine' item_tupleT ?t ?a ?b ?c ?d ?_; (case t => exact isTup_of (by k_asm) (by assumption)); (case a => decide); (case b => decide); (case c => rfl); (case d => rfl); k_whole)))

theorem rowid_spec {x d r n : Nat} {k1 k2 k3 tp : Tok} {place : Int} {its : List Value} {vals : List (Int × Array UInt8)}
    (W : Site w h₀ outer cs) (F : Fr h₀ L s.heap m) (hd : dp + 3 < recursionLimit) (hu : un + 30 < cLine)
    (N : News h₀ L s.heap [(x, instObj 305 d), (d, tabD w.params k1 k2 k3 r place tp), (r, lst its n)]) (hn : its.length ≤ 1000) (hp0 : 0 ≤ place) (hp1 : place < (its.length : Int)) (R : Rows s.heap its vals)
    (h : ∀ tv h' tk', Fr h₀ L h' m → Keeps [] s.heap h' → Q (.int (vals.getD place.toNat (0, #[])).1 tv) { s with heap := h', toks := tk' }) :
    wpAny (model prog w) (ktrTop dp un gd cn cs L ca ccd cl outer) (call (.ref 281) [.ref x]) Q E s := by
  refine' enterM (binds := [(Str.ofString "self", .ref x)]) W F N ?kd ?ko ?kc ?kb ?kl ?_ ?c1 ?c2 ?c3 ?c4
  walk_at "m enter"
  intro A₀ base p loose mean mg mb g L' h₁ kp og st ltL F' N' B' X' T'
  k_fold
  have hlen := R.length
  obtain ⟨t, tk, tb, nt, hv, ht⟩ := (rows_in N kp R).get (i := place.toNat) (by omega)
  walk_at "m steps"
  all_goals (show LeaveM _ _ _ _ _ _ _ _ _)
  · rename News g _ _ _ => N9
    refine leaveM_ (by assumption) fun FL KS => ?_
    have K' := KS.but (S := []) N N9 (by walk_at "m sub")
    exact h _ _ _ FL K'

local macro_rules | `(tactic| walk_at "call ref") => `(tactic| (k_here; k_dflt (show wpAny _ _ (call (Value.ref 281) [Value.ref _]) _ _ _); (rename News _ _ _ _ => kN); k_dflt (refine' rowid_spec ?W ?F ?d ?u ?N ?n ?p ?q ?R ?_; (case W => exact Site.mk ⟨_, _, _, _, _, _, _, by k_asm, by k_asm, by k_asm⟩ rfl); (case F => k_asm); (case d => walk_at "m room"); (case u => walk_at "m room"); (case N => exact News.three kN (by k_mem) (by k_mem) (by k_mem)); (case n => omega); (case p => omega); (case q => omega); (case R => walk_at "m rows")); intro tv' h' tk' F' KS; (have N' := News.still kN KS); clear KS))

theorem record_spec {x d r n : Nat} {k1 k2 k3 tp : Tok} {place : Int} {its : List Value} {vals : List (Int × Array UInt8)}
    (W : Site w h₀ outer cs) (F : Fr h₀ L s.heap m) (hd : dp + 3 < recursionLimit) (hu : un + 30 < cLine)
    (N : News h₀ L s.heap [(x, instObj 305 d), (d, tabD w.params k1 k2 k3 r place tp), (r, lst its n)]) (hn : its.length ≤ 1000) (hp0 : 0 ≤ place) (hp1 : place < (its.length : Int)) (R : Rows s.heap its vals)
    (h : ∀ tv h' tk', Fr h₀ L h' m → Keeps [] s.heap h' → Q (.bytes (vals.getD place.toNat (0, #[])).2 tv) { s with heap := h', toks := tk' }) :
    wpAny (model prog w) (ktrTop dp un gd cn cs L ca ccd cl outer) (call (.ref 288) [.ref x]) Q E s := by
  refine' enterM (binds := [(Str.ofString "self", .ref x)]) W F N ?kd ?ko ?kc ?kb ?kl ?_ ?c1 ?c2 ?c3 ?c4
  walk_at "m enter"
  intro A₀ base p loose mean mg mb g L' h₁ kp og st ltL F' N' B' X' T'
  k_fold
  have hlen := R.length
  obtain ⟨t, tk, tb, nt, hv, ht⟩ := (rows_in N kp R).get (i := place.toNat) (by omega)
  walk_at "m steps"
  all_goals (show LeaveM _ _ _ _ _ _ _ _ _)
  · rename News g _ _ _ => N9
    refine leaveM_ (by assumption) fun FL KS => ?_
    have K' := KS.but (S := []) N N9 (by walk_at "m sub")
    exact h _ _ _ FL K'

local macro_rules | `(tactic| walk_at "call ref") => `(tactic| (k_here; k_dflt (show wpAny _ _ (call (Value.ref 288) [Value.ref _]) _ _ _); (rename News _ _ _ _ => kN); k_dflt (refine' record_spec ?W ?F ?d ?u ?N ?n ?p ?q ?R ?_; (case W => exact Site.mk ⟨_, _, _, _, _, _, _, by k_asm, by k_asm, by k_asm⟩ rfl); (case F => k_asm); (case d => walk_at "m room"); (case u => walk_at "m room"); (case N => exact News.three kN (by k_mem) (by k_mem) (by k_mem)); (case n => omega); (case p => omega); (case q => omega); (case R => walk_at "m rows")); intro tv' h' tk' F' KS; (have N' := News.still kN KS); clear KS))

theorem stand_spec {x d r n : Nat} {k1 k2 k3 tp : Tok} {place : Int} {its : List Value} {q : Int} {tq : Tok}
    (W : Site w h₀ outer cs) (F : Fr h₀ L s.heap m) (hd : dp + 2 < recursionLimit) (hu : un + 20 < cLine)
    (N : News h₀ L s.heap [(x, instObj 305 d), (d, tabD w.params k1 k2 k3 r place tp), (r, lst its n)]) (hn : its.length ≤ 1000)
    (h : ∀ h' tk', Fr h₀ L h' m → Keeps [d] s.heap h' → h'.get? d = some (tabD w.params k1 k2 k3 r q tq) → Q (.bool (decide (0 ≤ q ∧ q < (its.length : Int)))) { s with heap := h', toks := tk' }) :
    wpAny (model prog w) (ktrTop dp un gd cn cs L ca ccd cl outer) (call (.ref 197) [.ref x, .int q tq]) Q E s := by
  refine' enterM (binds := [(Str.ofString "self", .ref x), (Str.ofString "place", .int q tq)]) W F N ?kd ?ko ?kc ?kb ?kl ?_ ?c1 ?c2 ?c3 ?c4
  walk_at "m enter"
  intro A₀ base p loose mean mg mb g L' h₁ kp og st ltL F' N' B' X' T'
  k_fold
  obtain ⟨hxd, hxr, hdr⟩ := ledger_apart N
  walk_at "m steps"
  all_goals (show LeaveM _ _ _ _ _ _ _ _ _)
  · rename News g _ _ _ => N9
    refine leaveM_ (by assumption) fun FL KS => ?_
    have K' := KS.but (S := [d]) N N9 (by walk_at "m sub")
    exact h _ _ FL K' (News.get N9 (by k_mem))

local macro_rules | `(tactic| walk_at "call ref") => `(tactic| (k_here; k_dflt (show wpAny _ _ (call (Value.ref 197) [Value.ref _, Value.int _ _]) _ _ _); (rename News _ _ _ _ => kN); k_dflt (refine' stand_spec ?W ?F ?d ?u ?N ?n ?_; (case W => exact Site.mk ⟨_, _, _, _, _, _, _, by k_asm, by k_asm, by k_asm⟩ rfl); (case F => k_asm); (case d => walk_at "m room"); (case u => walk_at "m room"); (case N => exact News.three kN (by k_mem) (by k_mem) (by k_mem)); (case n => omega)); intro h' tk' F' KS hD; (have N' := News.put kN KS hD (by k_upd)); clear KS hD))

theorem first_spec {x d r n : Nat} {k1 k2 k3 tp : Tok} {place : Int} {its : List Value} 
    (W : Site w h₀ outer cs) (F : Fr h₀ L s.heap m) (hd : dp + 4 < recursionLimit) (hu : un + 40 < cLine)
    (N : News h₀ L s.heap [(x, instObj 305 d), (d, tabD w.params k1 k2 k3 r place tp), (r, lst its n)]) (hn : its.length ≤ 1000)
    (h : ∀ tq h' tk', Fr h₀ L h' m → Keeps [d] s.heap h' → h'.get? d = some (tabD w.params k1 k2 k3 r (0 : Int) tq) → Q (.bool (decide (0 ≤ (0 : Int) ∧ (0 : Int) < (its.length : Int)))) { s with heap := h', toks := tk' }) :
    wpAny (model prog w) (ktrTop dp un gd cn cs L ca ccd cl outer) (call (.ref 204) [.ref x]) Q E s := by
  refine' enterM (binds := [(Str.ofString "self", .ref x)]) W F N ?kd ?ko ?kc ?kb ?kl ?_ ?c1 ?c2 ?c3 ?c4
  walk_at "m enter"
  intro A₀ base p loose mean mg mb g L' h₁ kp og st ltL F' N' B' X' T'
  k_fold
  obtain ⟨hxd, hxr, hdr⟩ := ledger_apart N
  walk_at "m steps"
  all_goals (show LeaveM _ _ _ _ _ _ _ _ _)
  · rename News g _ _ _ => N9
    refine leaveM_ (by assumption) fun FL KS => ?_
    have K' := KS.but (S := [d]) N N9 (by walk_at "m sub")
    exact h _ _ _ FL K' (News.get N9 (by k_mem))

local macro_rules | `(tactic| walk_at "call ref") => `(tactic| (k_here; k_dflt (show wpAny _ _ (call (Value.ref 204) [Value.ref _]) _ _ _); (rename News _ _ _ _ => kN); k_dflt (refine' first_spec ?W ?F ?d ?u ?N ?n ?_; (case W => exact Site.mk ⟨_, _, _, _, _, _, _, by k_asm, by k_asm, by k_asm⟩ rfl); (case F => k_asm); (case d => walk_at "m room"); (case u => walk_at "m room"); (case N => exact News.three kN (by k_mem) (by k_mem) (by k_mem)); (case n => omega)); intro tq' h' tk' F' KS hD; (have N' := News.put kN KS hD (by k_upd)); clear KS hD))

theorem last_spec {x d r n : Nat} {k1 k2 k3 tp : Tok} {place : Int} {its : List Value} 
    (W : Site w h₀ outer cs) (F : Fr h₀ L s.heap m) (hd : dp + 4 < recursionLimit) (hu : un + 40 < cLine)
    (N : News h₀ L s.heap [(x, instObj 305 d), (d, tabD w.params k1 k2 k3 r place tp), (r, lst its n)]) (hn : its.length ≤ 1000)
    (h : ∀ tq h' tk', Fr h₀ L h' m → Keeps [d] s.heap h' → h'.get? d = some (tabD w.params k1 k2 k3 r ((its.length : Int) - 1) tq) → Q (.bool (decide (0 ≤ ((its.length : Int) - 1) ∧ ((its.length : Int) - 1) < (its.length : Int)))) { s with heap := h', toks := tk' }) :
    wpAny (model prog w) (ktrTop dp un gd cn cs L ca ccd cl outer) (call (.ref 211) [.ref x]) Q E s := by
  refine' enterM (binds := [(Str.ofString "self", .ref x)]) W F N ?kd ?ko ?kc ?kb ?kl ?_ ?c1 ?c2 ?c3 ?c4
  walk_at "m enter"
  intro A₀ base p loose mean mg mb g L' h₁ kp og st ltL F' N' B' X' T'
  k_fold
  obtain ⟨hxd, hxr, hdr⟩ := ledger_apart N
  walk_at "m steps"
  all_goals (show LeaveM _ _ _ _ _ _ _ _ _)
  · rename News g _ _ _ => N9
    refine leaveM_ (by assumption) fun FL KS => ?_
    have K' := KS.but (S := [d]) N N9 (by walk_at "m sub")
    exact h _ _ _ FL K' (News.get N9 (by k_mem))

local macro_rules | `(tactic| walk_at "call ref") => `(tactic| (k_here; k_dflt (show wpAny _ _ (call (Value.ref 211) [Value.ref _]) _ _ _); (rename News _ _ _ _ => kN); k_dflt (refine' last_spec ?W ?F ?d ?u ?N ?n ?_; (case W => exact Site.mk ⟨_, _, _, _, _, _, _, by k_asm, by k_asm, by k_asm⟩ rfl); (case F => k_asm); (case d => walk_at "m room"); (case u => walk_at "m room"); (case N => exact News.three kN (by k_mem) (by k_mem) (by k_mem)); (case n => omega)); intro tq' h' tk' F' KS hD; (have N' := News.put kN KS hD (by k_upd)); clear KS hD))

theorem next_spec {x d r n : Nat} {k1 k2 k3 tp : Tok} {place : Int} {its : List Value} 
    (W : Site w h₀ outer cs) (F : Fr h₀ L s.heap m) (hd : dp + 4 < recursionLimit) (hu : un + 40 < cLine)
    (N : News h₀ L s.heap [(x, instObj 305 d), (d, tabD w.params k1 k2 k3 r place tp), (r, lst its n)]) (hn : its.length ≤ 1000) (hp : place < (its.length : Int))
    (h : ∀ tq h' tk', Fr h₀ L h' m → Keeps [d] s.heap h' → h'.get? d = some (tabD w.params k1 k2 k3 r (place + 1) tq) → Q (.bool (decide (0 ≤ (place + 1) ∧ (place + 1) < (its.length : Int)))) { s with heap := h', toks := tk' }) :
    wpAny (model prog w) (ktrTop dp un gd cn cs L ca ccd cl outer) (call (.ref 218) [.ref x]) Q E s := by
  refine' enterM (binds := [(Str.ofString "self", .ref x)]) W F N ?kd ?ko ?kc ?kb ?kl ?_ ?c1 ?c2 ?c3 ?c4
  walk_at "m enter"
  intro A₀ base p loose mean mg mb g L' h₁ kp og st ltL F' N' B' X' T'
  k_fold
  obtain ⟨hxd, hxr, hdr⟩ := ledger_apart N
  walk_at "m steps"
  all_goals (show LeaveM _ _ _ _ _ _ _ _ _)
  · rename News g _ _ _ => N9
    have e9 : (if (its.length : Int) < place + 1 then (its.length : Int) else place + 1) = place + 1 := if_neg (by omega)
    rw [e9] at N9 ⊢
    refine leaveM_ (by assumption) fun FL KS => ?_
    have K' := KS.but (S := [d]) N N9 (by walk_at "m sub")
    exact h _ _ _ FL K' (News.get N9 (by k_mem))

local macro_rules | `(tactic| walk_at "call ref") => `(tactic| (k_here; k_dflt (show wpAny _ _ (call (Value.ref 218) [Value.ref _]) _ _ _); (rename News _ _ _ _ => kN); k_dflt (refine' next_spec ?W ?F ?d ?u ?N ?n ?p ?_; (case W => exact Site.mk ⟨_, _, _, _, _, _, _, by k_asm, by k_asm, by k_asm⟩ rfl); (case F => k_asm); (case d => walk_at "m room"); (case u => walk_at "m room"); (case N => exact News.three kN (by k_mem) (by k_mem) (by k_mem)); (case n => omega); (case p => omega)); intro tq' h' tk' F' KS hD; (have N' := News.put kN KS hD (by k_upd)); clear KS hD))
theorem off3 : True := by
  w_top off
  trivial
/-- rising rowids -/
def Asc (vals : List (Int × Array UInt8)) : Prop := vals.Pairwise fun a b => a.1 < b.1
/-- p is the place of k -/
def PlaceOf (vals : List (Int × Array UInt8)) (k : Int) (p : Nat) : Prop :=
  p ≤ vals.length ∧ (∀ i, i < p → (vals.getD i (0, #[])).1 < k) ∧ ∀ i, p ≤ i → i < vals.length → k ≤ (vals.getD i (0, #[])).1
theorem Asc.get {vals : List (Int × Array UInt8)} (h : Asc vals) {i j : Nat} (hij : i < j) (hj : j < vals.length) : (vals.getD i (0, #[])).1 < (vals.getD j (0, #[])).1 := by
  have := (List.pairwise_iff_getElem.mp h) i j (by omega) hj hij
  simpa [List.getD_eq_getElem?_getD, List.getElem?_eq_getElem, hj, show i < vals.length by omega] using this
theorem mid_bounds {a b : Int} (h0 : 0 ≤ a) (h : a < b) : a ≤ (a + b).fdiv 2 ∧ (a + b).fdiv 2 < b := by
  rw [Int.fdiv_eq_ediv_of_nonneg _ (by decide)]
  omega
theorem place_of_spec {x d r n : Nat} {k1 k2 k3 tp : Tok} {place : Int} {its : List Value} {vals : List (Int × Array UInt8)} {k : Int} {tk : Tok}
    (W : Site w h₀ outer cs) (F : Fr h₀ L s.heap m) (hd : dp + 2 < recursionLimit) (hu : un + 20 < cLine)
    (N : News h₀ L s.heap [(x, instObj 305 d), (d, tabD w.params k1 k2 k3 r place tp), (r, lst its n)]) (hn : its.length ≤ 1000) (R : Rows s.heap its vals) (ha : Asc vals)
    (h : ∀ (p : Nat) tp' h' tk', PlaceOf vals k p → Fr h₀ L h' m → Keeps [] s.heap h' → Q (.int p tp') { s with heap := h', toks := tk' }) :
    wpAny (model prog w) (ktrTop dp un gd cn cs L ca ccd cl outer) (call (.ref 183) [.ref x, .int k tk]) Q E s := by
  refine' enterM (binds := [(Str.ofString "self", .ref x), (Str.ofString "rowid", .int k tk)]) W F N ?kd ?ko ?kc ?kb ?kl ?_ ?c1 ?c2 ?c3 ?c4
  walk_at "m enter"
  intro A₀ base p loose mean mg mb g L' h₁ kp og st ltL F' N' B' X' T'
  k_fold
  have hlen := R.length
  have RG := rows_in N kp R
  walk_at "m steps"
  rename Fr g _ _ _ => F1
  rename News g _ _ _ => N1
  refine ksw_while (σ := Int × Tok × Int × Tok) (fun _ => [(x, instObj 305 d), (d, tabD w.params k1 k2 k3 r place tp), (r, lst its n)]) (fun c => [(Str.ofString "low", .int c.1 c.2.1), (Str.ofString "high", .int c.2.2.1 c.2.2.2)]) (fun _ => True) [Str.ofString "middle"]
    (fun c => 0 ≤ c.1 ∧ c.1 ≤ c.2.2.1 ∧ c.2.2.1 ≤ (vals.length : Int) ∧ (∀ i : Nat, (i : Int) < c.1 → (vals.getD i (0, #[])).1 < k) ∧ ∀ i : Nat, c.2.2.1 ≤ (i : Int) → i < vals.length → k ≤ (vals.getD i (0, #[])).1)
    (fun c => (c.2.2.1 - c.1).toNat) (0, _, (its.length : Int), _) F1 N1 trivial (List.forall_mem_cons.mpr ⟨rfl, List.forall_mem_cons.mpr ⟨rfl, List.forall_mem_nil _⟩⟩) ?kp ?_ PassesOwn.never
  case kp => exact ⟨by dsimp only; omega, by dsimp only; omega, by dsimp only; omega, fun i hi => by dsimp only at hi; omega, fun i h1 h2 => by dsimp only at h1; omega⟩
  rintro ⟨lo, tlo, hi, thi⟩ u h2 tk2 - ⟨i0, i1, i2, i3, i4⟩ F2 N2
  dsimp only at i0 i1 i2 i3 i4 F2 N2
  k_fold
  by_cases hlt : lo < hi
  · have hM := mid_bounds i0 hlt
    obtain ⟨t, tk9, tb9, nt, hv, ht⟩ := RG.get (i := ((lo + hi).fdiv 2).toNat) (by omega)
    walk_at "m steps"
    · rename (_ : Int) < k => hk
      rename News g _ _ _ => N9
      refine ksw_end ((lo + hi).fdiv 2 + 1, _, hi, thi) (by assumption) N9 (fun p hp => hp) trivial (List.forall_mem_cons.mpr ⟨rfl, List.forall_mem_cons.mpr ⟨rfl, List.forall_mem_nil _⟩⟩) (by walk_at "m same") ?_ ?_
      · refine ⟨by dsimp only; omega, by dsimp only; omega, i2, fun i hi9 => ?_, i4⟩
        dsimp only at hi9
        by_cases he : i = ((lo + hi).fdiv 2).toNat
        · subst he; exact hk
        · exact Int.lt_trans (ha.get (i := i) (j := ((lo + hi).fdiv 2).toNat) (by omega) (by omega)) hk
      · dsimp only; omega
    · rename ¬ ((_ : Int) < k) => hk
      rename News g _ _ _ => N9
      refine ksw_end (lo, tlo, (lo + hi).fdiv 2, _) (by assumption) N9 (fun p hp => hp) trivial (List.forall_mem_cons.mpr ⟨rfl, List.forall_mem_cons.mpr ⟨rfl, List.forall_mem_nil _⟩⟩) (by walk_at "m same") ?_ ?_
      · refine ⟨i0, by dsimp only; omega, by dsimp only; omega, i3, fun i h1 h2 => ?_⟩
        dsimp only at h1
        by_cases he : i = ((lo + hi).fdiv 2).toNat
        · subst he; omega
        · have := ha.get (i := ((lo + hi).fdiv 2).toNat) (j := i) (by omega) (by omega)
          omega
      · dsimp only; omega
  · walk_at "m steps"
    all_goals (show LeaveM _ _ _ _ _ _ _ _ _)
    rename News g _ _ _ => N9
    refine leaveM_ (by assumption) fun FL KS => ?_
    have K' := KS.but (S := []) N N9 (by walk_at "m sub")
    have e9 : lo = (lo.toNat : Int) := by omega
    have PO : PlaceOf vals k lo.toNat := ⟨by omega, fun i hi9 => i3 i (by omega), fun i h1 h2 => i4 i (by omega) h2⟩
    have e10 : Value.int lo tlo = .int (lo.toNat : Int) tlo := by rw [← e9]
    show Q (Value.int lo tlo) _
    rw [e10]
    exact h lo.toNat tlo _ _ PO FL K'
theorem off4 : True := by
  w_top off
  trivial
local macro_rules | `(tactic| walk_at "call ref") => `(tactic| (k_here; k_dflt (show wpAny _ _ (call (Value.ref 183) [Value.ref _, Value.int _ _]) _ _ _); (rename News _ _ _ _ => kN); k_dflt (refine' place_of_spec ?W ?F ?d ?u ?N ?n ?R ?ha ?_; (case W => exact Site.mk ⟨_, _, _, _, _, _, _, by k_asm, by k_asm, by k_asm⟩ rfl); (case F => k_asm); (case d => walk_at "m room"); (case u => walk_at "m room"); (case N => exact News.three kN (by k_mem) (by k_mem) (by k_mem)); (case n => omega); (case R => walk_at "m rows"); (case ha => assumption)); intro p' tp' h' tk' hP F' KS; (have N' := News.still kN KS); clear KS))

theorem seek_ge_spec {x d r n : Nat} {k1 k2 k3 tp : Tok} {place : Int} {its : List Value} {vals : List (Int × Array UInt8)} {k : Int} {tk : Tok}
    (W : Site w h₀ outer cs) (F : Fr h₀ L s.heap m) (hd : dp + 10 < recursionLimit) (hu : un + 100 < cLine)
    (N : News h₀ L s.heap [(x, instObj 305 d), (d, tabD w.params k1 k2 k3 r place tp), (r, lst its n)]) (hn : its.length ≤ 1000) (R : Rows s.heap its vals) (ha : Asc vals)
    (h : ∀ (p : Nat) tq h' tk', PlaceOf vals k p → Fr h₀ L h' m → Keeps [d] s.heap h' → h'.get? d = some (tabD w.params k1 k2 k3 r p tq) → Q (.bool (decide (0 ≤ (p : Int) ∧ (p : Int) < (its.length : Int)))) { s with heap := h', toks := tk' }) :
    wpAny (model prog w) (ktrTop dp un gd cn cs L ca ccd cl outer) (call (.ref 239) [.ref x, .int k tk]) Q E s := by
  refine' enterM (binds := [(Str.ofString "self", .ref x), (Str.ofString "rowid", .int k tk)]) W F N ?kd ?ko ?kc ?kb ?kl ?_ ?c1 ?c2 ?c3 ?c4
  walk_at "m enter"
  intro A₀ base p loose mean mg mb g L' h₁ kp og st ltL F' N' B' X' T'
  k_fold
  have RG := rows_in N kp R
  obtain ⟨hxd, hxr, hdr⟩ := ledger_apart N
  walk_at "m steps"
  all_goals (show LeaveM _ _ _ _ _ _ _ _ _)
  · rename PlaceOf _ _ _ => PO
    rename News g _ _ _ => N9
    refine leaveM_ (by assumption) fun FL KS => ?_
    have K' := KS.but (S := [d]) N N9 (by walk_at "m sub")
    exact h _ _ _ _ PO FL K' (News.get N9 (by k_mem))

local macro_rules | `(tactic| walk_at "call ref") => `(tactic| (k_here; k_dflt (show wpAny _ _ (call (Value.ref 239) [Value.ref _, Value.int _ _]) _ _ _); (rename News _ _ _ _ => kN); k_dflt (refine' seek_ge_spec ?W ?F ?d ?u ?N ?n ?R ?ha ?_; (case W => exact Site.mk ⟨_, _, _, _, _, _, _, by k_asm, by k_asm, by k_asm⟩ rfl); (case F => k_asm); (case d => walk_at "m room"); (case u => walk_at "m room"); (case N => exact News.three kN (by k_mem) (by k_mem) (by k_mem)); (case n => omega); (case R => walk_at "m rows"); (case ha => assumption)); intro p' tq' h' tk' hP F' KS hD; (have N' := News.put kN KS hD (by k_upd)); clear KS hD))

section
variable {A : Around} {D : Addr} {news news' : List (Addr × Obj)} {its : List Value} {n p : Nat} {u : Tok} {y : Value}
theorem ins_row {Q : Value → Shared → Prop} (F : Fr h₀ L s.heap m) (N : News h₀ L s.heap news) (U : Upd D (lst its n) (lst (its.take p ++ y :: its.drop p) (n + 1)) news news') (hp : (p : Int) ≤ its.length) (hn : its.length ≤ 1000)
    (h : ∀ h', Fr h₀ L h' m → News h₀ L h' news' → Q .none { s with heap := h' }) : wpAny (model prog w) A (call (.builtin "list.insert") [.ref D, .int (p : Int) u, y]) Q E s := by
  refine kl_insert (its := its.toArray) F N (by unfold Builtin.List.listFitsIndex; simp; omega) ?_ U (by rw [sizeLine_eq]; simp; omega) h
  show kl_ins its (p : Int) y = _
  unfold kl_ins
  rw [show (if (p : Int) < 0 then ((p : Int) + (its.length : Int)).toNat else min (p : Int).toNat its.length) = p from by rw [if_neg (by omega)]; omega]
theorem set_row {Q : Unit → Shared → Prop} (F : Fr h₀ L s.heap m) (N : News h₀ L s.heap news) (U : Upd D (lst its n) (lst (its.set p y) n) news news') (hp : (p : Int) < its.length) (hn : its.length ≤ 1000)
    (h : ∀ h', Fr h₀ L h' m → News h₀ L h' news' → Q () { s with heap := h' }) : wpAny (model prog w) A (setItem (.ref D) (.int (p : Int) u) y) Q E s := by
  obtain ⟨pre, post, rfl, rfl, a, b⟩ := U.split
  have z := N (D, lst its n) (List.mem_append.mpr (.inr (.head _)))
  refine ki_setAt z.1 (by omega) (by omega) (by simp; omega) (h _ (F.change (Heap.SameBut.update ..) z.2.1 z.2.2) (ki_turn _ N a b ?_ ?_))
  · show its.toArray.setIfInBounds (p : Int).toNat y = (its.set p y).toArray
    apply Array.toList_inj.mp
    simp
  · simp
end
theorem rows_at {g : Heap} {its : List Value} {vals : List (Int × Array UInt8)} {k : Int} {p : Nat} (R : Rows g its vals) (PO : PlaceOf vals k p) (hp : (p : Int) < its.length) :
    ∃ t tk tb n, its[(p : Int).toNat]? = some (.ref t) ∧ g.get? t = some (tup (vals.getD p (0, #[])).1 tk (vals.getD p (0, #[])).2 tb n) := by
  have := R.length
  exact R.get (i := p) (by omega)
local macro_rules | `(tactic| walk_at "subscriptTail Name Name ref int") => `(tactic| (k_here; (with_unfolding_all refine' item_litK ?k1 ?k2 ?k3 ?k4 ?_ ?k6; (case k1 => is_list); (case k2 => omega); (case k3 => omega); (case k4 => assumption); (case k6 => with_unfolding_all rfl); k_whole)))
local macro_rules | `(tactic| walk_at "call builtin:list.insert") => `(tactic| (k_here; (with_reducible show wpAny _ _ (call (Value.builtin _) [Value.ref _, Value.int (Nat.cast _) _, _]) _ _ _); k_dflt (refine' ins_row ?F ?N ?U ?p ?n ?_; (case F => k_asm); (case N => k_asm); (case U => k_upd); (case p => omega); (case n => omega)); intro h' F' N'; (try k_sweep)))
local macro_rules | `(tactic| walk_at "setItem ref int") => `(tactic| (k_here; (with_reducible show wpAny _ _ (setItem (Value.ref _) (Value.int (Nat.cast _) _) (Value.ref _)) _ _ _); k_dflt (refine' set_row ?F ?N ?U ?p ?n ?_; (case F => k_asm); (case N => k_asm); (case U => k_upd); (case p => omega); (case n => omega)); intro h' F' N'; (try k_sweep)))

def putRow (k : Int) (b : Array UInt8) : List (Int × Array UInt8) → List (Int × Array UInt8)
  | [] => [(k, b)]
  | q :: r => if q.1 < k then q :: putRow k b r else if q.1 = k then (k, b) :: r else (k, b) :: q :: r
theorem PlaceOf.tail {q : Int × Array UInt8} {vals : List (Int × Array UInt8)} {k : Int} {p : Nat} (h : PlaceOf (q :: vals) k (p + 1)) : q.1 < k ∧ PlaceOf vals k p := by
  obtain ⟨h1, h2, h3⟩ := h
  simp only [List.length_cons] at h1 h3
  refine ⟨by simpa using h2 0 (by omega), by omega, fun i hi => ?_, fun i a b => ?_⟩
  · simpa using h2 (i + 1) (by omega)
  · simpa using h3 (i + 1) (by omega) (by omega)
theorem put_set {b : Array UInt8} {k : Int} : ∀ {vals : List (Int × Array UInt8)} {p : Nat}, PlaceOf vals k p → p < vals.length → (vals.getD p (0, #[])).1 = k → vals.set p (k, b) = putRow k b vals
  | [], _, _, h, _ => absurd h (Nat.not_lt_zero _)
  | q :: r, 0, h, _, e => by
    have e' : q.1 = k := by simpa using e
    simp [putRow, e']
  | q :: r, p + 1, h, hl, e => by
    obtain ⟨h1, h2⟩ := h.tail
    simp only [List.set_cons_succ, putRow, h1, if_true]
    rw [put_set h2 (by simpa using hl) (by simpa using e)]
theorem put_ins {b : Array UInt8} {k : Int} : ∀ {vals : List (Int × Array UInt8)} {p : Nat}, PlaceOf vals k p → (p < vals.length → (vals.getD p (0, #[])).1 ≠ k) → vals.take p ++ (k, b) :: vals.drop p = putRow k b vals
  | [], 0, _, _ => rfl
  | [], p + 1, h, _ => absurd h.1 (by simp)
  | q :: r, 0, h, e => by
    have h3 := h.2.2 0 (Nat.le_refl _) (by simp)
    have e' : q.1 ≠ k := by simpa using e (by simp)
    simp only [List.getD_cons_zero] at h3
    simp [putRow, e', show ¬ q.1 < k by omega]
  | q :: r, p + 1, h, e => by
    obtain ⟨h1, h2⟩ := h.tail
    simp only [List.take_succ_cons, List.drop_succ_cons, List.cons_append, putRow, h1, if_true]
    rw [put_ins h2 (fun hl => by simpa using e (by simpa using hl))]
theorem Rows.append {h : Heap} {vs vs' ps ps'} (R : Rows h vs ps) (R' : Rows h vs' ps') : Rows h (vs ++ vs') (ps ++ ps') := by
  induction R with
  | nil => exact R'
  | cons e _ ih => exact .cons e ih
theorem Rows.take {h : Heap} {vs ps} (R : Rows h vs ps) : ∀ n, Rows h (vs.take n) (ps.take n) := by
  induction R with
  | nil => intro n; simp; exact .nil
  | cons e _ ih =>
    intro n
    cases n with
    | zero => exact .nil
    | succ n => exact .cons e (ih n)
theorem Rows.drop {h : Heap} {vs ps} (R : Rows h vs ps) : ∀ n, Rows h (vs.drop n) (ps.drop n) := by
  induction R with
  | nil => intro n; simp; exact .nil
  | cons e R ih =>
    intro n
    cases n with
    | zero => exact .cons e R
    | succ n => exact ih n
theorem Rows.set {h : Heap} {vs ps} {t : Addr} {k : Int} {tk : Tok} {b : Array UInt8} {tb : Tok} {n : Nat} (e : h.get? t = some (tup k tk b tb n)) (R : Rows h vs ps) : ∀ i, Rows h (vs.set i (.ref t)) (ps.set i (k, b)) := by
  induction R with
  | nil => intro n; exact .nil
  | cons e' R ih =>
    intro i
    cases i with
    | zero => exact .cons e R
    | succ i => exact .cons e' (ih i)

theorem insert_row_spec {x d r n : Nat} {k1 k2 k3 tp : Tok} {place : Int} {its : List Value} {vals : List (Int × Array UInt8)} {k : Int} {tk : Tok} {b : Array UInt8} {tb : Tok}
    (W : Site w h₀ outer cs) (F : Fr h₀ L s.heap m) (hd : dp + 10 < recursionLimit) (hu : un + 100 < cLine)
    (N : News h₀ L s.heap [(x, instObj 305 d), (d, tabD w.params k1 k2 k3 r place tp), (r, lst its n)]) (hn : its.length ≤ 100) (R : Rows s.heap its vals) (ha : Asc vals)
    (h : ∀ its' n' place' tp' h' tk', Rows h' its' (putRow k b vals) → Fr h₀ L h' m → Keeps [d, r] s.heap h' → h'.get? d = some (tabD w.params k1 k2 k3 r place' tp') → h'.get? r = some (lst its' n') → Q .none { s with heap := h', toks := tk' })
    : wpAny (model prog w) (ktrTop dp un gd cn cs L ca ccd cl outer) (call (.ref 176) [.ref x, .int k tk, .bytes b tb]) Q E s := by
  refine' enterM (binds := [(Str.ofString "self", .ref x), (Str.ofString "rowid", .int k tk), (Str.ofString "record", .bytes b tb)]) W F N ?kd ?ko ?kc ?kb ?kl ?_ ?c1 ?c2 ?c3 ?c4
  walk_at "m enter"
  intro A₀ base p loose mean mg mb g L' h₁ kp og st ltL F' N' B' X' T'
  k_fold
  have RG := rows_in N kp R
  have hlen := R.length
  obtain ⟨hxd, hxr, hdr⟩ := ledger_apart N
  walk_at "m steps"
  · rename PlaceOf _ _ _ => PO
    obtain ⟨t, tk9, tb9, nt, hv, ht⟩ := rows_at RG PO (by assumption)
    walk_at "m steps"
    all_goals (show LeaveM _ _ _ _ _ _ _ _ _)
    · rename News g _ _ _ => N9
      rename Fr g _ _ _ => F9
      rename (_ : Int) = k => he
      refine leaveM_ F9 fun FL KS => ?_
      have K' := KS.but (S := [d, r]) N N9 (by walk_at "m sub")
      refine h _ _ _ _ _ _ ?_ FL K' (News.get N9 (by k_mem)) (News.get N9 (by k_mem))
      rw [← put_set PO (by have := PO.1; omega) he]
      exact Rows.set (News.get N9 (List.Mem.head _)) (Rows.at F9 RG) _
    · rename News g _ _ _ => N9
      rename Fr g _ _ _ => F9
      refine leaveM_ F9 fun FL KS => ?_
      have K' := KS.but (S := [d, r]) N N9 (by walk_at "m sub")
      refine h _ _ _ _ _ _ ?_ FL K' (News.get N9 (by k_mem)) (News.get N9 (by k_mem))
      rw [← put_ins PO (fun hl => by first | assumption | omega)]
      exact Rows.append ((Rows.at F9 RG).take _) (Rows.cons (News.get N9 (List.Mem.head _)) ((Rows.at F9 RG).drop _))
    · rename News g _ _ _ => N9
      rename Fr g _ _ _ => F9
      refine leaveM_ F9 fun FL KS => ?_
      have K' := KS.but (S := [d, r]) N N9 (by walk_at "m sub")
      refine h _ _ _ _ _ _ ?_ FL K' (News.get N9 (by k_mem)) (News.get N9 (by k_mem))
      rw [← put_ins PO (fun hl => by first | assumption | omega)]
      exact Rows.append ((Rows.at F9 RG).take _) (Rows.cons (News.get N9 (List.Mem.head _)) ((Rows.at F9 RG).drop _))

  · rename PlaceOf _ _ _ => PO
    have hp9 := PO.1
    walk_at "m steps"
    all_goals (show LeaveM _ _ _ _ _ _ _ _ _)
    · rename News g _ _ _ => N9
      rename Fr g _ _ _ => F9
      refine leaveM_ F9 fun FL KS => ?_
      have K' := KS.but (S := [d, r]) N N9 (by walk_at "m sub")
      refine h _ _ _ _ _ _ ?_ FL K' (News.get N9 (by k_mem)) (News.get N9 (by k_mem))
      rw [← put_ins PO (fun hl => by first | assumption | omega)]
      exact Rows.append ((Rows.at F9 RG).take _) (Rows.cons (News.get N9 (List.Mem.head _)) ((Rows.at F9 RG).drop _))
    · rename News g _ _ _ => N9
      rename Fr g _ _ _ => F9
      refine leaveM_ F9 fun FL KS => ?_
      have K' := KS.but (S := [d, r]) N N9 (by walk_at "m sub")
      refine h _ _ _ _ _ _ ?_ FL K' (News.get N9 (by k_mem)) (News.get N9 (by k_mem))
      rw [← put_ins PO (fun hl => by first | assumption | omega)]
      exact Rows.append ((Rows.at F9 RG).take _) (Rows.cons (News.get N9 (List.Mem.head _)) ((Rows.at F9 RG).drop _))

theorem off5 : True := by
  w_top off
  trivial

def gapFrom : Int → List (Int × Array UInt8) → Int
  | f, [] => f
  | f, q :: r => if q.1 = f then gapFrom (f + 1) r else f
def maxInt : Int := 9223372036854775807
/-- what new_rowid tells -/
def NewIs (vals : List (Int × Array UInt8)) (v : Int) : Prop :=
  (vals = [] ∧ v = 1) ∨ (vals ≠ [] ∧ (vals.getD (vals.length - 1) (0, #[])).1 < maxInt ∧ v = (vals.getD (vals.length - 1) (0, #[])).1 + 1) ∨
  (vals ≠ [] ∧ ¬ (vals.getD (vals.length - 1) (0, #[])).1 < maxInt ∧ ∃ p, PlaceOf vals 1 p ∧ v = gapFrom 1 (vals.drop p))
theorem gap_step {vals : List (Int × Array UInt8)} {f : Int} {j : Nat} (hj : j < vals.length) (e : (vals.getD j (0, #[])).1 = f) : gapFrom f (vals.drop j) = gapFrom (f + 1) (vals.drop (j + 1)) := by
  have e1 : vals.drop j = vals[j] :: vals.drop (j + 1) := List.drop_eq_getElem_cons hj
  rw [e1]
  have e2 : vals[j].1 = f := by simpa [List.getD_eq_getElem?_getD, List.getElem?_eq_getElem, hj] using e
  simp [gapFrom, e2]
theorem gap_stop {vals : List (Int × Array UInt8)} {f : Int} {j : Nat} (hj : j < vals.length) (e : (vals.getD j (0, #[])).1 ≠ f) : gapFrom f (vals.drop j) = f := by
  have e1 : vals.drop j = vals[j] :: vals.drop (j + 1) := List.drop_eq_getElem_cons hj
  rw [e1]
  have e2 : vals[j].1 ≠ f := by simpa [List.getD_eq_getElem?_getD, List.getElem?_eq_getElem, hj] using e
  simp [gapFrom, e2]
theorem gap_end {vals : List (Int × Array UInt8)} {f : Int} {j : Nat} (hj : vals.length ≤ j) : gapFrom f (vals.drop j) = f := by
  rw [List.drop_of_length_le hj]; rfl

theorem new_rowid_spec {x d r n : Nat} {k1 k2 k3 tp : Tok} {place : Int} {its : List Value} {vals : List (Int × Array UInt8)}
    (W : Site w h₀ outer cs) (F : Fr h₀ L s.heap m) (hd : dp + 20 < recursionLimit) (hu : un + 200 < cLine)
    (N : News h₀ L s.heap [(x, instObj 305 d), (d, tabD w.params k1 k2 k3 r place tp), (r, lst its n)]) (hn : its.length ≤ 100) (R : Rows s.heap its vals) (ha : Asc vals)
    (h : ∀ v tv place' tp' h' tk', NewIs vals v → Fr h₀ L h' m → Keeps [d] s.heap h' → h'.get? d = some (tabD w.params k1 k2 k3 r place' tp') → Q (.int v tv) { s with heap := h', toks := tk' })
    : wpAny (model prog w) (ktrTop dp un gd cn cs L ca ccd cl outer) (call (.ref 105) [.ref x]) Q E s := by
  refine' enterM (binds := [(Str.ofString "cursor", .ref x)]) W F N ?kd ?ko ?kc ?kb ?kl ?_ ?c1 ?c2 ?c3 ?c4
  walk_at "m enter"
  intro A₀ base p loose mean mg mb g L' h₁ kp og st ltL F' N' B' X' T'
  k_fold
  have RG := rows_in N kp R
  have hlen := R.length
  obtain ⟨hxd, hxr, hdr⟩ := ledger_apart N
  by_cases h0 : its.length = 0
  · walk_at "m steps"
    all_goals (show LeaveM _ _ _ _ _ _ _ _ _)
    rename News g _ _ _ => N9
    rename Fr g _ _ _ => F9
    refine leaveM_ F9 fun FL KS => ?_
    have K' := KS.but (S := [d]) N N9 (by walk_at "m sub")
    exact h _ _ _ _ _ _ (.inl ⟨List.eq_nil_of_length_eq_zero (by omega), rfl⟩) FL K' (News.get N9 (by k_mem))
  · have hne : vals ≠ [] := fun q => h0 (by rw [hlen, q]; rfl)
    have e0 : ((its.length : Int) - 1).toNat = vals.length - 1 := by omega
    walk_at "m steps"
    · show LeaveM _ _ _ _ _ _ _ _ _
      rename News g _ _ _ => N9
      rename Fr g _ _ _ => F9
      rename (_ : Int) < 9223372036854775807 => hlt
      refine leaveM_ F9 fun FL KS => ?_
      have K' := KS.but (S := [d]) N N9 (by walk_at "m sub")
      refine h _ _ _ _ _ _ (.inr (.inl ⟨hne, ?_, ?_⟩)) FL K' (News.get N9 (by k_mem))
      · rw [← e0]; exact hlt
      · rw [← e0]
    · rename News g _ _ _ => N1
      rename Fr g _ _ _ => F1
      rename ¬ ((_ : Int) < 9223372036854775807) => hge
      rename PlaceOf _ _ _ => PO
      refine ksw_while (σ := Int × Int × Tok × Tok) (fun c => [(x, instObj 305 d), (d, tabD w.params k1 k2 k3 r c.1 c.2.2.2), (r, lst its n)])
        (fun c => [(Str.ofString "free", .int c.2.1 c.2.2.1), (Str.ofString "is_there", .bool (decide (0 ≤ c.1 ∧ c.1 < (its.length : Int))))]) (fun _ => True) []
        (fun c => 0 ≤ c.1 ∧ c.1 ≤ vals.length ∧ ∃ p : Nat, PlaceOf vals 1 p ∧ (p : Int) ≤ c.1 ∧ c.2.1 = 1 + (c.1 - p) ∧ gapFrom 1 (vals.drop p) = gapFrom c.2.1 (vals.drop c.1.toNat))
        (fun c => (vals.length - c.1).toNat) (_, 1, _, _) F1 N1 trivial (List.forall_mem_cons.mpr ⟨rfl, List.forall_mem_cons.mpr ⟨rfl, List.forall_mem_nil _⟩⟩) ?kp ?_ PassesOwn.never
      case kp => exact ⟨Int.natCast_nonneg _, Int.ofNat_le.mpr PO.1, _, PO, Int.le_refl _, by simp, rfl⟩
      rintro ⟨j, f, tf, tq⟩ u h2 tk2 - ⟨i0, i1, p9, PO9, i2, i3, i4⟩ F2 N2
      dsimp only at i0 i1 i2 i3 i4 F2 N2
      k_fold
      have hend : ∀ vv, vv = f → gapFrom f (vals.drop j.toNat) = f → NewIs vals vv := fun vv ev eg =>
        .inr (.inr ⟨hne, by rw [← e0]; exact hge, p9, PO9, by rw [i4, eg, ev]⟩)
      by_cases hj : j < its.length
      · walk_at "m steps"
        · rename _ = f => he
          rename News g _ _ _ => N9
          rename Fr g _ _ _ => F9
          refine ksw_end (j + 1, f + 1, _, _) F9 N9 (fun p hp => hp) trivial (List.forall_mem_cons.mpr ⟨rfl, List.forall_mem_cons.mpr ⟨rfl, List.forall_mem_nil _⟩⟩) (by walk_at "m same") ?_ ?_
          · refine ⟨by dsimp only; omega, by dsimp only; omega, p9, PO9, by dsimp only; omega, by dsimp only; omega, ?_⟩
            dsimp only
            rw [i4, gap_step (by omega) he, show (j + 1).toNat = j.toNat + 1 by omega]
          · dsimp only; omega
        · show LeaveM _ _ _ _ _ _ _ _ _
          rename _ ≠ f => he
          rename News g _ _ _ => N9
          rename Fr g _ _ _ => F9
          refine leaveM_ F9 fun FL KS => ?_
          have K' := KS.but (S := [d]) N N9 (by walk_at "m sub")
          exact h _ _ _ _ _ _ (hend _ rfl (gap_stop (by omega) he)) FL K' (News.get N9 (by k_mem))
      · walk_at "m steps"
        show LeaveM _ _ _ _ _ _ _ _ _
        rename News g _ _ _ => N9
        rename Fr g _ _ _ => F9
        refine leaveM_ F9 fun FL KS => ?_
        have K' := KS.but (S := [d]) N N9 (by walk_at "m sub")
        exact h _ _ _ _ _ _ (hend _ rfl (gap_end (by omega))) FL K' (News.get N9 (by k_mem))
theorem off6 : True := by
  w_top off
  trivial
/-- the rows: in the ground, or on the ledger -/
inductive RowsB (h₀ : Heap) (T : List (Addr × Obj)) : List Value → List (Int × Array UInt8) → Prop where
  | nil : RowsB h₀ T [] []
  | cons {t : Addr} {k : Int} {tk : Tok} {b : Array UInt8} {tb : Tok} {n : Nat} {vs ps} : (h₀.get? t = some (tup k tk b tb n) ∨ (t, tup k tk b tb n) ∈ T) → RowsB h₀ T vs ps → RowsB h₀ T (.ref t :: vs) ((k, b) :: ps)
theorem RowsB.length {h₀ : Heap} {T : List (Addr × Obj)} {vs ps} (R : RowsB h₀ T vs ps) : vs.length = ps.length := by
  induction R with
  | nil => rfl
  | cons _ _ ih => simp [ih]
theorem RowsB.rows {h₀ h : Heap} {L : Addr} {m : Str → Option Value} {T news : List (Addr × Obj)} {vs ps} (F : Fr h₀ L h m) (N : News h₀ L h news) (hs : ∀ p ∈ T, p ∈ news) (R : RowsB h₀ T vs ps) : Rows h vs ps := by
  induction R with
  | nil => exact .nil
  | cons e _ ih => exact .cons (e.elim (fun q => F.keep _ _ q) fun q => (N _ (hs _ q)).1) ih
theorem RowsB.mono {h₀ : Heap} {T T' : List (Addr × Obj)} {vs ps} (R : RowsB h₀ T vs ps) (hs : ∀ p ∈ T, p ∈ T') : RowsB h₀ T' vs ps := by
  induction R with
  | nil => exact .nil
  | cons e _ ih => exact .cons (e.imp id fun q => hs _ q) ih
theorem RowsB.snoc {h₀ : Heap} {T : List (Addr × Obj)} {vs ps} {t : Addr} {k : Int} {tk : Tok} {b : Array UInt8} {tb : Tok} {n : Nat} (R : RowsB h₀ T vs ps) (e : (t, tup k tk b tb n) ∈ T) : RowsB h₀ T (vs ++ [.ref t]) (ps ++ [(k, b)]) := by
  induction R with
  | nil => exact .cons (.inr e) .nil
  | cons e' _ ih => exact .cons e' ih
theorem Rows.split {h₀ h : Heap} {L : Addr} {m : Str → Option Value} {vs ps} (F : Fr h₀ L h m) (R : Rows h vs ps) : ∃ T, News h₀ L h T ∧ (∀ p ∈ T, p.2.cls = .type "tuple") ∧ RowsB h₀ T vs ps := by
  induction R with
  | nil => exact ⟨[], News.nil, (fun _ hp => nomatch hp), RowsB.nil⟩
  | @cons t k tk b tb n vs ps e _ ih =>
    obtain ⟨T, N, hT, R⟩ := ih
    cases q : h₀.get? t with
    | some o =>
      have := F.keep _ _ q
      rw [e] at this
      cases this
      exact ⟨T, N, hT, RowsB.cons (.inl q) R⟩
    | none =>
      refine ⟨(t, tup k tk b tb n) :: T, ?_, ?_, RowsB.cons (.inr (.head _)) (R.mono fun p hp => .tail _ hp)⟩
      · intro p hp
        rcases List.mem_cons.mp hp with rfl | hp
        · refine ⟨e, fun hL => ?_, q⟩
          obtain ⟨oL, es, ep, hoL, hd, _, _⟩ := F.ns
          have hL' : t = L := hL
          rw [← hL', e] at hoL
          cases hoL
          cases hd
        · exact N p hp
      · intro p hp
        rcases List.mem_cons.mp hp with rfl | hp
        · rfl
        · exact hT p hp
theorem News.cat {h₀ h : Heap} {L : Addr} {n1 n2 : List (Addr × Obj)} (N1 : News h₀ L h n1) (N2 : News h₀ L h n2) : News h₀ L h (n1 ++ n2) := fun p hp => (List.mem_append.mp hp).elim (N1 p) (N2 p)
/-- a tail of tuples is off what is no tuple -/
theorem tail_off {h₀ h : Heap} {L : Addr} {news T : List (Addr × Obj)} {a : Nat} {o : Obj} (N : News h₀ L h news) (ha : (a, o) ∈ news) (hT : ∀ p ∈ T, p ∈ news) (hc : ∀ p ∈ T, p.2.cls = .type "tuple") (ho : o.cls ≠ .type "tuple") : ∀ p ∈ T, p.1 ≠ a := by
  intro p hp e
  have e1 := (N _ ha).1
  have e2 := (N p (hT p hp)).1
  rw [show p.1 = a from e] at e2
  dsimp only at e1
  rw [e1] at e2
  cases e2
  exact ho (hc p hp)
/-- what is new since h -/
def FreshAt (h : Heap) (a : Addr) : Prop := h.get? a = none
theorem FreshAt.news {h₀ h h' : Heap} {L a : Addr} {m : Str → Option Value} {o : Obj} (F : Fr h₀ L h m) (f : FreshAt h a) (e : h'.get? a = some o) : News h₀ L h' [(a, o)] := by
  intro p hp
  rw [List.mem_singleton.mp hp]
  refine ⟨e, fun hL => ?_, ?_⟩
  · obtain ⟨oL, _, _, hoL, _⟩ := F.ns
    have hL' : a = L := hL
    unfold FreshAt at f
    rw [hL', hoL] at f
    cases f
  · cases q : h₀.get? a with
    | none => rfl
    | some o' =>
      have := F.keep _ _ q
      unfold FreshAt at f
      rw [f] at this
      cases this
theorem FreshAt.ne {h₀ h : Heap} {L : Addr} {a : Nat} {news : List (Addr × Obj)} (f : FreshAt h a) (N : News h₀ L h news) : ∀ p ∈ news, p.1 ≠ a := by
  intro p hp e
  have := (N p hp).1
  rw [show p.1 = a from e] at this
  unfold FreshAt at f
  rw [f] at this
  cases this
/-- new in the callee's ground, and off what was handed: new in the caller's heap -/
theorem FreshAt.of {h g h' : Heap} {L' a : Addr} {need news : List (Addr × Obj)} {o : Obj} (kp : Keeps (need.map (·.1)) h g) (N : News g L' h' news) (hm : (a, o) ∈ news) (hn : ∀ p ∈ need, p.1 ≠ a) : FreshAt h a := by
  unfold FreshAt
  cases q : h.get? a with
  | none => rfl
  | some o' =>
    have := kp _ _ q (fun hp => by obtain ⟨p, hp, e⟩ := List.mem_map.mp hp; exact hn p hp e)
    have e2 := (N _ hm).2.2
    rw [this] at e2
    cases e2
def AllNe (d : Nat) : List (Addr × Obj) → Prop
  | [] => True
  | p :: r => @Ne Nat p.1 d ∧ AllNe d r
theorem allNe_of {d : Nat} : ∀ {l : List (Addr × Obj)}, (∀ p ∈ l, p.1 ≠ d) → AllNe d l
  | [], _ => trivial
  | p :: _, h => ⟨h p (.head _), allNe_of fun q hq => h q (.tail _ hq)⟩
local macro_rules | `(tactic| k_all) => `(tactic| assumption)
local macro_rules | `(tactic| walk_at "m subT") => `(tactic| (intro p hp; repeat (first | exact hp | refine List.mem_cons_of_mem _ ?_)))
local macro_rules | `(tactic| walk_at "m rows") => `(tactic| first | exact Rows.at (by k_asm) (by assumption) | exact RowsB.rows (by k_asm) (by k_asm) (by walk_at "m subT") (by assumption))
theorem app_lst {A : Around} {D : Addr} {news news' : List (Addr × Obj)} {vs : List Value} {n : Nat} {y : Value} {Q : Value → Shared → Prop} (F : Fr h₀ L s.heap m) (N : News h₀ L s.heap news) (U : Upd D (lst vs n) (lst (vs ++ [y]) (n + 1)) news news') (hn : vs.length ≤ 100000)
    (h : ∀ h', Fr h₀ L h' m → News h₀ L h' news' → Q .none { s with heap := h' }) : wpAny (model prog w) A (call (.builtin "list.append") [.ref D, y]) Q E s := by
  refine append_K (its := vs.toArray) (n := n) F N ?_ h (by rw [sizeLine_eq]; simp; omega)
  rw [List.push_toArray]
  exact U
local macro_rules | `(tactic| walk_at "call builtin:list.append") => `(tactic| (k_here; (with_reducible show wpAny _ _ (call (Value.builtin _) [Value.ref _, _]) _ _ _); k_dflt (refine' app_lst ?F ?N ?U ?n ?_; (case F => k_asm); (case N => k_asm); (case U => k_upd); (case n => omega)); intro h' F' N'; (try k_sweep)))
theorem off7 : True := by
  w_top off
  trivial
local macro_rules | `(tactic| walk_at "call ref") => `(tactic| (k_here; k_dflt (show wpAny _ _ (call (Value.ref 176) [Value.ref _, Value.int _ _, Value.bytes _ _]) _ _ _); (rename News _ _ _ _ => kN); k_dflt (refine' insert_row_spec ?W ?F ?d ?u ?N ?n ?R ?ha ?_; (case W => exact Site.mk ⟨_, _, _, _, _, _, _, by k_asm, by k_asm, by k_asm⟩ rfl); (case F => k_asm); (case d => walk_at "m room"); (case u => walk_at "m room"); (case N => exact News.three kN (by k_mem) (by k_mem) (by k_mem)); (case n => omega); (case R => walk_at "m rows"); (case ha => assumption)); intro its' n' pl' tp' h' tk' R' F' KS hD hR; skip))
local macro_rules | `(tactic| walk_at "call ref") => `(tactic| (k_here; k_dflt (show wpAny _ _ (call (Value.ref 105) [Value.ref _]) _ _ _); (rename News _ _ _ _ => kN); k_dflt (refine' new_rowid_spec ?W ?F ?d ?u ?N ?n ?R ?ha ?_; (case W => exact Site.mk ⟨_, _, _, _, _, _, _, by k_asm, by k_asm, by k_asm⟩ rfl); (case F => k_asm); (case d => walk_at "m room"); (case u => walk_at "m room"); (case N => exact News.three kN (by k_mem) (by k_mem) (by k_mem)); (case n => omega); (case R => walk_at "m rows"); (case ha => assumption)); intro v' tv' pl' tp' h' tk' hV F' KS hD; (have N' := News.put kN KS hD (by k_upd)); clear KS hD))

theorem take_getD {α : Type} {l : List α} {d : α} {n : Nat} (h : n < l.length) : l.take (n + 1) = l.take n ++ [l.getD n d] := by
  rw [List.take_add_one, List.getElem?_eq_getElem h]
  simp [List.getD_eq_getElem?_getD, List.getElem?_eq_getElem h]
theorem law_rows_spec {x d r n : Nat} {k1 k2 k3 tp : Tok} {place : Int} {its : List Value} {vals : List (Int × Array UInt8)}
    (W : Site w h₀ outer cs) (F : Fr h₀ L s.heap m) (hd : dp + 20 < recursionLimit) (hu : un + 200 < cLine)
    (N : News h₀ L s.heap [(x, instObj 305 d), (d, tabD w.params k1 k2 k3 r place tp), (r, lst its n)]) (hn : its.length ≤ 100) (R : Rows s.heap its vals)
    (h : ∀ fl fits nf place' tp' h' tk', FreshAt s.heap fl → Rows h' fits vals → Fr h₀ L h' m → Keeps [d] s.heap h' → h'.get? d = some (tabD w.params k1 k2 k3 r place' tp') → h'.get? fl = some (lst fits nf) → Q (.ref fl) { s with heap := h', toks := tk' })
    : wpAny (model prog w) (ktrTop dp un gd cn cs L ca ccd cl outer) (call (.ref 354) [.ref x]) Q E s := by
  refine' enterM (binds := [(Str.ofString "table", .ref x)]) W F N ?kd ?ko ?kc ?kb ?kl ?_ ?c1 ?c2 ?c3 ?c4
  walk_at "m enter"
  intro A₀ base p loose mean mg mb g L' h₁ kp og st ltL F' N' B' X' T'
  k_fold
  have RG := rows_in N kp R
  have hlen := R.length
  obtain ⟨hxd, hxr, hdr⟩ := ledger_apart N
  walk_at "m steps"
  rename_i fl hh5 l1a tq9 hh4 tk9 D9 hh3 l1b hh2 hh1 hh0 F1 N1
  obtain ⟨hxf, hdf, hrf⟩ := l1a
  refine ksw_while (σ := Int × Tok × List Value × Nat × List (Addr × Obj)) (fun c => (fl, lst c.2.2.1 c.2.2.2.1) :: (x, instObj 305 d) :: (d, tabD w.params k1 k2 k3 r c.1 c.2.1) :: (r, lst its n) :: c.2.2.2.2)
    (fun c => [(Str.ofString "is_there", .bool (decide (0 ≤ c.1 ∧ c.1 < (its.length : Int))))]) (fun _ => True) []
    (fun c => 0 ≤ c.1 ∧ c.1 ≤ vals.length ∧ RowsB g c.2.2.2.2 c.2.2.1 (vals.take c.1.toNat) ∧ ∀ p ∈ c.2.2.2.2, p.2.cls = .type "tuple")
    (fun c => (vals.length - c.1).toNat) (0, _, [], 0, []) F1 (News.sub N1 fun p hp => .tail _ hp) trivial (List.forall_mem_cons.mpr ⟨rfl, List.forall_mem_nil _⟩) ?kp ?_ PassesOwn.never
  case kp => exact ⟨Int.le_refl _, by dsimp only; omega, RowsB.nil, fun p hp => nomatch hp⟩
  rintro ⟨j, tq, fits, nf, T⟩ u h2 tk2 - ⟨i0, i1, i2, i3⟩ F2 N2
  dsimp only at i0 i1 i2 i3 F2 N2
  have hTf := tail_off (T := T) (a := fl) (o := lst fits nf) N2 (List.Mem.head _) (by walk_at "m subT") i3 (type_ne (by decide : ("list" : String) ≠ "tuple"))
  have hTd := tail_off (T := T) (a := d) (o := tabD w.params k1 k2 k3 r j tq) N2 (by k_mem) (by walk_at "m subT") i3 (type_ne (by decide : ("dict" : String) ≠ "tuple"))
  have hfl : fits.length ≤ 100 := by have := i2.length; rw [List.length_take] at this; omega
  show wpAny _ _ _ _ _ _
  k_fold
  by_cases hj : j < its.length
  · walk_at "m steps"
    rename_i tva h86 tka tvb h85 tkb D8 h81 l8 h82 tq8 h83 tk8 h84 F9 N9
    refine ksw_end (j + 1, tq8, fits ++ [.ref D8], nf + 1, (D8, tup (vals.getD j.toNat (0, #[])).1 tva (vals.getD j.toNat (0, #[])).2 tvb 0) :: T) F9 N9 ?_ trivial (List.forall_mem_cons.mpr ⟨rfl, List.forall_mem_nil _⟩) (by walk_at "m same") ?_ ?_
    · intro p hp
      simp only [List.mem_cons] at hp ⊢
      rcases hp with h | h | h | h | h | h
      all_goals simp only [h, true_or, or_true]
    · refine ⟨by dsimp only; omega, by dsimp only; omega, ?_, ?_⟩
      · dsimp only
        rw [show (j + 1).toNat = j.toNat + 1 by omega, take_getD (d := (0, #[])) (by omega)]
        exact (i2.mono fun p hp => .tail _ hp).snoc (.head _)
      · intro p hp
        rcases List.mem_cons.mp hp with rfl | hp
        · rfl
        · exact i3 p hp
    · dsimp only; omega
  · walk_at "m steps"
    show LeaveM _ _ _ _ _ _ _ _ _
    refine leaveM_ F2 fun FL KS => ?_
    have K' := KS.but (S := [d]) N N2 (by walk_at "m sub")
    have fr : FreshAt s.heap fl := FreshAt.of kp N2 (.head _) (by
      intro p hp
      simp only [List.mem_cons, List.not_mem_nil, or_false] at hp
      rcases hp with rfl | rfl | rfl
      · exact Nat.ne_of_lt hxf
      · exact Nat.ne_of_lt hdf
      · exact Nat.ne_of_lt hrf)
    rw [List.take_of_length_le (by omega)] at i2
    exact h _ _ _ _ _ _ _ fr (i2.rows F2 N2 (by walk_at "m subT")) FL K' (News.get N2 (by k_mem)) (News.get N2 (.head _))
theorem off8 : True := by
  w_top off
  trivial
theorem News.two {h₀ h : Heap} {L : Addr} {p q : Addr × Obj} {news : List (Addr × Obj)} (N : News h₀ L h news) (hp : p ∈ news) (hq : q ∈ news) : News h₀ L h [p, q] := News.sub N fun x hx => by
  rcases List.mem_cons.mp hx with rfl | hx
  · exact hp
  · exact (List.mem_singleton.mp hx) ▸ hq
local macro_rules | `(tactic| walk_at "call ref") => `(tactic| (k_here; k_dflt (show wpAny _ _ (call (Value.ref 323) [Value.ref _, Value.int _ _]) _ _ _); (rename News _ _ _ _ => kN); k_dflt (refine' take_spec ?W ?F ?d ?u ?N ?ha ?hb ?hc ?ht ?hs ?_; (case W => exact Site.mk ⟨_, _, _, _, _, _, _, by k_asm, by k_asm, by k_asm⟩ rfl); (case F => k_asm); (case d => walk_at "m room"); (case u => walk_at "m room"); (case N => exact News.one kN (by k_mem)); (case ha => omega); (case hb => omega); (case hc => omega); (case ht => omega); (case hs => omega)); intro d' td' a' b' ta' tb' n' h' tk' hd0 hd1 ha' hb' hc' F' KS hD; (have N' := News.put kN KS hD (by k_upd)); clear KS hD))

theorem one_spec {src n tl nt : Nat} {a b : Int} {ta tb : Tok} {vs : List Value} {ns : List Int}
    (W : Site w h₀ outer cs) (F : Fr h₀ L s.heap m) (hd : dp + 3 < recursionLimit) (hu : un + 200 < cLine)
    (N : News h₀ L s.heap [(src, lst [.int a ta, .int b tb] n), (tl, lst vs nt)]) (hne : tl ≠ src) (hi : IntsAre vs ns) (hl0 : 0 < ns.length) (hl1 : ns.length < 900)
    (ha : 0 ≤ a) (hb : 0 ≤ b) (hb2 : b < 2147483647)
    (h : ∀ (v : Int) tv (a' b' : Int) ta' tb' n' h' tk', v ∈ ns → 0 ≤ a' → 0 ≤ b' → b' < 2147483647 → Fr h₀ L h' m → Keeps [src] s.heap h' → h'.get? src = some (lst [.int a' ta', .int b' tb'] n') → Q (.int v tv) { s with heap := h', toks := tk' })
    : wpAny (model prog w) (ktrTop dp un gd cn cs L ca ccd cl outer) (call (.ref 330) [.ref src, .ref tl]) Q E s := by
  refine' enterM (binds := [(Str.ofString "source", .ref src), (Str.ofString "things", .ref tl)]) W F N ?kd ?ko ?kc ?kb ?kl ?_ ?c1 ?c2 ?c3 ?c4
  walk_at "m enter"
  intro A₀ base p loose mean mg mb g L' h₁ kp og st ltL F' N' B' X' T'
  k_fold
  have hlen := hi.length
  walk_at "m steps"
  show LeaveM _ _ _ _ _ _ _ _ _
  rename_i d9 td9 a9 b9 ta9 tb9 n9 h9 tk9 hd0 hd1 ha9 hb9 hc9 F9 N9 t9
  refine leaveM_ F9 fun FL KS => ?_
  have K' := KS.but (S := [src]) N N9 (by walk_at "m sub")
  refine h _ _ _ _ _ _ _ _ _ ?_ ha9 hb9 hc9 FL K' (News.get N9 (.head _))
  have hd9 : d9.toNat < ns.length := by omega
  simp only [List.getD_eq_getElem?_getD, List.getElem?_eq_getElem hd9, Option.getD_some]
  exact List.getElem_mem _
local macro_rules | `(tactic| walk_at "call ref") => `(tactic| (k_here; k_dflt (show wpAny _ _ (call (Value.ref 330) [Value.ref _, Value.ref _]) _ _ _); (rename News _ _ _ _ => kN); k_dflt (refine' one_spec ?W ?F ?d ?u ?N ?e ?i ?l ?k ?ha ?hb ?hc ?_; (case W => exact Site.mk ⟨_, _, _, _, _, _, _, by k_asm, by k_asm, by k_asm⟩ rfl); (case F => k_asm); (case d => walk_at "m room"); (case u => walk_at "m room"); (case N => exact News.two kN (by k_mem) (by k_mem)); (case e => omega); (case i => first | assumption | l_intsW); (case l => (simp only [List.length_cons, List.length_nil]; omega)); (case k => (simp only [List.length_cons, List.length_nil]; omega)); (case ha => omega); (case hb => omega); (case hc => omega)); intro v' tv' a' b' ta' tb' n' h' tk' hv' ha' hb' hc' F' KS hD; (have N' := News.put kN KS hD (by k_upd)); clear KS hD))
theorem off9 : True := by
  w_top off
  trivial

theorem b01 {c : Prop} [Decidable c] : (0 : Int) ≤ if c then 1 else 0 := by split <;> decide
theorem big_nonneg (x : Int) : (0 : Int) ≤ if -1 - x > x then -1 - x else x := by split <;> omega
theorem pool_spec {sl : Nat} {vs : List Value} {ns : List Int} {k : Int} {tk : Tok}
    (W : Site w h₀ outer cs) (F : Fr h₀ L s.heap m) (hd : dp + 3 < recursionLimit) (hu : un + 200 < cLine)
    (hl : s.heap.IsList sl vs.toArray) (hi : IntsAre vs ns) (hn : ns.length ≤ 63) (hk0 : 0 ≤ k) (hk1 : k ≤ 1)
    (h : ∀ (fl : Nat) (a b : Int) ta tb n h' tk', FreshAt s.heap fl → 0 ≤ a → 0 ≤ b → b < 2147483647 → Fr h₀ L h' m → Keeps [] s.heap h' → h'.get? fl = some (lst [.int a ta, .int b tb] n) → Q (.ref fl) { s with heap := h', toks := tk' })
    : wpAny (model prog w) (ktrTop dp un gd cn cs L ca ccd cl outer) (call (.ref 316) [.ref sl, .int k tk]) Q E s := by
  have N : News h₀ L s.heap [] := News.nil
  refine' enterM (binds := [(Str.ofString "script", .ref sl), (Str.ofString "k", .int k tk)]) W F N ?kd ?ko ?kc ?kb ?kl ?_ ?c1 ?c2 ?c3 ?c4
  walk_at "m enter"
  intro A₀ base p loose mean mg mb g L' h₁ kp og st ltL F' N' B' X' T'
  k_fold
  have hlen := hi.length
  have hlg : g.IsList sl vs.toArray := by
    obtain ⟨o, ho, x⟩ := hl
    exact ⟨o, kp _ _ ho (fun q => nomatch q), x⟩
  walk_at "m steps"
  all_goals (show LeaveM _ _ _ _ _ _ _ _ _)
  all_goals (
    rename News g _ _ _ => N9
    rename Fr g _ _ _ => F9
    refine leaveM_ F9 fun FL KS => ?_
    have K' := KS.but (S := []) N N9 (by walk_at "m sub")
    refine h _ _ _ _ _ _ _ _ (FreshAt.of kp N9 (.head _) fun p hp => nomatch hp) ?_ (fmod_bounds _ (by decide)).1 (fmod_bounds _ (by decide)).2 FL K' (News.get N9 (.head _))
    refine Int.mul_nonneg ?_ ?_
    · exact big_nonneg _
    · exact b01)
theorem off10 : True := by
  w_top off
  trivial

/-- the entry of a def with cells -/
theorem enterMC {a : Addr} {need : List (Addr × Obj)} {name qual : Str} {params : Arguments} {body : List Stmt} {scope : Scope} {dV kV doc pm cdv ct oc : Value} {an od : Option Addr} {osl : Array (Option Value)} {f : Addr} {args : List Value} {binds : List (Str × Value)}
    (W : Site w h₀ outer cs) (F : Fr h₀ L s.heap m) (N : News h₀ L s.heap need) (hroom : dp < recursionLimit)
    (ho : (Mine.hd.heap_39 w.params).lookup f = some ⟨oc, od, .func (fnOf name qual params body scope dV kV doc pm an cdv ct), osl⟩) (hcd : codeIn (Mine.hd.heap_39 w.params) cdv qual = true)
    (hbind : BindsTo s (fnOf name qual params body scope dV kV doc pm an cdv ct) ⟨args, []⟩ binds)
    (hkind : (binds.all fun y => scope.names.lookup y.1 == some .local || scope.names.lookup y.1 == some .cell) = true)
    (hnd : ((cellsFrom 0 scope.names []).map (·.1)).Nodup)
    (h : ∀ A₀ base p loose mean mg mb g L' h₁ tk cells, Keeps (need.map (·.1)) s.heap g → (∀ b o, g.get? b = some o → s.heap.get? b = some o) → h₀.StaysIn g → (∀ b o, s.heap.get? b = some o → b < L') →
      Fr g L' h₁ (bindL (envOfC qual scope L' f cdv).kindOf binds fun _ => none) → News g L' h₁ (cells ++ need) →
      CellsAre (bindC (envOfC qual scope L' f cdv).kindOf binds fun _ => none) (cellsFrom (L' + 1) scope.names []) cells →
      Below A₀ base (envX cn cs L a ccd cl :: outer) g → (Mine.hd.heap_39 w.params).In g → Top p loose mean mg mb g → (∀ p ∈ need, p.1 < L') →
      wpAny (model prog w) ((ktrTop dp un gd cn cs L a ccd cl outer).deeper (envOfC qual scope L' f cdv)) (execs body (envOfC qual scope L' f cdv))
        (fun fl s' => LeaveM h₀ L m (need.map (·.1)) s.heap g Q (match fl with | .ret v => v | _ => .none) s')
        (fun _ _ => False)
        { s with heap := h₁, toks := tk })
    (hco : scope.isCoroutine = false) (hgen : scope.isGenerator = false) (hk : scope.kind = .function) :
    wpAny (model prog w) (ktrTop dp un gd cn cs L a ccd cl outer) (call (.ref f) args) Q E s := by
  obtain ⟨⟨A₀, base, p, loose, mean, mg, mb, B, X, T⟩, hke⟩ := W
  obtain ⟨FG, BG, st, -⟩ := groundX (A := ktrTop dp un gd cn cs L a ccd cl outer) (R := fun _ _ => True) B F N rfl rfl hke
  refine wpAny_call ?_
  refine codeAny_call_function hroom ((X.keeps F.keep) _ _ ho) rfl hco hgen rfl (codeRec_of (X.keeps F.keep) hcd) (hbind _ _ _ _ ?_)
  refine wpAny_newFunctionEnv_cells hk (kindsX hkind _) fun env' he s' x => ?_
  subst he
  refine ⟨(T.nolimit.keeps F.keep).keeps x.toInCall.keep, codeAny_func ?_⟩
  obtain ⟨h₁, tk, rfl, _⟩ := x.done
  have hk₁ := x.toInCall.keep
  obtain ⟨cells, NC, Y⟩ := Cl.news (h₀ := s.heap) (Nat.le_refl _) fun n c hm => ⟨x.cell n c (lookup_of_mem_nodup (cellsFrom_names scope.names 0 (s.heap.objs.size + 1) [] [] rfl ▸ hnd) hm), x.above n c hm⟩
  have kp : Keeps (need.map (·.1)) s.heap (hideAll s.heap (need.map (·.1))) := fun b o e n => hideAll_get _ e n
  refine wpAny_mono (h _ base p loose mean mg mb (hideAll s.heap (need.map (·.1))) s.heap.objs.size h₁ tk cells kp (fun b o e => of_hideAll _ e) st (fun b o e => Heap.lt_size e) ⟨x.toInCall.ns, fun b o e => hk₁ b o (of_hideAll _ e), Nat.le_of_eq (hideAll_size _ _)⟩
    (fun p hp => ?_) Y BG (X.keeps fun b o e => st b o e) (T.keeps fun b o e => st b o e) (fun p hp => Heap.lt_size (N p hp).1)) (fun fl s' hl => ?_) fun _ _ y => y.elim
  · rcases List.mem_append.mp hp with hp | hp
    · refine ⟨(NC p hp).1, (NC p hp).2.1, ?_⟩
      cases q : (hideAll s.heap (need.map (·.1))).get? p.1 with
      | none => rfl
      | some o => have := of_hideAll _ q; rw [(NC p hp).2.2] at this; cases this
    · exact ⟨hk₁ _ _ (N p hp).1, Nat.ne_of_lt (Heap.lt_size (N p hp).1), hideAll_none _ (List.mem_map_of_mem hp)⟩
  · obtain ⟨L', m', F', k⟩ := hl
    obtain ⟨oL, es, ep, hL, hLd, hLk, hLf⟩ := FG.ns
    exact k ⟨⟨oL, es, ep, F'.keep L oL hL, hLd, hLk, hLf⟩, fun b o e => F'.keep b o (st b o e), F.above⟩ fun b o e n => F'.keep b o (kp b o e n)
/-- the least free one: the list that the comprehension makes -/
theorem fold_filter (p : Int → Bool) : ∀ (l acc : List Int), l.foldl (fun l' k' => if p k' = true then l' else if p k' = false then l' ++ [k'] else l') acc = acc ++ l.filter fun k => !p k
  | [], acc => by simp
  | k :: r, acc => by
    rw [List.foldl_cons, fold_filter p r]
    cases h : p k <;> simp [h]
theorem pigeon : ∀ (n : Nat) (ns : List Int), (∀ k : Int, 1 ≤ k → k ≤ n → k ∈ ns) → n ≤ ns.length
  | 0, _, _ => Nat.zero_le _
  | n + 1, ns, h => by
    have h1 : ((n + 1 : Nat) : Int) ∈ ns := h _ (by omega) (by omega)
    have h2 := pigeon n (ns.erase ((n + 1 : Nat) : Int)) fun k a b => (List.mem_erase_of_ne (by omega)).mpr (h k a (by omega))
    rw [List.length_erase_of_mem h1] at h2
    have := List.length_pos_of_mem h1
    omega
theorem free_spec (ns : List Int) :
    0 < (List.foldl (fun l' k' => if (ns.any fun x => x == k') = true then l' else if (ns.any fun x => x == k') = false then l' ++ [k'] else l') [] (rangeKs 1 ((ns.length : Int) + 2 - 1).toNat)).length ∧
    ∀ a : Int, a ∈ (List.foldl (fun l' k' => if (ns.any fun x => x == k') = true then l' else if (ns.any fun x => x == k') = false then l' ++ [k'] else l') [] (rangeKs 1 ((ns.length : Int) + 2 - 1).toNat)) ↔ 1 ≤ a ∧ a ≤ ns.length + 1 ∧ a ∉ ns := by
  rw [fold_filter (fun k' => ns.any fun x => x == k')]
  have mem : ∀ a : Int, a ∈ ([] ++ (rangeKs 1 ((ns.length : Int) + 2 - 1).toNat).filter fun k => !(ns.any fun x => x == k)) ↔ 1 ≤ a ∧ a ≤ ns.length + 1 ∧ a ∉ ns := by
    intro a
    simp only [List.nil_append, List.mem_filter, rangeKs, List.mem_map, List.mem_range, Bool.not_eq_true', List.any_eq_false, beq_iff_eq]
    constructor
    · rintro ⟨⟨i, hi, rfl⟩, h⟩
      exact ⟨by omega, by omega, fun hm => h _ hm rfl⟩
    · rintro ⟨h1, h2, h3⟩
      exact ⟨⟨(a - 1).toNat, by omega, by omega⟩, fun x hx e => h3 (e ▸ hx)⟩
  refine ⟨?_, mem⟩
  false_or_by_contra
  rename_i hc
  have hnil := List.eq_nil_of_length_eq_zero (Nat.eq_zero_of_not_pos hc)
  have := pigeon (ns.length + 1) ns fun k a b => by
    false_or_by_contra
    rename_i hk
    have := (mem k).mpr ⟨a, by omega, hk⟩
    rw [hnil] at this
    cases this
  omega
/-- what _law_due tells -/
def DueIs (ns : List Int) (v : Int) : Prop :=
  (ns = [] ∧ v = 1) ∨ ∃ M, M ∈ ns ∧ (∀ a : Int, a ∈ ns → a ≤ M) ∧ ((M < maxInt ∧ v = M + 1) ∨ (¬ M < maxInt ∧ 1 ≤ v ∧ v ≤ ns.length + 1 ∧ v ∉ ns ∧ ∀ a : Int, 1 ≤ a → a ≤ ns.length + 1 → a ∉ ns → v ≤ a))
theorem due_spec {rl n : Nat} {vs : List Value} {ns : List Int}
    (W : Site w h₀ outer cs) (F : Fr h₀ L s.heap m) (hd : dp + 3 < recursionLimit) (hu : un + 200 < cLine)
    (N : News h₀ L s.heap [(rl, lst vs n)]) (hi : IntsAre vs ns) (hn : ns.length ≤ 100)
    (h : ∀ v tv h' tk', DueIs ns v → Fr h₀ L h' m → Keeps [] s.heap h' → Q (.int v tv) { s with heap := h', toks := tk' })
    : wpAny (model prog w) (ktrTop dp un gd cn cs L ca ccd cl outer) (call (.ref 347) [.ref rl]) Q E s := by
  k_dflt (refine' enterMC (binds := [(Str.ofString "rowids", .ref rl)]) W F N ?kd ?ko ?kc ?kb ?kk ?kn ?_ ?c1 ?c2 ?c3; (case ko => k_is); (case kc => k_is); (case kb => exact BindsTo.of_eq rfl); (case kk => exact rfl); (case kn => decide +kernel); (case c1 => exact rfl); (case c2 => exact rfl); (case c3 => exact rfl); (case kd => omega))
  intro A₀ base p loose mean mg mb g L' h₁ tk cells kp og st ltL F' N' Y' B' X' T' l1
  k_lt l1
  k_cells Y'
  simp only [List.cons_append, List.nil_append] at N'
  show wpAny _ _ _ _ _ _
  k_fold
  have hlen := hi.length
  by_cases h0 : ns = []
  · walk_at "m steps"
    show LeaveM _ _ _ _ _ _ _ _ _
    rename News g _ _ _ => N9
    rename Fr g _ _ _ => F9
    refine leaveM_ F9 fun FL KS => ?_
    have K' := KS.but (S := []) N N9 (by walk_at "m sub")
    exact h _ _ _ _ (.inl ⟨h0, rfl⟩) FL K'
  · have hpos : 0 < ns.length := List.length_pos_iff.mpr h0
    walk_at "m steps"
    · show LeaveM _ _ _ _ _ _ _ _ _
      rename_i M1 t9 k9 m1 u1 hlt h10 M2 t10 k10 F9 N9 m2 u2
      refine leaveM_ F9 fun FL KS => ?_
      have K' := KS.but (S := []) N N9 (by walk_at "m sub")
      refine h _ _ _ _ (.inr ⟨M2, m2, u2, .inl ⟨?_, rfl⟩⟩) FL K'
      have := u1 _ m2
      exact Int.lt_of_le_of_lt this hlt
    · rename ¬ ((_ : Int) < 2 ^ _ - 1) => hge
      rename ∀ a : Int, a ∈ ns → a ≤ _ => u1
      rename (_ : Int) ∈ ns => m1
      rename IntsAre _ (List.foldl _ _ _) => hI8
      obtain ⟨zs, ⟨hz0, hz⟩, hI9⟩ : ∃ zs : List Int, (0 < zs.length ∧ ∀ a : Int, a ∈ zs ↔ 1 ≤ a ∧ a ≤ ns.length + 1 ∧ a ∉ ns) ∧ IntsAre _ zs := ⟨_, free_spec ns, hI8⟩
      clear hI8
      walk_at "m steps"
      show LeaveM _ _ _ _ _ _ _ _ _
      rename_i h10 M2 t10 k10 F9 N9 m2 u2
      refine leaveM_ F9 fun FL KS => ?_
      have K' := KS.but (S := []) N N9 (by walk_at "m sub")
      obtain ⟨q1, q2, q3⟩ := (hz _).mp m2
      exact h _ _ _ _ (.inr ⟨_, m1, u1, .inr ⟨hge, q1, q2, q3, fun a a1 a2 a3 => u2 a ((hz a).mpr ⟨a1, a2, a3⟩)⟩⟩) FL K'
theorem off11 : True := by
  w_top off
  trivial
/-- dict(..) of a list of pairs (an int, True) -/
theorem dp_entry_loop : entryFor table "dict.update.loop" = some Builtin.«dict.update.loop» := entryFor_of_tree (by kernel_rfl)
theorem dp_plain_loop : plainId "dict.update.loop" = true := by decide +kernel
abbrev pairT (k : Int) (tk : Tok) (c : Nat) : Obj := { cls := .type "tuple", data := .seq #[.int k tk, .bool true] c }
abbrev putKeys (ks : List Int) (kvs : List (Int × Value)) : List (Int × Value) := ks.foldl (fun m k => stored m k (.bool true)) kvs
theorem dict_loop {A : Around} {d I : Addr} {h0 : Heap} {ys : List Value} {ks : List Int} {fp : List Addr} {St : Nat → Heap → Prop} {R : Result → Shared → Prop}
    (W : Walks prog w A.in1 I fp [I] ks.length (fun i v => ys[i]? = some v) St) (hdf : d ∉ fp) (hd0 : h0.get? d = none) (hI0 : h0.get? I = none) (hdI : d ≠ I)
    (items : ∀ i, i < ks.length → ∃ t tk c, ys[i]? = some (.ref t) ∧ h0.get? t = some (pairT (ks.getD i 0) tk c)) :
    ∀ (j i : Nat) (h : Heap) (tk : Nat) (kvs : List (Int × Value)), i + j = ks.length → St i h → (∀ b o, h0.get? b = some o → h.get? b = some o) → h.DictOf (intKind prog w) d kvs → kvs.length + j ≤ 1000 →
      (∀ h' tk', (∀ b o, h0.get? b = some o → h'.get? b = some o) → h'.DictOf (intKind prog w) d (putKeys (ks.drop i) kvs) → R (.ok (.ret .none)) { s with heap := h', toks := tk' }) →
      codeAny (model prog w) A (.builtin "dict.update.loop" ⟨[.ref d, .ref I, rawInt i, .none], []⟩) R { s with heap := h, toks := tk }
  | 0, i, h, tk, kvs, hij, st, hk, hm, hz, hR => by
    refine codeAny_builtin dp_entry_loop ?_
    rw [Around.under_plainId dp_plain_loop _]
    obtain rfl : i = ks.length := by omega
    refine wpAny_bind (W.done _ _ _ st fun h2 tk2 k2 => ?_)
    refine wpAny_bind (wpAny_pure ?_)
    refine wpAny_pure ?_
    have q := hR h2 tk2 (fun b o e => k2 b o (by intro hb; rw [List.mem_singleton.mp hb, hI0] at e; cases e) (hk b o e))
    rw [List.drop_length] at q
    refine q ?_
    obtain ⟨o, es, ep, ho, r⟩ := hm
    exact ⟨o, es, ep, k2 _ _ (by simpa using hdI) ho, r⟩
  | j + 1, i, h, tk, kvs, hij, st, hk, hm, hz, hR => by
    refine codeAny_builtin dp_entry_loop ?_
    rw [Around.under_plainId dp_plain_loop _]
    have hi : i < ks.length := by omega
    refine wpAny_bind (W.item i _ _ _ hi st fun v h2 tk2 hv st2 k2 => ?_)
    obtain ⟨t, tkk, c, e1, e2⟩ := items i hi
    rw [e1] at hv
    cases hv
    have ht : h2.get? t = some (pairT (ks.getD i 0) tkk c) := k2 _ _ (by intro hb; rw [List.mem_singleton.mp hb, hI0] at e2; cases e2) (hk _ _ e2)
    have hm2 : h2.DictOf (intKind prog w) d kvs := by
      obtain ⟨o, es, ep, ho, r⟩ := hm
      exact ⟨o, es, ep, k2 _ _ (by simpa using hdI) ho, r⟩
    refine wpAny_bind (wpAny_holding ?_)
    refine wpAny_bind (wpAny_tryCatch ?_)
    unfold Builtin.Dict.pairItems
    refine wpAny_bind (wpAny_typeOf (T := "tuple") ⟨_, ht, rfl⟩ ?_)
    rw [if_pos (by decide)]
    refine wpAny_bind (wpAny_seqItems ht rfl ?_)
    refine wpAny_pure ?_
    show wpAny _ _ (holding _ (dictSet d (.int (ks.getD i 0) tkk) (.bool true))) _ _ _
    refine wpAny_holding (wpAny_dictSet_pairs (hsz := by rw [sizeLine_eq]; omega) (intKind_is prog w _ _) hm2 fun h3 hm3 hs3 => ?_)
    refine wpAny_pure ⟨plainId_quiet dp_plain_loop _, ?_⟩
    refine dict_loop W hdf hd0 hI0 hdI items j (i + 1) h3 _ _ (by omega) (W.frame _ _ _ st2 fun b hb o e => (hs3.2 b fun q => hdf (q ▸ hb)).trans e) (fun b o e => ?_) hm3 ?_ ?_
    · refine (hs3.2 b fun q => ?_).trans (k2 b o (by intro hb; rw [List.mem_singleton.mp hb, hI0] at e; cases e) (hk b o e))
      rw [q, hd0] at e
      cases e
    · have := stored_length_le kvs (ks.getD i 0) (.bool true)
      omega
    · intro h' tk' k' m'
      refine hR h' tk' k' ?_
      have e3 : ks.drop i = ks.getD i 0 :: ks.drop (i + 1) := by
        rw [List.drop_eq_getElem_cons hi]
        simp [List.getD_eq_getElem?_getD, List.getElem?_eq_getElem, hi]
      rw [e3]
      exact m'
theorem dp_keys_miss : typeLookup (.type "list") (Str.ofString "keys") = pure none := am_miss_of_fast (by kernel_rfl)
theorem getq_keys {A : Around} {a : Addr} {xs : Array Value} {k : Nat} {Q : Option Value → Shared → Prop} (hx : s.heap.get? a = some { cls := .type "list", data := .seq xs k }) (hA : A.handled = none)
    (h : ∀ h' tk, (∀ b o, s.heap.get? b = some o → h'.get? b = some o) → Q none { s with heap := h', toks := tk }) : wpAny (model prog w) A (getAttr? (.ref a) "keys") Q E s := by
  obtain ⟨hp, g, d, tk, os⟩ := s
  have hT : ∀ tk', (⟨hp, g, d, tk', os⟩ : Shared).TypeIs (.ref a) "list" := fun _ => ⟨_, hx, rfl⟩
  have f1 := sub_AttributeError
  have f3 := F.slot_list_getattribute.lookup
  have f4 := F.slot_list_getattribute.bind (.ref a)
  have f5 := am_list_getattr_none
  unfold getAttr? getAttrBy? getAttrBy
  repeat (any_goals (first | assumption | exact hT _ | ((with_reducible show wpAny _ _ (call (Value.builtin "list.__getattribute__") _ _) _ _ _); refine call_meets F.slot_list_getattribute (hT _) am_entry_list_getattribute (F.args_list_getattribute_2 _ _) (meets_getattribute_miss_list a xs k #[] _ _ dp_keys_miss (by decide) (by rw [sizeLine_eq]; decide)) ⟨hx, hA, fun h' tk' e hx' => ?_⟩) | wp_step))
  obtain ⟨t', u', he⟩ := hx'.there
  show wpAny _ _ (getattributeRaised _ _ _ _ _ _ _) _ _ _
  unfold getattributeRaised
  repeat (any_goals (first | assumption | wp_step))
  exact h _ _ hx'.keeps
theorem dict_pairs {A : Around} {l : Addr} {ys : List Value} {ks : List Int} {c : Nat} (hh : A.handled = none) (hl : s.heap.get? l = some { cls := .type "list", data := .seq ys.toArray c }) (hlen : ys.length = ks.length)
    (items : ∀ i, i < ks.length → ∃ t tk c, ys[i]? = some (.ref t) ∧ s.heap.get? t = some (pairT (ks.getD i 0) tk c)) (hz : ks.length ≤ 900)
    (h : ∀ h' tk', (∀ b o, s.heap.get? b = some o → h'.get? b = some o) → h'.DictOf (intKind prog w) s.heap.objs.size (putKeys ks []) → Q (.ref s.heap.objs.size) { s with heap := h', toks := tk' }) :
    wpAny (model prog w) A (call (.type "dict") [.ref l]) Q E s := by
  refine callType_codes (Q₁ := fun obj s₁ => obj = .ref s.heap.objs.size ∧ s₁ = { s with heap := s.heap.push { cls := .type "dict", data := .dict #[] } }) F.kt_called_dict (F.kt_typeCall_dict_1 _) F.entry_dict_init (kt_code_dict_new _ ⟨rfl, rfl⟩) ?_
  rintro obj s₁ ⟨rfl, rfl⟩
  have hnew : (s.heap.push { cls := .type "dict", data := .dict #[] }).DictOf (intKind prog w) s.heap.objs.size [] := Heap.DictOf.new s.heap
  refine ⟨hnew.typeIs, F.args_dict_init_2 _ _, ?_⟩
  unfold Builtin.«dict.__init__»
  refine wpAny_bind ?_
  unfold Builtin.Dict.selfAndRest
  refine wpAny_bind (wpAny_notOrdered_dict hnew.typeIs ?_)
  show wpAny _ _ (pure (s.heap.objs.size, [Value.ref l])) _ _ _
  refine wpAny_pure ?_
  show wpAny _ _ (Builtin.Dict.updateFrom "dict.__init__" s.heap.objs.size (.ref l) [] .none) _ _ _
  unfold Builtin.Dict.updateFrom
  have hl1 : (s.heap.push { cls := .type "dict", data := .dict #[] }).get? l = some { cls := .type "list", data := .seq ys.toArray c } := Heap.get?_push_of_some _ hl
  refine wpAny_bind (wpAny_typeOf (T := "list") ⟨_, hl1, rfl⟩ ?_)
  rw [if_pos (by decide)]
  refine wpAny_bind (getq_keys hl1 hh fun h2 tk2 k2 => ?_)
  rw [if_pos (show (none : Option Value).isNone = true from rfl)]
  refine wpAny_bind (wpAny_rule ?_)
  have hl2 := k2 _ _ hl1
  refine wpAny_bind (wpAny_pyIter_list (items := ys.toArray) ⟨_, hl2, rfl, _, rfl⟩ ?_)
  have up : ∀ b o, s.heap.get? b = some o → h2.get? b = some o := fun b o e => k2 _ _ (Heap.get?_push_of_some _ e)
  obtain ⟨od, hd1, hd2⟩ := Heap.dictOf_iff.mp hnew
  have hd3 := k2 _ _ hd1
  have none0 : ∀ a, s.heap.objs.size ≤ a → s.heap.get? a = none := fun a ha => by
    cases e : s.heap.get? a with
    | none => rfl
    | some o' => exact absurd (Heap.lt_size e) (Nat.not_lt.mpr ha)
  have hlt : s.heap.objs.size < h2.objs.size := Heap.lt_size hd3
  have hlI : l ≠ h2.objs.size := Nat.ne_of_lt (Heap.lt_size hl2)
  refine wpAny_pure ⟨plainId_quiet dp_plain_loop _, ?_⟩
  have W := Walks.list (prog := prog) (w := w) (A := A.in1.in1) hh h2.objs.size l hlI ys.toArray
  have e1 : ys.toArray.size = ks.length := by simp [hlen]
  rw [e1] at W
  have W' : Walks prog w A.in1.in1 h2.objs.size [h2.objs.size, l] [h2.objs.size] ks.length (fun i v => ys[i]? = some v) (fun i h => h.IsListIter h2.objs.size l i ∧ h.IsList l ys.toArray) := by
    simpa using W
  refine dict_loop (A := A.in1) (h0 := s.heap) W' ?_ (none0 _ (Nat.le_refl _)) (none0 _ (Nat.le_of_lt hlt)) (Nat.ne_of_lt hlt) items ks.length 0 _ _ [] (by omega) ?_ ?_ ?_ (by simp; omega) ?_
  · intro hm
    rcases List.mem_cons.mp hm with e | hm
    · exact absurd hlt (by rw [← e]; exact Nat.lt_irrefl _)
    · have e : s.heap.objs.size = l := List.mem_singleton.mp hm
      exact absurd (Heap.lt_size hl) (by rw [← e]; exact Nat.lt_irrefl _)
  · exact ⟨⟨_, Heap.get?_push_size _ rfl, rfl, rfl⟩, ⟨_, Heap.get?_push_of_some _ hl2, rfl, _, rfl⟩⟩
  · exact fun b o e => Heap.get?_push_of_some _ (up b o e)
  · exact Heap.dictOf_iff.mpr ⟨od, Heap.get?_push_of_some _ hd3, hd2⟩
  · intro h' tk' k' m'
    exact ⟨rfl, h h' tk' k' (by simpa using m')⟩
theorem compEnd_mono {h₀ : Heap} {L : Addr} {m : Str → Option Value} {s₁ : Shared} {I : Addr} {oI : Obj} {C : Addr} {oC : Obj} {D : Addr} {oD : Obj} {S : List (Addr × Obj) → Prop} {rest rest' : Value → List (Addr × Obj) → Prop} {y : Value} {s₂ : Shared}
    (h : LCg.CompEnd h₀ L m s₁ I oI C oC D oD S rest y s₂) (hr : ∀ news, rest y news → rest' y news) : LCg.CompEnd h₀ L m s₁ I oI C oC D oD S rest' y s₂ := by
  obtain ⟨h', tk, news', e, F, N, o, hS, r⟩ := h
  exact ⟨h', tk, news', e, F, N, o, hS, hr _ r⟩
/-- the turns of a comprehension by what holds between them -/
theorem compRest_ind {A : Around} {h₀ : Heap} {L : Addr} {m : Str → Option Value} {env : Env} {elt : Expr} {x : Str} {scope : Scope} {cl : List (Str × Addr)} {S : List (Addr × Obj) → Prop} {P : Nat → Value → Prop} {Fin : List Value → List (Addr × Obj) → Prop}
    (J : Nat → List Value → List (Addr × Obj) → Prop) (n : Nat)
    (turn : ∀ i ys news v I oI C oC D m₂ h tk (E' : Value → Shared → Prop), i < n → J i ys news → P i v → LCg.NsObj oC m₂ → m₂ x = some v → Fr h₀ L h m → News h₀ L h ((I, oI) :: (C, oC) :: (D, LCg.lst ys) :: news) → LCg.Off3 I C D news → ((@Ne Nat I C) ∧ (@Ne Nat I D) ∧ (@Ne Nat C D)) →
      wpAny (model prog w) A (eval elt (compEnvC scope cl C env)) (LCg.CompEnd h₀ L m { s with heap := h, toks := tk } I oI C oC D (LCg.lst ys) S (fun y news' => J (i + 1) (ys ++ [y]) news')) E' { s with heap := h, toks := tk })
    (fin : ∀ ys news, J n ys news → Fin ys news) :
    ∀ (k i : Nat) ys news, i + k = n → J i ys news → LCg.CompRest prog w A h₀ L m env elt x scope cl s S P Fin k i ys news
  | 0, i, ys, news, e, j => LCg.CompRest.zero (fin _ _ ((show i = n by omega) ▸ j))
  | k + 1, i, ys, news, e, j => LCg.CompRest.succ fun v I oI C oC D m₂ h tk E' hp hn hx F N o ne =>
    wpAny_mono (turn i ys news v I oI C oC D m₂ h tk E' (by omega) j hp hn hx F N o ne)
      (fun y s₂ q => compEnd_mono q fun news' j' => compRest_ind J n turn fin k (i + 1) _ _ (by omega) j') fun _ _ x => x
theorem Fr.keepsBut {h₀ h h' : Heap} {L : Addr} {m : Str → Option Value} {S : List Addr} (F : Fr h₀ L h m) (k : Keeps S h h') (hL : L ∉ S) (h0 : ∀ a ∈ S, h₀.get? a = none) : Fr h₀ L h' m := by
  obtain ⟨oL, a1, a2, hLo, a3⟩ := F.ns
  exact ⟨⟨oL, a1, a2, k _ _ hLo hL, a3⟩, (fun b o e => k _ _ (F.keep b o e) fun q => by rw [h0 b q] at e; cases e), F.above⟩
theorem ints_of_keys : ∀ {vs : List Value} {kvs : List (Int × Value)}, vs.length = kvs.length → (∀ (j : Nat) (v : Value), vs[j]? = some v → ∃ k x, kvs[j]? = some (k, x) ∧ (intKind prog w).is k v = true) → IntsAre vs (kvs.map (·.1))
  | [], [], _, _ => .nil
  | [], _ :: _, h, _ => by cases h
  | _ :: _, [], h, _ => by cases h
  | v :: vs, (k, x) :: kvs, h, hv => by
    obtain ⟨k', x', e, hk⟩ := hv 0 v rfl
    cases e
    obtain ⟨t, rfl⟩ := PyProof.V.Flat.int_inv (kdl_flat_int hk)
    exact .cons _ _ (ints_of_keys (by simpa using h) fun j u hu => hv (j + 1) u hu)
theorem lt_of_le_nodup : ∀ {ns : List Int}, ns.Pairwise (· ≤ ·) → ns.Nodup → ns.Pairwise (· < ·)
  | [], _, _ => .nil
  | a :: r, h1, h2 => by
    obtain ⟨p1, p2⟩ := List.pairwise_cons.mp h1
    obtain ⟨q1, q2⟩ := List.nodup_cons.mp h2
    refine .cons (fun b hb => ?_) (lt_of_le_nodup p2 q2)
    have := p1 b hb
    have : a ≠ b := fun e => q1 (e ▸ hb)
    omega
theorem sorted_dict {A : Around} {h₀ : Heap} {L d : Addr} {m : Str → Option Value} {news : List (Addr × Obj)} {o : Obj} {kvs : List (Int × Value)} (hh : A.handled = none) (F : Fr h₀ L s.heap m) (N : News h₀ L s.heap news) (hm : (d, o) ∈ news)
    (hd : o.IsDictOf (intKind prog w) kvs) (lo : (d == sysModules) = false) (hz : kvs.length < 64)
    (h : ∀ (D : Addr) vs ns h' tk' c, Fr h₀ L h' m → News h₀ L h' ((D, lst vs c) :: news) → (∀ q ∈ news, q.1 < D) → IntsAre vs ns → ns.Perm (kvs.map (·.1)) → ns.Pairwise (· < ·) → Q (.ref D) { s with heap := h', toks := tk' }) :
    wpAny (model prog w) A (call (.builtin "sorted") [.ref d]) Q E s := by
  have hD : s.heap.DictOf (intKind prog w) d kvs := Heap.dictOf_iff.mpr ⟨o, (N _ hm).1, hd⟩
  have hnd : (kvs.map (·.1)).Nodup := let ⟨_, _, _, _, _, _, _, _, hn⟩ := hD; hn
  obtain ⟨ep, hat⟩ := hD.dictAt
  refine kdu_sorted (kdl_dict (knd := intKind prog w) (kvs := kvs) (ep := ep) lo) hh F N hat (by rw [sizeLine_eq]; omega) fun D h' tk vs F' N' l1 hl hv => ?_
  have hi := ints_of_keys hl hv
  have z := N' (D, lst vs 0) (.head _)
  refine wpAny_call_entry PyProof.Rows.slot_list_sort ⟨_, z.1, rfl⟩ PyProof.Rows.entry_list_sort (list_sort_tree (n := 0) (vs := vs) z.1 hi (by omega) fun out ns' hI hp hP => ⟨.none, rfl, ?_⟩) (PyProof.Rows.args_list_sort _)
  obtain ⟨e, he⟩ := sortedHeap_at (out := out) (n := 0) (vs := vs) z.1
  have k : Keeps [D] h' (sortedHeap h' D vs out) := fun b ob q n => (sortedHeap_old (fun x => n (by rw [x]; exact .head _)) (Heap.lt_size q)).trans q
  have he' : (sortedHeap h' D vs out).get? D = some (lst out.toList e) := by
    rw [he]
  exact h D out.toList ns' _ _ e (Fr.keepsBut F' k (by simpa using Ne.symm z.2.1) (by simpa using z.2.2)) (News.put N' k he' (.head fun p hp => Nat.ne_of_lt (l1 p hp))) l1 hI hp (lt_of_le_nodup hP (hp.nodup_iff.mpr hnd))
theorem off12 : True := by
  w_top off
  trivial
/-- a loop over a range: what stands on the ledger (Led), what the names hold (ps), what is known (P) -/
def RlEnd {σ : Type} (h₀ : Heap) (L : Addr) (x : Str) (Led : σ → List (Addr × Obj)) (ps : σ → List (Str × Value)) (stored : List Str) (m₀ : Str → Option Value) (P : Nat → σ → Prop) (i : Nat) (I : Addr) (oI : Obj) (s₁ s₂ : Shared) : Prop :=
  ∃ (c' : σ) (h' : Heap) (tk : Nat) (m' : Str → Option Value) (news' : List (Addr × Obj)), s₂ = { s₁ with heap := h', toks := tk } ∧ Fr h₀ L h' m' ∧ News h₀ L h' news' ∧ (I, oI) ∈ news' ∧ (∀ p ∈ Led c', p ∈ news') ∧ (∀ p ∈ Led c', p.1 ≠ I) ∧ (∀ p ∈ ps c', m' p.1 = some p.2) ∧
    (∀ z, z ≠ x → (∀ p ∈ ps c', z ≠ p.1) → stored.contains z = false → m' z = m₀ z) ∧ P (i + 1) c'
def RlPost {σ : Type} (h₀ : Heap) (L : Addr) (x : Str) (Led : σ → List (Addr × Obj)) (ps : σ → List (Str × Value)) (stored : List Str) (m₀ : Str → Option Value) (P : Nat → σ → Prop) (i : Nat) (I : Addr) (oI : Obj) (s₁ : Shared) (Q : Flow → Shared → Prop) (f : Flow) (s₂ : Shared) : Prop :=
  match f with
  | .ret v => Q (.ret v) s₂
  | .brk => Q .next s₂
  | _ => RlEnd h₀ L x Led ps stored m₀ P i I oI s₁ s₂
theorem rl_end {σ : Type} {h₀ : Heap} {L : Addr} {x : Str} {Led : σ → List (Addr × Obj)} {ps : σ → List (Str × Value)} {stored : List Str} {m₀ m' : Str → Option Value} {P : Nat → σ → Prop} {i : Nat} {I : Addr} {oI : Obj} {s₁ : Shared} {h' : Heap} {tk : Nat} {news' : List (Addr × Obj)} (c' : σ)
    (F : Fr h₀ L h' m') (N : News h₀ L h' news') (hI : (I, oI) ∈ news') (hn : ∀ p ∈ Led c', p ∈ news') (ho : ∀ p ∈ Led c', p.1 ≠ I) (hk : ∀ p ∈ ps c', m' p.1 = some p.2)
    (hr : ∀ z, z ≠ x → (∀ p ∈ ps c', z ≠ p.1) → stored.contains z = false → m' z = m₀ z) (hp : P (i + 1) c') :
    RlEnd h₀ L x Led ps stored m₀ P i I oI s₁ { s₁ with heap := h', toks := tk } := ⟨c', h', tk, m', news', rfl, F, N, hI, hn, ho, hk, hr, hp⟩
theorem range_loop {σ : Type} {A : Around} {h₀ : Heap} {env : Env} {x : Str} {body : List Stmt} {Q : Flow → Shared → Prop} {r : Addr} {a₀ b₀ : Int} {t₀ u₀ v₀ : Tok} {n : Nat} {m₀ : Str → Option Value}
    (Led : σ → List (Addr × Obj)) (ps : σ → List (Str × Value)) (stored : List Str) (P : Nat → σ → Prop) (c₀ : σ)
    (hh : A.handled = none) (hr : IsRange s.heap r a₀ b₀ 1 t₀ u₀ v₀) (hsmall : Builtin.Range.small a₀ b₀ 1 = true) (hn : Builtin.Range.rangeSize a₀ b₀ 1 = (n : Int)) (F : Fr h₀ env.locals s.heap m₀) (N : News h₀ env.locals s.heap (Led c₀)) (hk : ∀ p ∈ ps c₀, m₀ p.1 = some p.2) (hp : P 0 c₀)
    (turn : ∀ (i : Nat) (c : σ) (k : Int) t (u : Str → Option Value) h tk I oI, i < n → k = a₀ + (i : Int) → P i c → (∀ p ∈ Led c, p.1 ≠ I) → oI.cls ≠ .type "tuple" →
      Fr h₀ env.locals h (fun y => if y = x then some (.int k t) else kstB (fun z => if stored.contains z then u z else m₀ z) (ps c) y) → News h₀ env.locals h ((I, oI) :: Led c) →
      wpAny (model prog w) A (execs body env) (RlPost h₀ env.locals x Led ps stored m₀ P i I oI { s with heap := h, toks := tk } Q) E { s with heap := h, toks := tk })
    (done : ∀ (c : σ) (u : Str → Option Value) h tk, P n c → Fr h₀ env.locals h (fun y => if y = x then u y else kstB (fun z => if stored.contains z then u z else m₀ z) (ps c) y) → News h₀ env.locals h (Led c) → Q .next { s with heap := h, toks := tk }) :
    wpAny (model prog w) A (pyIter (.ref r)) (fun it s₂ => LoopAtV prog w A h₀ env x body Q E it s₂) E s := by
  refine wpAny_pyIter_range hr hsmall ?_
  have W : Walks prog w A s.heap.objs.size [s.heap.objs.size] [s.heap.objs.size] n (fun i v => i < n ∧ ∃ t, v = .int (a₀ + i * 1) t)
      (fun i h => IsRangeIter h s.heap.objs.size (a₀ + (i : Nat) * 1) ((n : Int) - (i : Nat)) 1) := (Walks.range hh _ a₀ 1 n).bound
  have frOf : ∀ {h : Heap} {c : σ} {m₁ : Str → Option Value} (v? : Option Value), (∀ p ∈ ps c, m₁ p.1 = some p.2) → (∀ z, z ≠ x → (∀ p ∈ ps c, z ≠ p.1) → stored.contains z = false → m₁ z = m₀ z) → ∀ y, y ≠ x →
      kstB (fun z => if stored.contains z then m₁ z else m₀ z) (ps c) y = m₁ y := by
    intro h c m₁ _ h1 h2 y hy
    refine kstB_eq h1 fun hn => ?_
    show (if stored.contains y = true then m₁ y else m₀ y) = m₁ y
    cases h3 : stored.contains y with
    | true => simp
    | false => simp only [Bool.false_eq_true, if_false]; exact (h2 y hy hn h3).symm
  refine ⟨s.heap.objs.size, _, _, n, _, _, m₀, Led c₀, (fun i m nx => ∃ c : σ, nx = Led c ∧ P i c ∧ (∀ p ∈ ps c, m p.1 = some p.2) ∧ ∀ z, z ≠ x → (∀ p ∈ ps c, z ≠ p.1) → stored.contains z = false → m z = m₀ z), rfl, W, ?_, ?_, ?_, (by show IsRangeIter _ _ _ _ _; rw [hn]; simpa using Heap.get?_push_size _ rfl), F.push _,
    (fun p hp => ⟨Heap.get?_push_of_some _ (N p hp).1, (N p hp).2⟩), ⟨c₀, rfl, hp, hk, fun _ _ _ _ => rfl⟩, ?_, ?_⟩
  · intro hm
    exact absurd F.ns.lt ((List.mem_singleton.mp hm) ▸ Nat.lt_irrefl _)
  · intro b hb
    rw [List.mem_singleton.mp hb]
    exact next_is_new F
  · intro p hp hI
    exact absurd (Heap.lt_size (N p hp).1) ((List.mem_singleton.mp hI) ▸ Nat.lt_irrefl _)
  · rintro i v m₁ news₁ s₁ own ⟨hh', tk', rfl⟩ hin hP ⟨c, rfl, hPc, h1, h2⟩ hoff hown hat hmem hst F₁ N₁
    obtain ⟨_, t, rfl⟩ := hP
    obtain ⟨oI, hI, hIc⟩ : ∃ oI, hh'.get? s.heap.objs.size = some oI ∧ oI.cls ≠ .type "tuple" := ⟨_, hst, type_ne (by decide)⟩
    have hIm := hmem s.heap.objs.size (.head _) (next_is_new F) _ hI
    have hone : ∀ p ∈ own, p = (s.heap.objs.size, oI) := fun p hp => by
      have e1 := List.mem_singleton.mp (hown p hp)
      have e2 := hat p hp
      rw [e1] at e2
      exact Prod.ext e1 (Option.some.inj (e2.symm.trans hI))
    have N₂ : News h₀ env.locals hh' ((s.heap.objs.size, oI) :: Led c) := fun p hp => by
      rcases List.mem_cons.mp hp with rfl | hp
      · exact N₁ _ (List.mem_append_left _ hIm)
      · exact N₁ _ (List.mem_append_right _ hp)
    have e : (fun y => if y = x then some (Value.int (a₀ + (i : Nat) * 1) t) else m₁ y) = fun y => if y = x then some (Value.int (a₀ + (i : Nat) * 1) t) else kstB (fun z => if stored.contains z then m₁ z else m₀ z) (ps c) y := by
      funext y
      by_cases hy : y = x
      · simp [hy]
      · simp only [if_neg hy]
        exact (frOf (h := hh') none h1 h2 y hy).symm
    rw [e] at F₁
    refine wpAny_mono (turn i c _ t m₁ hh' tk' s.heap.objs.size oI hin (by rw [Int.mul_one]) hPc (fun p hp e => hoff p hp (e ▸ .head _)) hIc F₁ N₂) (fun f s₂ p => ?_) fun _ _ e => e
    have fin : RlEnd h₀ env.locals x Led ps stored m₀ P i s.heap.objs.size oI { s with heap := hh', toks := tk' } s₂ →
        LoopStepU h₀ env.locals [s.heap.objs.size] own (fun m nx => ∃ c : σ, nx = Led c ∧ P (i + 1) c ∧ (∀ p ∈ ps c, m p.1 = some p.2) ∧ ∀ z, z ≠ x → (∀ p ∈ ps c, z ≠ p.1) → stored.contains z = false → m z = m₀ z) { s with heap := hh', toks := tk' } .next s₂ := by
      rintro ⟨c', h', tk, m', news', e, F', N', hI', hn', ho', hk', hr', hp'⟩
      refine ⟨rfl, h', tk, m', Led c', e, F', fun p hp => ?_, fun p hp hq => ho' p hp (List.mem_singleton.mp hq), c', rfl, hp', hk', hr'⟩
      rcases List.mem_append.mp hp with hp | hp
      · rw [hone p hp]; exact N' _ hI'
      · exact N' p (hn' p hp)
    cases f with
    | ret v => exact .ret p
    | brk => exact .brk p
    | next => exact .next (fin p)
    | cont => exact .cont (fin p)
  · rintro h' tk m' news' F' N' _ ⟨c, rfl, hPc, h1, h2⟩
    refine done c m' h' tk hPc ?_ N'
    have e : (fun y => if y = x then m' y else kstB (fun z => if stored.contains z then m' z else m₀ z) (ps c) y) = m' := by
      funext y
      by_cases hy : y = x
      · simp [hy]
      · simp only [if_neg hy]
        exact frOf (h := h') none h1 h2 y hy
    rw [e]; exact F'
theorem off13 : True := by
  w_top off
  trivial
local macro_rules | `(tactic| walk_at "m stepsC") => `(tactic| repeat' ((fail_if_success (with_reducible show wpAny _ _ (eval (Expr.ListComp _ _ _ _) _) _ _ _)); (fail_if_success (with_reducible show LCg.CompSrc _ _ _ _ _ _ _ _ _ _ _ _ _ _)); (fail_if_success (with_reducible show wpAny _ _ (pyIter _) _ _ _)); (fail_if_success (with_reducible show wpAny _ _ (exec (Stmt.While _ _ _ _) _) _ _ _)); (fail_if_success (with_reducible show wpAny _ _ (exec (Stmt.For _ _ _ _ _) _) _ _ _)); (fail_if_success (with_reducible show KswEnd _ _ _ _ _ _ _ _ _ _ _ _)); first | (k_unfold; (try dsimp only)) | (dsimp only; walk1) | walk1))
local macro_rules | `(tactic| walk_at "setItem ref int") => `(tactic| (k_here; (with_reducible show wpAny _ _ (setItem (Value.ref _) (Value.int _ _) (Value.bool _)) _ _ _); k_dflt (refine' kda_set (knd := PySem.intKind _ _) ?F ?N ?U ?d (intKind_is _ _ _ _) ?z ?_; (case F => k_asm); (case N => k_asm); (case U => k_updF); (case d => assumption); (case z => (rw [sizeLine_eq]; omega))); intro h' o' F' N' hd'; (try dsimp only at N')))
/-- what the loop of _law_rowids turns -/
structure RiSt where
  kvs : List (Int × Value)
  od : Obj
  a : Int
  ta : Tok
  b : Int
  tb : Tok
  n : Nat
def KeysOk (kvs : List (Int × Value)) : Prop := ∀ p ∈ kvs, -(2 ^ 63) ≤ p.1 ∧ p.1 ≤ maxInt
theorem KeysOk.stored {kvs : List (Int × Value)} {k : Int} {v : Value} (h : KeysOk kvs) (h1 : -(2 ^ 63) ≤ k) (h2 : k ≤ maxInt) : KeysOk (PySem.stored kvs k v) := by
  intro p hp
  unfold PySem.stored at hp
  split at hp
  · obtain ⟨q, hq, rfl⟩ := List.mem_map.mp hp
    have := h q hq
    split <;> exact this
  · rcases List.mem_append.mp hp with hp | hp
    · exact h p hp
    · rw [List.mem_singleton.mp hp]
      exact ⟨h1, h2⟩
theorem KeysOk.putKeys : ∀ {ks : List Int} {kvs : List (Int × Value)}, KeysOk kvs → (∀ k ∈ ks, -(2 ^ 63) ≤ k ∧ k ≤ maxInt) → KeysOk (putKeys ks kvs)
  | [], _, h, _ => h
  | k :: r, _, h, hk => KeysOk.putKeys (ks := r) (h.stored (hk k (.head _)).1 (hk k (.head _)).2) fun q hq => hk q (.tail _ hq)
theorem putKeys_length : ∀ (ks : List Int) (kvs : List (Int × Value)), (putKeys ks kvs).length ≤ kvs.length + ks.length
  | [], _ => Nat.le_refl _
  | k :: r, kvs => by
    have := putKeys_length r (PySem.stored kvs k (.bool true))
    have := stored_length_le kvs k (.bool true)
    show (putKeys r (PySem.stored kvs k (.bool true))).length ≤ _
    simp only [List.length_cons]
    omega

set_option maxHeartbeats 8000000 in
theorem rowids_spec {src n : Nat} {a b : Int} {ta tb : Tok}
    (W : Site w h₀ outer cs) (F : Fr h₀ L s.heap m) (hd : dp + 10 < recursionLimit) (hu : un + 300 < cLine)
    (N : News h₀ L s.heap [(src, lst [.int a ta, .int b tb] n)])
    (ha : 0 ≤ a) (hb : 0 ≤ b) (hb2 : b < 2147483647)
    (h : ∀ (rl : Nat) vs ns c (a' b' : Int) ta' tb' n' h' tk', FreshAt s.heap rl → IntsAre vs ns → ns.Pairwise (· < ·) → ns.length ≤ 8 → (∀ k ∈ ns, -(2 ^ 63) ≤ k ∧ k ≤ maxInt) → 0 ≤ a' → 0 ≤ b' → b' < 2147483647 →
      Fr h₀ L h' m → Keeps [src] s.heap h' → h'.get? src = some (lst [.int a' ta', .int b' tb'] n') → h'.get? rl = some (lst vs c) → Q (.ref rl) { s with heap := h', toks := tk' })
    : wpAny (model prog w) (ktrTop dp un gd cn cs L ca ccd cl outer) (call (.ref 335) [.ref src]) Q E s := by
  refine' enterM (binds := [(Str.ofString "source", .ref src)]) W F N ?kd ?ko ?kc ?kb ?kl ?_ ?c1 ?c2 ?c3 ?c4
  walk_at "m enter"
  intro A₀ base p loose mean mg mb g L' h₁ kp og st ltL F' N' B' X' T'
  k_fold
  walk_at "m stepsC"
  rename Fr g _ _ _ => F1
  refine LCg.ListComp_U (F₀ := F1) (by rfl) (by decide) (by rfl) (by decide) (by rfl) ?_
  walk_at "m stepsC"
  rename_i d9 td9 a9 b9 ta9 tb9 n9 h9 tk9 hd0 hd1 ha9 hb9 hc9 F9 N9 h10 tk10 t1 u1 v1 hR F10 N10 kk
  refine LCg.CompSrc.range (n := d9.toNat) rfl F10 N10 hR (small_one (by omega) (by omega) (by omega) (by omega)) (by rw [rangeSize_one]; split <;> omega) (by rw [sizeLine_eq]; omega) ?_
  intro g9
  refine compRest_ind (fun i ys news => ∃ T, news = (src, lst [.int a9 ta9, .int b9 tb9] n9) :: T ∧ ys.length = i ∧ ∀ j, j < i → ∃ t tk, ys[j]? = some (.ref t) ∧ (t, pairT (1 + (j : Int)) tk 0) ∈ T) d9.toNat ?_ ?_ _ 0 [] _ (by omega) ⟨[], rfl, rfl, fun j hj => absurd hj (Nat.not_lt_zero _)⟩
  · rintro i ys news v I oI C oC D m2 h2 tk2 E2 hi ⟨T, rfl, hyl, hT⟩ ⟨tv, rfl⟩ hC hx F2 N2 ⟨⟨o1, o2, o3⟩, oT⟩ ⟨n1, n2, n3⟩
    walk_at "m stepsC"
    rename_i D8 h8 F8 N8 l8
    obtain ⟨q1, q2, q3, q4, q5⟩ := l8
    refine LCg.CompEnd.intro F8 N8 ((src, lst [.int a9 ta9, .int b9 tb9] n9) :: (D8, pairT (1 + (i : Int)) tv 0) :: T) ?_ ⟨⟨o1, o2, o3⟩, ⟨⟨Nat.ne_of_gt q1, Nat.ne_of_gt q2, Nat.ne_of_gt q3⟩, oT⟩⟩ trivial ⟨(D8, pairT (1 + (i : Int)) tv 0) :: T, rfl, by simp [hyl], fun j hj => ?_⟩
    · intro p hp
      simp only [List.mem_cons] at hp ⊢
      rcases hp with h | h | h | h | h | h
      all_goals simp only [h, true_or, or_true]
    · by_cases he : j = i
      · subst he
        exact ⟨D8, tv, by rw [List.getElem?_append_right (by omega), hyl]; simp, .head _⟩
      · obtain ⟨t, tk, z1, z2⟩ := hT j (by omega)
        exact ⟨t, tk, by rw [List.getElem?_append_left (by omega)]; exact z1, .tail _ z2⟩
  · rintro ys news ⟨T, rfl, hyl, hT⟩
    unfold LCg.FinE
    intro D h2 tk2 F2 N2 ⟨o1, oT⟩
    dsimp only
    walk_at "m stepsC"
    have hks : ((List.range d9.toNat).map fun (j : Nat) => 1 + (j : Int)).length = d9.toNat := by simp
    refine dict_pairs (ys := ys) (ks := (List.range d9.toNat).map fun (j : Nat) => 1 + (j : Int)) (c := ys.length) rfl (News.get N2 (.head _)) (by rw [hyl, hks]) (fun j hj => ?_) (by rw [hks]; omega) ?_
    · rw [hks] at hj
      obtain ⟨t, tk, z1, z2⟩ := hT j hj
      refine ⟨t, tk, 0, z1, ?_⟩
      have e9 : ((List.range d9.toNat).map fun (j : Nat) => 1 + (j : Int)).getD j 0 = 1 + (j : Int) := by
        simp [List.getD_eq_getElem?_getD, hj]
      rw [e9]
      exact (N2 _ (.tail _ (.tail _ z2))).1
    · intro h3 tk3 k3 hD3
      obtain ⟨od, hod, hdo⟩ := Heap.dictOf_iff.mp hD3
      have F3 := F2.keeps k3
      have fr3 : FreshAt h2 h2.objs.size := by
        unfold FreshAt
        cases e : h2.get? h2.objs.size with
        | none => rfl
        | some o => exact absurd (Heap.lt_size e) (Nat.lt_irrefl _)
      have lo3 := F2.notModules (modules_low T'.nolimit)
      have hsd : src ≠ h2.objs.size := Nat.ne_of_lt (Heap.lt_size (N2 _ (.tail _ (.head _))).1)
      have N3 : News g L' h3 [(h2.objs.size, od), (src, lst [.int a9 ta9, .int b9 tb9] n9)] := News.cat (FreshAt.news F2 fr3 hod) (News.sub (News.still N2 fun b o e _ => k3 b o e) fun p hp => (List.mem_singleton.mp hp) ▸ .tail _ (.head _))
      generalize h2.objs.size = dd at hod fr3 lo3 hsd N3
      walk_at "m stepsC"
      rename Fr g _ _ _ => F4
      rename News g _ _ _ => N4
      refine For_invV g (by rfl) (by rfl) ?_ (hE := PassesOwn.never)
      walk_at "m stepsC"
      rename_i d5 td5 a5 b5 ta5 tb5 n5 h5 tk5 hd5 hd6 ha5 hb5 hc5 F5 N5 h6 tk6 t6 u6 v6 hR6 F6 N6 kk6
      refine range_loop (σ := RiSt) (n := d5.toNat) (fun c => [(dd, c.od), (src, lst [.int c.a c.ta, .int c.b c.tb] c.n)]) (fun _ => []) [Str.ofString "number"]
        (fun i c => c.od.IsDictOf (intKind prog w) c.kvs ∧ c.kvs.length ≤ 3 + i ∧ KeysOk c.kvs ∧ 0 ≤ c.a ∧ 0 ≤ c.b ∧ c.b < 2147483647) ⟨_, od, a5, ta5, b5, tb5, n5⟩
        rfl hR6 (small_one (by omega) (by omega) (by omega) (by omega)) (by rw [rangeSize_one]; split <;> omega) F6 N6 (List.forall_mem_nil _) ⟨hdo, ?_, ?_, ha5, hb5, hc5⟩ ?_ ?_
      · have := putKeys_length ((List.range d9.toNat).map fun (j : Nat) => 1 + (j : Int)) []
        rw [hks] at this
        exact Nat.le_trans this (by simp only [List.length_nil]; omega)
      · refine KeysOk.putKeys (fun p hp => nomatch hp) fun k hk => ?_
        obtain ⟨j, hj, rfl⟩ := List.mem_map.mp hk
        have := List.mem_range.mp hj
        unfold maxInt
        omega
      · rintro i ⟨kvs, oc, a3, ta3, b3, tb3, n3⟩ k t u h7 tk7 I oI hi rfl ⟨hdo7, hl7, hK7, ha7, hb7, hc7⟩ hoff - F7 N7
        dsimp only at hdo7 hl7 hK7 ha7 hb7 hc7 F7 N7
        simp only [List.forall_mem_cons, List.not_mem_nil, false_implies, implies_true, and_true] at hoff
        obtain ⟨o7, o8⟩ := hoff
        replace o7 : @Ne Nat dd I := o7
        replace o8 : @Ne Nat src I := o8
        replace hsd : @Ne Nat src dd := hsd
        replace F7 : Fr g L' _ _ := F7
        replace N7 : News g L' _ _ := N7
        walk_at "m stepsC"
        dsimp only [RlPost]
        rename_i v8 tv8 a8 b8 ta8 tb8 n8 h8 tk8 hv8 ha8 hb8 hc8 h80 F80 N80 tk81 h81 o8o F8 N8 hd8
        have hvb : -(2 ^ 63) ≤ v8 ∧ v8 ≤ maxInt := by
          have e1 : (2 : Int) ^ Int.toNat 63 = 9223372036854775808 := by decide +kernel
          have e2 : (2 : Int) ^ Int.toNat 62 = 4611686018427387904 := by decide +kernel
          rw [e1, e2] at hv8
          simp only [List.mem_cons, List.not_mem_nil, or_false] at hv8
          unfold maxInt
          omega
        refine rl_end ⟨_, o8o, a8, ta8, b8, tb8, n8⟩ F8 N8 (by k_mem) (List.forall_mem_cons.mpr ⟨by k_mem, List.forall_mem_cons.mpr ⟨by k_mem, List.forall_mem_nil _⟩⟩) (List.forall_mem_cons.mpr ⟨o7, List.forall_mem_cons.mpr ⟨o8, List.forall_mem_nil _⟩⟩) (List.forall_mem_nil _) ?_ ⟨hd8, ?_, hK7.stored hvb.1 hvb.2, ha8, hb8, hc8⟩
        · intro z h1 _ h3
          simp only [List.contains_cons, List.contains_nil, Bool.or_false, beq_eq_false_iff_ne, ne_eq] at h3
          simp [kstB, h1, h3]
        · exact Nat.le_trans (stored_length_le kvs v8 (.bool true)) (by omega)
      · rintro ⟨kvs, oc, a3, ta3, b3, tb3, n3⟩ u h7 tk7 ⟨hdo7, hl7, hK7, ha7, hb7, hc7⟩ F7 N7
        dsimp only at hdo7 hl7 hK7 ha7 hb7 hc7 F7 N7
        dsimp only
        replace F7 : Fr g L' _ _ := F7
        replace N7 : News g L' _ _ := N7
        replace hsd : @Ne Nat src dd := hsd
        have keysIn : ∀ {ns : List Int} {kv : List (Int × Value)}, KeysOk kv → ns.Perm (kv.map (·.1)) → ∀ k ∈ ns, -(2 ^ 63) ≤ k ∧ k ≤ maxInt := by
          intro ns kv hK hp k hk
          obtain ⟨q, hq, rfl⟩ := List.mem_map.mp (hp.mem_iff.mp hk)
          exact hK q hq
        have fin : ∀ (a8 : Int) ta8 (b8 : Int) tb8 n8 o8 kv (h8 : Heap) tk8 (m8 : Str → Option Value), 0 ≤ a8 → 0 ≤ b8 → b8 < 2147483647 → Obj.IsDictOf (intKind prog w) o8 kv → kv.length ≤ 8 → KeysOk kv → Fr g L' h8 m8 → News g L' h8 [(dd, o8), (src, lst [.int a8 ta8, .int b8 tb8] n8)] →
            ∀ {A : Around} {E : Value → Shared → Prop}, A.handled = none → wpAny (model prog w) A (call (.builtin "sorted") [.ref dd]) (fun v s' => LeaveM h₀ L m [src] s.heap g Q v s') E { s with heap := h8, toks := tk8 } := by
          intro a8 ta8 b8 tb8 n8 o8 kv h8 tk8 m8 ha8 hb8 hc8 hdo8 hl8 hK8 F8 N8 A E hA
          refine sorted_dict hA F8 N8 (.head _) hdo8 lo3 (by omega) fun D vs ns h' tk' c F' N' l1 hi hp hP => ?_
          refine leaveM_ F' fun FL KS => ?_
          have K' := Keeps.but (S := [src]) (show Keeps (List.map (·.1) [(src, lst [.int a ta, .int b tb] n)]) s.heap h' from KS) N N' (by walk_at "m sub")
          have fr : FreshAt s.heap D := FreshAt.of kp N' (.head _) fun p hp => by
            rw [List.mem_singleton.mp hp]
            exact Nat.ne_of_lt (l1 (src, lst [.int a8 ta8, .int b8 tb8] n8) (.tail _ (.head _)))
          have hlen := hp.length_eq
          rw [List.length_map] at hlen
          exact h D vs ns c a8 b8 ta8 tb8 n8 _ _ fr hi hP (by omega) (keysIn hK8 hp) ha8 hb8 hc8 FL K' (News.get N' (by k_mem)) (News.get N' (.head _))
        walk_at "m stepsC"
        · rename_i d8 td8 a8 b8 ta8 tb8 n8 h8 tk8 hd8 hd9 ha8 hb8 hc8 F80 N80 hlt tk80 h80 o8 F8 N8 hdo8
          have e1 : (2 : Int) ^ Int.toNat 63 - 1 = maxInt := by decide +kernel
          exact fin a8 ta8 b8 tb8 n8 o8 _ h80 _ _ ha8 hb8 hc8 hdo8 (Nat.le_trans (stored_length_le kvs (2 ^ Int.toNat 63 - 1) (.bool true)) (by omega)) (hK7.stored (by rw [e1]; unfold maxInt; omega) (by rw [e1]; exact Int.le_refl _)) F8 N8 rfl
        · rename_i d8 td8 a8 b8 ta8 tb8 n8 h8 tk8 hd8 hd9 ha8 hb8 hc8 F8 N8 hlt
          exact fin a8 ta8 b8 tb8 n8 oc kvs h8 _ _ ha8 hb8 hc8 hdo7 (by omega) hK7 F8 N8 rfl
theorem off14 : True := by
  w_top off
  trivial
def encB (x : Str) : Array UInt8 := x.cps.foldl (fun acc y => acc ++ (Str.utf8Of y).toArray) #[]
open Builtin Builtin._codecs in
theorem enc_narrow (id : String) (self : Value) (x : Str) (hpos : 0 < x.cps.size) (hbad : ∀ y ∈ x.cps, Str.isSurrogate y = false) (hsz : (encB x).size ≤ sizeLine) : encodeNarrow id utf8Codec none self x = pure (encB x) := by
  have h00 : x.cps[0]? = some x.cps[0] := by simp [hpos]
  have hb0 : Str.isSurrogate x.cps[0] = false := hbad _ (Array.getElem_mem _)
  have hbs : utf8Codec.bad = Str.isSurrogate := rfl
  have hf : (x.cps.extract 0).findIdx? Str.isSurrogate = none := by
    rw [Array.findIdx?_eq_none_iff]
    intro y hy
    exact hbad y (by simpa using hy)
  unfold encodeNarrow
  dsimp only
  have hsz2 : ([:x.length] : Std.Legacy.Range).size = x.cps.size := by simp [Std.Legacy.Range.size, Str.length]
  rw [Std.Legacy.Range.forIn_eq_forIn_range', hsz2]
  obtain ⟨k, hk⟩ : ∃ k, x.cps.size = k + 1 := ⟨x.cps.size - 1, by omega⟩
  rw [hk, List.range'_succ, List.forIn_cons]
  have h00' : (x.cps)[0]? = some x.cps[0] := h00
  simp only [pure_bind, if_neg (show ¬ (#[] : Array UInt8).size > sizeLine by simp), h00, hbs, hb0, Bool.not_false, if_true, Option.getD_none]
  have hx : x.cps.extract 0 (k + 1) = x.cps := by rw [← hk]; exact Array.extract_size
  have hx2 : x.cps.extract 0 x.cps.size = x.cps := Array.extract_size
  have hf' : Array.findIdx? Str.isSurrogate x.cps = none := by
    rw [Array.findIdx?_eq_none_iff]
    exact hbad
  have e2 : Array.foldl (fun acc y => acc ++ (utf8Codec.bytesOf y).toArray) #[] x.cps = encB x := rfl
  have hnone : x.cps[x.cps.size]? = none := by simp
  simp only [hx, hf', Option.getD_none, Nat.zero_add, hx2, e2]
  cases k with
  | zero => simp
  | succ k =>
    rw [List.range'_succ, List.forIn_cons]
    simp only [if_neg (Nat.not_lt.mpr hsz), hnone, pure_bind]

open Builtin Builtin.Str Builtin._codecs in
theorem encode_tree2 (x : Str) (t u : Tok) : Builtin.«str.encode» ⟨[.str x t, .str (Str.ofString "utf-8") u], []⟩ = (do ret (← encodeRoad "str.encode" (.str x t) x (Str.ofString "utf-8") none)) := by
  have hc : codecArg "str.encode" "encode" "'encoding'" (some (.str (Str.ofString "utf-8") u)) = pure (some (Str.ofString "utf-8")) := by
    have h1 : (Str.ofString "utf-8").cps.any (fun y => decide (y ≥ 128)) = false := by decide +kernel
    have h2 : (Str.ofString "utf-8").cps.contains 0 = false := by decide +kernel
    have h3 : strArg "str.encode" "encode" "'encoding'" (.str (Str.ofString "utf-8") u) = pure (Str.ofString "utf-8") := rfl
    unfold codecArg
    dsimp only
    rw [h3]
    simp only [pure_bind, h1, h2, Bool.false_eq_true, if_false]
  show (do let e ← codecArg "str.encode" "encode" "'encoding'" (some (.str (Str.ofString "utf-8") u)); let r ← codecArg "str.encode" "encode" "'errors'" none; ret (← encodeRoad "str.encode" (.str x t) x (e.getD (Str.ofString "utf-8")) r)) = _
  rw [hc]
  rfl
def recOf (k : Int) : Array UInt8 := #[114] ++ encB (Str.ofString (toString k))
open Builtin Builtin.Str Builtin._codecs in
theorem gives_encode (x : Str) (t u : Tok) (hpos : 0 < x.cps.size) (hbad : ∀ y ∈ x.cps, Str.isSurrogate y = false) (hsz : (encB x).size ≤ sizeLine) : Gives (Builtin.«str.encode» ⟨[.str x t, .str (Str.ofString "utf-8") u], []⟩) (.bytes (encB x)) := by
  rw [encode_tree2, encodeRoad_utf8, enc_narrow _ _ _ hpos hbad hsz]
  rw [pure_bind]
  exact Gives.tree (.bytes (encB x))
section
variable {prog : Program} {w : World} {A : Around} {E : Value → Shared → Prop} {s : Shared}
theorem str_encode {x : Str} {t u : Tok} {Q : Value → Shared → Prop} (hpos : 0 < x.cps.size) (hbad : ∀ y ∈ x.cps, Str.isSurrogate y = false) (hsz : (encB x).size ≤ sizeLine)
    (h : ∀ t' k, Q (.bytes (encB x) t') { s with toks := k }) : wpAny (model prog w) A (call (.builtin "str.encode") [.str x t, .str (Str.ofString "utf-8") u]) Q E s :=
  call_gives F.slot_str_encode (typeIs_str _ _ _) F.entry_str_encode (F.args_str_encode_2 _ _) (gives_encode x t u hpos hbad hsz) ⟨hsz, h _ _⟩
end
theorem encB_size : ∀ (x : Str), (encB x).size ≤ 4 * x.cps.size := by
  intro x
  unfold encB
  have key : ∀ (l : List Nat) (acc : Array UInt8), (l.foldl (fun acc y => acc ++ (Str.utf8Of y).toArray) acc).size ≤ acc.size + 4 * l.length := by
    intro l
    induction l with
    | nil => intro acc; simp
    | cons c l ih =>
      intro acc
      rw [List.foldl_cons]
      have h1 := ih (acc ++ (Str.utf8Of c).toArray)
      have h2 : (Str.utf8Of c).length ≤ 4 := by
        unfold Str.utf8Of
        split
        · simp
        · split
          · simp
          · split <;> simp
      simp only [Array.size_append, List.size_toArray, List.length_cons] at *
      omega
  have := key x.cps.toList #[]
  rw [Array.foldl_toList] at this
  simpa using this
theorem repr_small (n : Nat) : ∀ c ∈ (toString n).toList, c.toNat < 0xD800 := by
  intro c hc
  have h : c.isDigit = true := by
    have e : (toString n).toList = Nat.toDigits 10 n := by simp [toString, Nat.repr]
    rw [e] at hc
    exact Nat.isDigit_of_mem_toDigits (by decide) (by decide) hc
  simp only [Char.isDigit, Bool.and_eq_true, decide_eq_true_eq] at h
  have := h.2
  have h2 : c.val.toNat ≤ 57 := UInt32.le_iff_toNat_le.mp this
  show c.val.toNat < _
  omega
theorem text_small (k : Int) : ∀ c ∈ (toString k).toList, c.toNat < 0xD800 := by
  cases k with
  | ofNat n => exact repr_small n
  | negSucc n =>
    intro c hc
    have e : (toString (Int.negSucc n)).toList = '-' :: (toString (n + 1)).toList := by
      show ("-" ++ _ : String).toList = _
      simp [toString]
    rw [e] at hc
    rcases List.mem_cons.mp hc with rfl | hc
    · decide
    · exact repr_small _ c hc
theorem text_pos (k : Int) : 0 < (toString k).length := by
  cases k with
  | ofNat n => exact Nat.length_repr_pos
  | negSucc n => 
    show 0 < ("-" ++ _ : String).length
    rw [String.length_append]
    exact Nat.lt_of_lt_of_le (by decide) (Nat.le_add_right _ _)
/-- an int whose text is short -/
def Fits (k : Int) : Prop := -(2 ^ 63) ≤ k ∧ k ≤ maxInt + 20
theorem Fits.abs {k : Int} (h : Fits k) : k.natAbs < 10 ^ 19 := by
  unfold Fits maxInt at h
  omega
theorem log_small {k : Int} (h : Fits k) : k.natAbs.log2 < 1920 := by
  have := h.abs
  by_cases h0 : k.natAbs = 0
  · rw [h0]; decide
  · have := Nat.log2_lt h0 (k := 1920)
    rw [this]
    exact Nat.lt_trans h.abs (by decide +kernel)
theorem text_cps (k : Int) : (Str.ofString (toString k)).cps = ((toString k).toList.map Char.toNat).toArray := by
  rw [Str.ofString_eq_toList]
theorem text_short {k : Int} (h : Fits k) : (toString k).length ≤ 20 := PySem.int_text_length_le10 (k := 19) (by decide) h.abs
theorem text_size (k : Int) : (Str.ofString (toString k)).cps.size = (toString k).length := by
  rw [text_cps]; simp [String.length_toList]
theorem enc_short {k : Int} (h : Fits k) : (encB (Str.ofString (toString k))).size ≤ 80 := by
  have h1 := encB_size (Str.ofString (toString k))
  have h2 := text_short h
  rw [text_size] at h1
  omega
theorem rec_small {k : Int} (h : Fits k) : (#[114] : Array UInt8).size + (encB (Str.ofString (toString k))).size ≤ 16777216 := by
  have := enc_short h
  show 1 + _ ≤ _
  omega
section
variable {prog : Program} {w : World} {A : Around} {E : Value → Shared → Prop} {s : Shared}
theorem str_encode_m {x : Str} {t : Tok} {pl : Sem Bool} {Q : Value × List Value → Shared → Prop} (h : Q (.builtin "str.encode", [.str x t]) s) : wpAny (model prog w) A (getMethod (.str x t) (Str.ofString "encode") pl) Q E s := by
  with_reducible exact GM.of (.str x t) (typeIs_str _ _ _) F.slot_str_encode F.type_str_encode GM.noRef h
theorem enc_int {k : Int} {t u : Tok} {Q : Value → Shared → Prop} (hk : Fits k)
    (h : ∀ t' n, Q (.bytes (encB (Str.ofString (toString k))) t') { s with toks := n }) : wpAny (model prog w) A (call (.builtin "str.encode") [.str (Str.ofString (toString k)) t, .str (Str.ofString "utf-8") u]) Q E s :=
  str_encode (by rw [text_size]; exact text_pos k) (fun y hy => by
    rw [text_cps] at hy
    simp only [List.mem_toArray, List.mem_map] at hy
    obtain ⟨c, hc, rfl⟩ := hy
    have := text_small k c hc
    unfold Str.isSurrogate
    simp only [Bool.and_eq_false_iff, decide_eq_false_iff_not]
    omega) (by have := enc_short hk; rw [sizeLine_eq]; omega) h
end
structure IsText (x : Str) (k : Int) : Prop where
  eq : x = Str.ofString (toString k)
structure IsEnc (e : Array UInt8) (k : Int) : Prop where
  eq : e = encB (Str.ofString (toString k))
structure IsRec (e : Array UInt8) (k : Int) : Prop where
  eq : e = recOf k
section
variable {prog : Program} {w : World} {A : Around} {E : Value → Shared → Prop} {s : Shared}
theorem str_int_X {k : Int} {t : Tok} {Q : Value → Shared → Prop} (hk : Fits k) (h : ∀ x t n, IsText x k → Q (.str x t) { s with toks := n }) : wpAny (model prog w) A (call (.type "str") [.int k t]) Q E s :=
  PySem.P.str_of_int (log_small hk) (h _ _ _ ⟨rfl⟩)
theorem enc_X {k : Int} {x : Str} {t u : Tok} {Q : Value → Shared → Prop} (hx : IsText x k) (hk : Fits k)
    (h : ∀ e t n, IsEnc e k → Q (.bytes e t) { s with toks := n }) : wpAny (model prog w) A (call (.builtin "str.encode") [.str x t, .str (Str.ofString "utf-8") u]) Q E s := by
  obtain ⟨rfl⟩ := hx
  exact enc_int hk fun t' n => h _ t' n ⟨rfl⟩
theorem add_X {k : Int} {e : Array UInt8} {t u : Tok} {Q : Value → Shared → Prop} (he : IsEnc e k) (hk : Fits k)
    (h : ∀ r t n, IsRec r k → Q (.bytes r t) { s with toks := n }) : wpAny (model prog w) A (binaryOp .Add (.bytes #[114] t) (.bytes e u)) Q E s := by
  obtain ⟨rfl⟩ := he
  exact PySem.W.KBy.add_bytes (rec_small hk) fun t' n => h _ t' n ⟨rfl⟩
end
local macro_rules | `(tactic| walk_at "getMethod str") => `(tactic| (k_here; (with_reducible show wpAny _ _ (getMethod (Value.str _ _) (PySem.Str.ofString "encode") _) _ _ _); (refine str_encode_m ?_)))
local macro_rules | `(tactic| walk_at "call type:str") => `(tactic| (k_here; (with_reducible show wpAny _ _ (call (Value.type "str") [Value.int _ _]) _ _ _); (with_reducible refine str_int_X (by assumption) ?_); intro _ _ _ _))
local macro_rules | `(tactic| walk_at "call builtin:str.encode") => `(tactic| (k_here; (with_reducible show wpAny _ _ (call (Value.builtin "str.encode") [Value.str _ _, Value.str _ _]) _ _ _); (rename IsText _ _ => hTx); (with_reducible refine enc_X hTx (by assumption) ?_); clear hTx; intro _ _ _ _))
local macro_rules | `(tactic| walk_at "binaryOp Add bytes bytes") => `(tactic| (k_here; (with_reducible show wpAny _ _ (binaryOp Operator.Add (Value.bytes _ _) (Value.bytes _ _)) _ _ _); (rename IsEnc _ _ => hEn); (refine add_X hEn (by assumption) ?_); clear hEn; intro _ _ _ _))
theorem off15 : True := by
  w_top off
  trivial

theorem put_mem {k : Int} {b : Array UInt8} : ∀ {l : List (Int × Array UInt8)}, Asc l → ∀ x, x ∈ putRow k b l ↔ x = (k, b) ∨ (x ∈ l ∧ x.1 ≠ k)
  | [], _, x => by simp [putRow]
  | q :: r, h, x => by
    obtain ⟨h1, h2⟩ := List.pairwise_cons.mp h
    unfold putRow
    split
    · rename_i hq
      rw [List.mem_cons, put_mem h2 x, List.mem_cons]
      constructor
      · rintro (rfl | rfl | ⟨a, b⟩)
        · exact .inr ⟨.inl rfl, by omega⟩
        · exact .inl rfl
        · exact .inr ⟨.inr a, b⟩
      · rintro (rfl | ⟨rfl | a, b⟩)
        · exact .inr (.inl rfl)
        · exact .inl rfl
        · exact .inr (.inr ⟨a, b⟩)
    · split
      · rename_i hq hk
        rw [List.mem_cons, List.mem_cons]
        constructor
        · rintro (rfl | a)
          · exact .inl rfl
          · refine .inr ⟨.inr a, ?_⟩
            have := h1 x a
            omega
        · rintro (rfl | ⟨rfl | a, b⟩)
          · exact .inl rfl
          · exact absurd hk b
          · exact .inr a
      · rename_i hq hk
        rw [List.mem_cons, List.mem_cons]
        constructor
        · rintro (rfl | rfl | a)
          · exact .inl rfl
          · exact .inr ⟨.inl rfl, hk⟩
          · refine .inr ⟨.inr a, ?_⟩
            have := h1 x a
            omega
        · rintro (rfl | ⟨a, b⟩)
          · exact .inl rfl
          · exact .inr a
theorem put_asc {k : Int} {b : Array UInt8} : ∀ {l : List (Int × Array UInt8)}, Asc l → Asc (putRow k b l)
  | [], _ => by simp [putRow, Asc]
  | q :: r, h => by
    obtain ⟨h1, h2⟩ := List.pairwise_cons.mp h
    unfold putRow
    split
    · rename_i hq
      refine List.pairwise_cons.mpr ⟨fun x hx => ?_, put_asc h2⟩
      rcases (put_mem h2 x).mp hx with rfl | ⟨a, _⟩
      · exact hq
      · exact h1 x a
    · split
      · rename_i hq hk
        refine List.pairwise_cons.mpr ⟨fun x hx => ?_, h2⟩
        have := h1 x hx
        show k < x.1
        omega
      · rename_i hq hk
        refine List.pairwise_cons.mpr ⟨fun x hx => ?_, h⟩
        show k < x.1
        rcases List.mem_cons.mp hx with rfl | hx
        · omega
        · have := h1 x hx
          omega
theorem put_len {k : Int} {b : Array UInt8} : ∀ (l : List (Int × Array UInt8)), (putRow k b l).length ≤ l.length + 1
  | [] => Nat.le_refl _
  | q :: r => by
    unfold putRow
    have := put_len (k := k) (b := b) r
    split
    · simp only [List.length_cons]; omega
    · split <;> simp
theorem Asc.irr {l : List (Int × Array UInt8)} {p : Int × Array UInt8} (h : Asc (p :: l)) : p ∉ l := fun hm => by
  have := (List.pairwise_cons.mp h).1 p hm
  omega
theorem asc_ext : ∀ {l l' : List (Int × Array UInt8)}, Asc l → Asc l' → (∀ x, x ∈ l ↔ x ∈ l') → l = l'
  | [], [], _, _, _ => rfl
  | [], q :: r, _, _, h => absurd ((h q).mpr (.head _)) (fun x => nomatch x)
  | q :: r, [], _, _, h => absurd ((h q).mp (.head _)) (fun x => nomatch x)
  | q :: r, q' :: r', h1, h2, h => by
    obtain ⟨a1, a2⟩ := List.pairwise_cons.mp h1
    obtain ⟨b1, b2⟩ := List.pairwise_cons.mp h2
    have e : q = q' := by
      rcases List.mem_cons.mp ((h q).mp (.head _)) with e | m
      · exact e
      · rcases List.mem_cons.mp ((h q').mpr (.head _)) with e | m'
        · exact e.symm
        · have := a1 _ m'
          have := b1 _ m
          omega
    subst e
    congr 1
    refine asc_ext a2 b2 fun x => ⟨fun hx => ?_, fun hx => ?_⟩
    · rcases List.mem_cons.mp ((h x).mp (.tail _ hx)) with rfl | m
      · exact absurd hx (Asc.irr h1)
      · exact m
    · rcases List.mem_cons.mp ((h x).mpr (.tail _ hx)) with rfl | m
      · exact absurd hx (Asc.irr h2)
      · exact m
theorem gap_spec : ∀ (l : List (Int × Array UInt8)) (f : Int), Asc l → (∀ q ∈ l, f ≤ q.1) → f ≤ gapFrom f l ∧ gapFrom f l ≤ f + l.length ∧ (∀ q ∈ l, q.1 ≠ gapFrom f l) ∧ ∀ a, f ≤ a → a < gapFrom f l → ∃ q ∈ l, q.1 = a
  | [], f, _, _ => ⟨Int.le_refl _, by simp [gapFrom], (fun q hq => nomatch hq), fun a h1 h2 => by simp only [gapFrom] at h2; omega⟩
  | q :: r, f, h, hf => by
    obtain ⟨a1, a2⟩ := List.pairwise_cons.mp h
    unfold gapFrom
    split
    · rename_i hq
      obtain ⟨g1, g2, g3, g4⟩ := gap_spec r (f + 1) a2 fun x hx => by have := a1 x hx; omega
      refine ⟨by omega, by simp only [List.length_cons]; omega, fun x hx => ?_, fun a h1 h2 => ?_⟩
      · rcases List.mem_cons.mp hx with rfl | hx
        · omega
        · exact g3 x hx
      · by_cases e : a = f
        · exact ⟨q, .head _, by omega⟩
        · obtain ⟨x, hx, e2⟩ := g4 a (by omega) h2
          exact ⟨x, .tail _ hx, e2⟩
    · rename_i hq
      have := hf q (.head _)
      refine ⟨Int.le_refl _, by omega, fun x hx => ?_, fun a h1 h2 => by omega⟩
      rcases List.mem_cons.mp hx with rfl | hx
      · exact hq
      · have := a1 x hx
        omega
theorem last_max {l : List (Int × Array UInt8)} (h : Asc l) (h0 : l ≠ []) : (l.getD (l.length - 1) (0, #[])) ∈ l ∧ ∀ q ∈ l, q.1 ≤ (l.getD (l.length - 1) (0, #[])).1 := by
  have hpos := List.length_pos_iff.mpr h0
  have e : l.getD (l.length - 1) (0, #[]) = l[l.length - 1] := by
    rw [List.getD_eq_getElem?_getD, List.getElem?_eq_getElem (by omega)]; rfl
  rw [e]
  refine ⟨List.getElem_mem _, fun q hq => ?_⟩
  obtain ⟨i, hi, rfl⟩ := List.mem_iff_getElem.mp hq
  by_cases hl : i = l.length - 1
  · subst hl; exact Int.le_refl _
  · exact Int.le_of_lt ((List.pairwise_iff_getElem.mp h) i (l.length - 1) hi (by omega) (by omega))
theorem new_due {vals : List (Int × Array UInt8)} {v v' : Int} (ha : Asc vals) (h1 : NewIs vals v) (h2 : DueIs (vals.map (·.1)) v') : v = v' := by
  by_cases h0 : vals = []
  · rcases h1 with ⟨_, rfl⟩ | ⟨h, _⟩ | ⟨h, _⟩
    · rcases h2 with ⟨_, rfl⟩ | ⟨M, hM, _⟩
      · rfl
      · subst h0; exact absurd hM (fun x => nomatch x)
    · exact absurd h0 h
    · exact absurd h0 h
  · obtain ⟨lm, lx⟩ := last_max ha h0
    rcases h2 with ⟨h, _⟩ | ⟨M, hM, hMx, h2⟩
    · exact absurd (List.map_eq_nil_iff.mp h) h0
    obtain ⟨q, hq, rfl⟩ := List.mem_map.mp hM
    have e : q.1 = (vals.getD (vals.length - 1) (0, #[])).1 := Int.le_antisymm (lx q hq) (hMx _ (List.mem_map_of_mem lm))
    rcases h1 with ⟨h, _⟩ | ⟨_, h, rfl⟩ | ⟨_, h, p, PO, rfl⟩
    · exact absurd h h0
    · rcases h2 with ⟨_, rfl⟩ | ⟨h', _⟩
      · omega
      · omega
    · rcases h2 with ⟨h', _⟩ | ⟨_, d1, d2, d3, d4⟩
      · omega
      · obtain ⟨p1, p2, p3⟩ := PO
        rw [List.length_map] at d2
        have hdrop : ∀ q ∈ vals.drop p, 1 ≤ q.1 := fun q hq => by
          obtain ⟨i, hi, rfl⟩ := List.mem_iff_getElem.mp hq
          rw [List.length_drop] at hi
          have := p3 (p + i) (by omega) (by omega)
          rw [List.getD_eq_getElem?_getD, List.getElem?_eq_getElem (by omega)] at this
          rw [List.getElem_drop]
          exact this
        obtain ⟨g1, g2, g3, g4⟩ := gap_spec (vals.drop p) 1 (List.Pairwise.drop ha) hdrop
        have hnot : gapFrom 1 (vals.drop p) ∉ vals.map (·.1) := fun hm => by
          obtain ⟨q, hq, e⟩ := List.mem_map.mp hm
          obtain ⟨i, hi, rfl⟩ := List.mem_iff_getElem.mp hq
          by_cases hip : i < p
          · have := p2 i hip
            rw [List.getD_eq_getElem?_getD, List.getElem?_eq_getElem hi] at this
            simp only [Option.getD_some] at this
            omega
          · refine g3 vals[i] ?_ e
            rw [List.mem_iff_getElem]
            exact ⟨i - p, by rw [List.length_drop]; omega, by rw [List.getElem_drop]; congr 1; omega⟩
        rw [List.length_drop] at g2
        have hle := d4 (gapFrom 1 (vals.drop p)) g1 (by rw [List.length_map]; omega) hnot
        by_cases hlt : v' < gapFrom 1 (vals.drop p)
        · obtain ⟨q, hq, e⟩ := g4 v' d1 hlt
          exact absurd (List.mem_map.mpr ⟨q, List.mem_of_mem_drop hq, e⟩) d3
        · omega
theorem due_range {ns : List Int} {v : Int} (hk : ∀ k ∈ ns, -(2 ^ 63) ≤ k ∧ k ≤ maxInt) (hn : ns.length ≤ 20) (h : DueIs ns v) : v ∉ ns ∧ -(2 ^ 63) ≤ v ∧ v ≤ maxInt := by
  rcases h with ⟨rfl, rfl⟩ | ⟨M, hM, hx, ⟨h, rfl⟩ | ⟨_, h1, h2, h3, _⟩⟩
  · exact ⟨(fun x => nomatch x), by unfold maxInt; omega⟩
  · refine ⟨fun hm => ?_, ?_, by omega⟩
    · have := hx _ hm; omega
    · have := (hk M hM).1; omega
  · refine ⟨h3, by omega, ?_⟩
    unfold maxInt
    omega
/-- the rows of the rowids -/
def recs (ns : List Int) : List (Int × Array UInt8) := ns.map fun k => (k, recOf k)
theorem recs_asc {ns : List Int} (h : ns.Pairwise (· < ·)) : Asc (recs ns) := List.pairwise_map.mpr h
theorem recs_keys (ns : List Int) : (recs ns).map (·.1) = ns := by
  unfold recs
  rw [List.map_map]
  exact List.map_id ns
theorem recs_put {ns ms : List Int} {v : Int} (h : ns.Pairwise (· < ·)) (hm : ms.Pairwise (· < ·)) (hp : ∀ k, k ∈ ms ↔ k ∈ ns ∨ k = v) : putRow v (recOf v) (recs ns) = recs ms := by
  refine asc_ext (put_asc (recs_asc h)) (recs_asc hm) fun x => ?_
  rw [put_mem (recs_asc h)]
  unfold recs
  simp only [List.mem_map]
  constructor
  · rintro (rfl | ⟨⟨k, hk, rfl⟩, _⟩)
    · exact ⟨v, (hp v).mpr (.inr rfl), rfl⟩
    · exact ⟨k, (hp k).mpr (.inl hk), rfl⟩
  · rintro ⟨k, hk, rfl⟩
    by_cases e : k = v
    · exact .inl (by rw [e])
    · exact .inr ⟨⟨k, ((hp k).mp hk).resolve_right e, rfl⟩, e⟩
theorem cut_at {ms : List Int} {i : Nat} (hi : i < ms.length) (hnd : ms.Nodup) : (ms.take i ++ ms.drop (i + 1)).Nodup ∧ (ms.take i ++ ms.drop (i + 1)).length + 1 = ms.length ∧ ∀ j, j ∈ ms.take i ++ ms.drop (i + 1) ↔ j ∈ ms ∧ j ≠ ms.getD i 0 := by
  have e : ms.getD i 0 = ms[i] := by rw [List.getD_eq_getElem?_getD, List.getElem?_eq_getElem hi]; rfl
  have e1 : ms = ms.take i ++ ms[i] :: ms.drop (i + 1) := by
    rw [← List.drop_eq_getElem_cons hi, List.take_append_drop]
  have hp : ms.Perm (ms[i] :: (ms.take i ++ ms.drop (i + 1))) := by
    have : (ms.take i ++ ms[i] :: ms.drop (i + 1)).Perm (ms[i] :: (ms.take i ++ ms.drop (i + 1))) := List.perm_middle
    rw [← e1] at this
    exact this
  obtain ⟨n1, n2⟩ := List.nodup_cons.mp (hp.nodup_iff.mp hnd)
  refine ⟨n2, by rw [hp.length_eq, List.length_cons], fun j => ?_⟩
  rw [e, hp.mem_iff, List.mem_cons]
  constructor
  · intro hj
    exact ⟨.inr hj, fun e => n1 (e ▸ hj)⟩
  · rintro ⟨h | h, hne⟩
    · exact absurd h hne
    · exact h
theorem turn_facts {ns ms : List Int} {vals V : List (Int × Array UInt8)} {i : Nat} (hi : i < ms.length) (i2 : ms.Nodup) (i3 : ∀ k ∈ ms, k ∈ ns) (i7 : ∀ q : Int × Array UInt8, q ∈ vals ↔ q.1 ∈ ns ∧ q.1 ∉ ms ∧ q.2 = recOf q.1)
    (i8 : vals.length + 2 * ms.length ≤ 2 * ns.length) (hA : Asc V) (hV : ∀ q, q.1 ≠ ms.getD i 0 → (q ∈ V ↔ q ∈ vals)) (hl : V.length ≤ vals.length + 1) :
    (ms.take i ++ ms.drop (i + 1)).Nodup ∧ (∀ k ∈ ms.take i ++ ms.drop (i + 1), k ∈ ns) ∧ Asc (putRow (ms.getD i 0) (recOf (ms.getD i 0)) V) ∧
    (∀ q : Int × Array UInt8, q ∈ putRow (ms.getD i 0) (recOf (ms.getD i 0)) V ↔ q.1 ∈ ns ∧ q.1 ∉ ms.take i ++ ms.drop (i + 1) ∧ q.2 = recOf q.1) ∧
    (putRow (ms.getD i 0) (recOf (ms.getD i 0)) V).length + 2 * (ms.take i ++ ms.drop (i + 1)).length ≤ 2 * ns.length ∧ (ms.take i ++ ms.drop (i + 1)).length < ms.length := by
  obtain ⟨c1, c2, c3⟩ := cut_at hi i2
  have hk : ms.getD i 0 ∈ ms := by
    rw [List.getD_eq_getElem?_getD, List.getElem?_eq_getElem hi]
    exact List.getElem_mem _
  have hpl := put_len (k := ms.getD i 0) (b := recOf (ms.getD i 0)) V
  refine ⟨c1, fun k hk => i3 k ((c3 k).mp hk).1, put_asc hA, fun q => ?_, by omega, by omega⟩
  rw [put_mem hA, c3]
  constructor
  · rintro (rfl | ⟨h1, h2⟩)
    · exact ⟨i3 _ hk, fun h => h.2 rfl, rfl⟩
    · obtain ⟨a, b, c⟩ := (i7 q).mp ((hV q h2).mp h1)
      exact ⟨a, fun h => b h.1, c⟩
  · rintro ⟨h1, h2, h3⟩
    by_cases e : q.1 = ms.getD i 0
    · left
      rw [← e, ← h3]
    · exact .inr ⟨(hV q e).mpr ((i7 q).mpr ⟨h1, fun h => h2 ⟨h, e⟩, h3⟩), e⟩
theorem all_in {ns : List Int} {vals : List (Int × Array UInt8)} (h : ns.Pairwise (· < ·)) (ha : Asc vals) (i7 : ∀ q : Int × Array UInt8, q ∈ vals ↔ q.1 ∈ ns ∧ q.1 ∉ ([] : List Int) ∧ q.2 = recOf q.1) : vals = recs ns :=
  asc_ext ha (recs_asc h) fun x => by
    rw [i7]
    unfold recs
    rw [List.mem_map]
    constructor
    · rintro ⟨h1, _, h3⟩
      exact ⟨x.1, h1, by rw [← h3]⟩
    · rintro ⟨k, hk, rfl⟩
      exact ⟨hk, (fun h => nomatch h), rfl⟩
theorem off16 : True := by
  w_top off
  trivial
/-- two lists of rows, one reading -/
theorem ne_rows {A : Around} {l b : Addr} {xs ys : List Value} {vals : List (Int × Array UInt8)} {n n2 : Nat} {E : Value → Shared → Prop} {Q : Value → Shared → Prop} (hl : s.heap.get? l = some (lst xs n)) (hb : s.heap.get? b = some (lst ys n2)) (Rx : Rows s.heap xs vals) (Ry : Rows s.heap ys vals) (hu : A.units + 2 < cLine)
    (h : Q (.bool false) s) : wpAny (model prog w) A (compareOp .NotEq (.ref l) (.ref b)) Q E s := by
  have hlen : xs.toArray.size = ys.toArray.size := by simp [Rx.length, Ry.length]
  have key := SeqAt.RcNeAt.lists (A := A) (s := s) (e := fun _ => true) (l := l) (b := b) (items := xs.toArray) (items2 := ys.toArray) ⟨_, hl, rfl, _, rfl⟩ ⟨_, hb, rfl, _, rfl⟩ hlen (by omega) (by
    intro j h1 h2
    have hj : j < vals.length := by rw [← Rx.length]; simpa using h1
    obtain ⟨t1, a1, b1, c1, e1, g1⟩ := Rx.get hj
    obtain ⟨t2, a2, b2, c2, e2, g2⟩ := Ry.get hj
    have i1 : xs.toArray[j] = .ref t1 := by
      have := List.getElem?_eq_some_iff.mp e1
      obtain ⟨_, q⟩ := this
      simpa using q
    have i2 : ys.toArray[j] = .ref t2 := by
      have := List.getElem?_eq_some_iff.mp e2
      obtain ⟨_, q⟩ := this
      simpa using q
    rw [i1, i2]
    by_cases ht : t1 = t2
    · subst ht
      exact SeqAt.EqAt.same _
    · refine SeqAt.EqAt.of_refs ht ?_
      have := SeqAt.RcAt.tuples (A := A.in1) (s := s) (e := fun _ => true) (l := t1) (b := t2) ⟨_, g1, rfl, _, rfl⟩ ⟨_, g2, rfl, _, rfl⟩ (show A.units + 1 < cLine by omega) (by
        intro i q1 q2
        have hi : i = 0 ∨ i = 1 := by
          have : i < 2 := q1
          omega
        rcases hi with rfl | rfl
        · have := SeqAt.EqAt.int_int (A := A.in1.in1) (s := s) (vals.getD j (0, #[])).1 a1 (vals.getD j (0, #[])).1 a2
          rw [show ((vals.getD j (0, #[])).1 == (vals.getD j (0, #[])).1) = true by simp] at this
          exact this
        · intro prog w E Q hq
          exact eqBool_bytes (by simpa using hq))
      exact this)
  have e9 : (List.range xs.toArray.size).all (fun _ => true) = true := List.all_eq_true.mpr fun _ _ => rfl
  rw [e9] at key
  have := key prog w E Q h
  unfold compareOp
  exact this
theorem new_due_recs {ns : List Int} {v v' : Int} (hp : ns.Pairwise (· < ·)) (h1 : NewIs (recs ns) v) (h2 : DueIs ns v') : v = v' :=
  new_due (recs_asc hp) h1 (by rw [recs_keys]; exact h2)
theorem sort_facts {ns ns' : List Int} {v : Int} (hp : ns.Pairwise (· < ·)) (hv : v ∉ ns) (hs : ns'.Perm (ns ++ [v])) (hs2 : ns'.Pairwise (· ≤ ·)) : ns'.Pairwise (· < ·) ∧ ∀ k, k ∈ ns' ↔ k ∈ ns ∨ k = v := by
  refine ⟨lt_of_le_nodup hs2 (hs.nodup_iff.mpr ?_), fun k => by rw [hs.mem_iff]; simp⟩
  rw [List.nodup_append]
  refine ⟨hp.imp fun h => Int.ne_of_lt h, by simp, fun a ha b hb e => ?_⟩
  rw [List.mem_singleton.mp hb] at e
  exact hv (e ▸ ha)
theorem off17 : True := by
  w_top off
  trivial
local macro_rules | `(tactic| k_room) => `(tactic| ((try simp only [depth_under_make, depth_under_kw, depth_in1, depth_deeper]); (try dsimp only [ktrTop]); omega))
/-- EphemeralRows() -/
theorem make_T {news : List (Addr × Obj)} (W : Site w h₀ outer cs) (F : Fr h₀ L s.heap m) (hd : dp + 5 < recursionLimit) (hu : un + 100 < cLine) (N : News h₀ L s.heap news)
    (h : ∀ (x d r : Nat) k1 k2 k3 tp h' tk', Fr h₀ L h' m → News h₀ L h' ((x, instObj 305 d) :: (d, tabD w.params k1 k2 k3 r (-1) tp) :: (r, lst [] 0) :: news) → d < x → AllLt d news → AllLt r news → x < r → Q (.ref x) { s with heap := h', toks := tk' })
    : wpAny (model prog w) (ktrTop dp un gd cn cs L ca ccd cl outer) (call (.ref 305) []) Q E s := by
  obtain ⟨⟨A₀, base, p, loose, mean, mg, mb, B, X, T⟩, hke⟩ := W
  k_dflt (refine' call_cls ?k1 ?k2 ?k3 ?k4 ?k5 ?k6 ?_; (case k1 => k_asm); (case k2 => k_asm); (case k3 => k_asm); (case k4 => k_is); (case k5 => k_is); (case k6 => k_is))
  intro x d h' F' N' l1 l2
  have l1' : AllLt d news := allLt_of l1
  replace l2 : @LT.lt Nat _ d x := l2
  k_dflt (refine' code_def B F' X N' T (by exact rfl) (by exact rfl) hke (by k_is) (by k_is) (by k_room) (BindsTo.of_eq rfl) (locs rfl) ?_ rfl rfl rfl (by decide))
  intro g' L' h' FG' F' N' B' X' T'
  (try dsimp only)
  (try k_lift B')
  (try k_fold)
  walk_at "m steps"
  rename_i t1 r z1 lr z2 t2 z3 t3 z4 F8 N8 F9 N9 z5 z6
  refine h x d r _ _ _ _ _ _ F9 (News.sub N9 (news' := (x, instObj 305 d) :: (d, tabD w.params (t1 + 1) (t2 + 1 + 1 + 1) (t3 + 1) r (-1) (t2 + 1)) :: (r, lst [] 0) :: news) ?_) l2 l1' lr.2.2 lr.1
  intro p hp
  simp only [List.mem_cons] at hp ⊢
  rcases hp with h | h | h | h
  all_goals simp only [h, true_or, or_true]
theorem off18 : True := by
  w_top off
  trivial
local macro_rules | `(tactic| walk_at "m stepsI") => `(tactic| repeat' ((fail_if_success (with_reducible show wpAny _ _ (call (Value.ref 176) _) _ _ _)); (fail_if_success (with_reducible show wpAny _ _ (call (Value.ref 305) _) _ _ _)); (fail_if_success (with_reducible show wpAny _ _ (eval (Expr.ListComp _ _ _ _) _) _ _ _)); (fail_if_success (with_reducible show wpAny _ _ (pyIter _) _ _ _)); (fail_if_success (with_reducible show wpAny _ _ (exec (Stmt.While _ _ _ _) _) _ _ _)); (fail_if_success (with_reducible show wpAny _ _ (exec (Stmt.For _ _ _ _ _) _) _ _ _)); (fail_if_success (with_reducible show KswEnd _ _ _ _ _ _ _ _ _ _ _ _)); first | (k_unfold; (try dsimp only)) | (dsimp only; walk1) | walk1))
local macro_rules | `(tactic| walk_at "m subO") => `(tactic| first | exact List.forall_mem_nil _ | (refine List.forall_mem_cons.mpr ⟨by k_mem, ?_⟩; walk_at "m subO"))
local macro_rules | `(tactic| walk_at "subscriptTail Name Slice ref ref") => `(tactic| (k_here; (with_reducible show wpAny _ _ (subscriptTail _ (PySem.Expr.Slice none (some _) none _) (Value.ref _) (Value.ref _)) _ _ _); k_dflt (refine' kmk_slice_ints ?F ?N ?l ?p ?q ?i ?m ?c ?_ ?s ?t ?z; (case F => k_asm); (case N => k_asm); (case l => kmk_list); (case p => kmk_part); (case q => kmk_part); (case i => l_ints); (case m => exact kmk_upto (by assumption) (by omega)); (case c => kmk_len); (case s => with_unfolding_all rfl); (case t => kmk_pure); (case z => (refine kmk_sz (by assumption) ?_; rw [sizeLine_eq]; omega))); intro D' ws' h' F' N' l1 hI' hC' hL'; (try k_lt l1); (try k_sweep)))
local macro_rules | `(tactic| walk_at "subscriptTail Name Slice ref ref") => `(tactic| (k_here; (with_reducible show wpAny _ _ (subscriptTail _ (PySem.Expr.Slice (some _) none none _) (Value.ref _) (Value.ref _)) _ _ _); k_dflt (refine' kmk_slice_ints ?F ?N ?l ?p ?q ?i ?m ?c ?_ ?s ?t ?z; (case F => k_asm); (case N => k_asm); (case l => kmk_list); (case p => kmk_part); (case q => kmk_part); (case i => l_ints); (case m => exact kmk_from (by assumption) (by omega)); (case c => kmk_len); (case s => with_unfolding_all rfl); (case t => kmk_pure); (case z => (refine kmk_sz (by assumption) ?_; rw [sizeLine_eq]; omega))); intro D' ws' h' F' N' l1 hI' hC' hL'; (try k_lt l1); (try k_sweep)))
/-- insert_row, the ledger told anew -/
theorem insert_row_T {x d r n : Nat} {k1 k2 k3 tp : Tok} {place : Int} {its : List Value} {vals : List (Int × Array UInt8)} {k : Int} {tk : Tok} {b : Array UInt8} {tb : Tok} {news : List (Addr × Obj)} (O : List (Addr × Obj))
    (W : Site w h₀ outer cs) (F : Fr h₀ L s.heap m) (hd : dp + 10 < recursionLimit) (hu : un + 100 < cLine)
    (N : News h₀ L s.heap news) (hx : (x, instObj 305 d) ∈ news) (hdm : (d, tabD w.params k1 k2 k3 r place tp) ∈ news) (hrm : (r, lst its n) ∈ news) (hn : its.length ≤ 100) (R : Rows s.heap its vals) (ha : Asc vals)
    (hO : ∀ p ∈ O, p ∈ news) (h1 : AllNe d O) (h2 : AllNe r O)
    (h : ∀ its' n' place' tp' h' tk' T, (∀ p ∈ T, p.2.cls = .type "tuple") → RowsB h₀ T its' (putRow k b vals) → Fr h₀ L h' m → News h₀ L h' ((x, instObj 305 d) :: (d, tabD w.params k1 k2 k3 r place' tp') :: (r, lst its' n') :: (O ++ T)) → Q .none { s with heap := h', toks := tk' })
    : wpAny (model prog w) (ktrTop dp un gd cn cs L ca ccd cl outer) (call (.ref 176) [.ref x, .int k tk, .bytes b tb]) Q E s := by
  have NE : ∀ {e : Nat} {l : List (Addr × Obj)}, AllNe e l → ∀ p ∈ l, p.1 ≠ e := by
    intro e l
    induction l with
    | nil => intro _ p hp; exact nomatch hp
    | cons q l ih =>
      rintro ⟨a, c⟩ p hp
      rcases List.mem_cons.mp hp with rfl | hp
      · exact a
      · exact ih c p hp
  have N3 := News.three N hx hdm hrm
  obtain ⟨hxd, hxr, hdr⟩ := ledger_apart N3
  refine insert_row_spec W F hd hu N3 hn R ha fun its' n' place' tp' h' tk' R' F' K hD hR => ?_
  obtain ⟨T, NT, hT, RB⟩ := Rows.split F' R'
  refine h its' n' place' tp' h' tk' T hT RB F' fun p hp => ?_
  have keep : ∀ q ∈ news, q.1 ≠ d → q.1 ≠ r → h'.get? q.1 = some q.2 ∧ q.1 ≠ L ∧ h₀.get? q.1 = none := fun q hq e1 e2 =>
    ⟨K _ _ (N q hq).1 (by simp [e1, e2]), (N q hq).2⟩
  rcases List.mem_cons.mp hp with rfl | hp
  · exact keep _ hx hxd hxr
  rcases List.mem_cons.mp hp with rfl | hp
  · exact ⟨hD, (N _ hdm).2⟩
  rcases List.mem_cons.mp hp with rfl | hp
  · exact ⟨hR, (N _ hrm).2⟩
  rcases List.mem_append.mp hp with hp | hp
  · exact keep p (hO p hp) (NE h1 p hp) (NE h2 p hp)
  · exact NT p hp

structure TbSt where
  dl : Nat
  ws : List Value
  c : Nat
  ms : List Int
  a : Int
  ta : Tok
  b : Int
  tb : Tok
  n : Nat
  its : List Value
  nn : Nat
  place : Int
  tp : Tok
  vals : List (Int × Array UInt8)
  T : List (Addr × Obj)

theorem table_spec {src rl n c : Nat} {a b : Int} {ta tb : Tok} {vs : List Value} {ns : List Int}
    (W : Site w h₀ outer cs) (F : Fr h₀ L s.heap m) (hd : dp + 20 < recursionLimit) (hu : un + 400 < cLine)
    (N : News h₀ L s.heap [(src, lst [.int a ta, .int b tb] n), (rl, lst vs c)]) (hi : IntsAre vs ns) (hp : ns.Pairwise (· < ·)) (hn : ns.length ≤ 20) (hf : ∀ k ∈ ns, Fits k)
    (ha : 0 ≤ a) (hb : 0 ≤ b) (hb2 : b < 2147483647) (hsr : @Ne Nat src rl)
    (h : ∀ (x d r : Nat) k1 k2 k3 (place : Int) tp its nn (a' b' : Int) ta' tb' n' h' tk', FreshAt s.heap x → FreshAt s.heap d → FreshAt s.heap r → Rows h' its (recs ns) → 0 ≤ a' → 0 ≤ b' → b' < 2147483647 →
      Fr h₀ L h' m → Keeps [src] s.heap h' → h'.get? src = some (lst [.int a' ta', .int b' tb'] n') → h'.get? x = some (instObj 305 d) → h'.get? d = some (tabD w.params k1 k2 k3 r place tp) → h'.get? r = some (lst its nn) → Q (.ref x) { s with heap := h', toks := tk' })
    : wpAny (model prog w) (ktrTop dp un gd cn cs L ca ccd cl outer) (call (.ref 342) [.ref src, .ref rl]) Q E s := by
  refine' enterM (binds := [(Str.ofString "source", .ref src), (Str.ofString "rowids", .ref rl)]) W F N ?kd ?ko ?kc ?kb ?kl ?_ ?c1 ?c2 ?c3 ?c4
  walk_at "m enter"
  intro A₀ base p loose mean mg mb g L' h₁ kp og st ltL F' N' B' X' T'
  k_fold
  have hlen := hi.length
  walk_at "m stepsI"
  (rename Fr g L' _ _ => F1)
  (rename News g L' _ _ => N1)
  show wpAny _ _ (call (Value.ref 305) []) _ _ _
  k_dflt (refine' make_T ?W ?F ?d ?u ?N ?_; (case W => exact Site.mk ⟨_, _, _, _, _, _, _, by k_asm, by k_asm, by k_asm⟩ rfl); (case F => exact F1); (case d => walk_at "m room"); (case u => walk_at "m room"); (case N => exact N1))
  intro x d r k1 k2 k3 tp0 h5 tk5 F5 N5 ly lx lr lxr
  clear F1 N1
  simp only [AllLt, and_true] at lx lr
  walk_at "m stepsI"
  rename_i dl c9 z14 ldl D9 z15 lD z16 z17 z18 F1 N1
  refine ksw_while (σ := TbSt) (fun c2 => (c2.dl, lst c2.ws c2.c) :: (src, lst [.int c2.a c2.ta, .int c2.b c2.tb] c2.n) :: (rl, lst vs c) :: (x, instObj 305 d) :: (d, tabD w.params k1 k2 k3 r c2.place c2.tp) :: (r, lst c2.its c2.nn) :: c2.T)
    (fun c2 => [(Str.ofString "left", .ref c2.dl)]) (fun _ => True) [Str.ofString "at"]
    (fun c2 => IntsAre c2.ws c2.ms ∧ c2.ms.Nodup ∧ (∀ k ∈ c2.ms, k ∈ ns) ∧ RowsB g c2.T c2.its c2.vals ∧ (∀ p ∈ c2.T, p.2.cls = .type "tuple") ∧ Asc c2.vals ∧ (∀ q : Int × Array UInt8, q ∈ c2.vals ↔ q.1 ∈ ns ∧ q.1 ∉ c2.ms ∧ q.2 = recOf q.1) ∧ c2.vals.length + 2 * c2.ms.length ≤ 2 * ns.length ∧
      0 ≤ c2.a ∧ 0 ≤ c2.b ∧ c2.b < 2147483647 ∧ @Ne Nat c2.dl r ∧ @Ne Nat c2.dl src ∧ @Ne Nat c2.dl d)
    (fun c2 => c2.ms.length) ⟨dl, vs, c9, ns, a, ta, b, tb, n, [], 0, -1, tp0, [], []⟩ F1 (News.sub N1 ?ns) trivial (List.forall_mem_cons.mpr ⟨rfl, List.forall_mem_nil _⟩) ?kp ?_ PassesOwn.never
  case ns =>
    intro p hp
    simp only [List.mem_cons, List.not_mem_nil, or_false] at hp ⊢
    rcases hp with h | h | h | h | h | h
    all_goals simp only [h, true_or, or_true]
  case kp =>
    obtain ⟨q1, q2, q3, q4, q5⟩ := ldl
    exact ⟨hi, hp.imp fun h => Int.ne_of_lt h, fun k hk => hk, RowsB.nil, (fun p hp => nomatch hp), List.Pairwise.nil, fun q => ⟨(fun h => nomatch h), fun h => absurd h.1 h.2.1⟩, by dsimp only; simp only [List.length_nil]; omega, ha, hb, hb2, Nat.ne_of_gt q3, Nat.ne_of_gt q4, Nat.ne_of_gt q2⟩
  rintro ⟨el, ws, cw, ms, a1, ta1, b1, tb1, n1, its, nn, place, tp, vals, T⟩ u h2 tk2 - ⟨i1, i2, i3, i4, i5, i6, i7, i8, i9, i10, i11, i12, i13, i14⟩ F2 N2
  dsimp only at i1 i2 i3 i4 i5 i6 i7 i8 i9 i10 i11 i12 i13 i14 F2 N2
  have hTl := tail_off (T := T) (a := el) (o := lst ws cw) N2 (List.Mem.head _) (by walk_at "m subT") i5 (type_ne (by decide : ("list" : String) ≠ "tuple"))
  have hTs := tail_off (T := T) (a := src) (o := lst [.int a1 ta1, .int b1 tb1] n1) N2 (by k_mem) (by walk_at "m subT") i5 (type_ne (by decide : ("list" : String) ≠ "tuple"))
  have hwl := i1.length
  show wpAny _ _ _ _ _ _
  k_fold
  by_cases hm : ms = []
  · subst hm
    walk_at "m stepsI"
    (rename Fr g L' _ _ => F9)
    (rename News g L' _ _ => N9)
    show LeaveM _ _ _ _ _ _ _ _ _
    refine leaveM_ F9 fun FL KS => ?_
    have K' := KS.but (S := [src]) N N9 (by walk_at "m sub")
    have fr : ∀ {e : Nat} {o : Obj}, (e, o) ∈ _ → src < e → rl < e → FreshAt s.heap e := fun hm h1 h2 => FreshAt.of kp N9 hm (List.forall_mem_cons.mpr ⟨Nat.ne_of_lt h1, List.forall_mem_cons.mpr ⟨Nat.ne_of_lt h2, List.forall_mem_nil _⟩⟩)
    rw [all_in hp i6 i7] at i4
    exact h x d r _ _ _ _ _ _ _ _ _ _ _ _ _ _ (fr (o := instObj 305 d) (by k_mem) (Nat.lt_trans lx.1 ly) (Nat.lt_trans lx.2 ly)) (fr (o := tabD w.params k1 k2 k3 r place tp) (by k_mem) lx.1 lx.2) (fr (o := lst its nn) (by k_mem) lr.1 lr.2) (i4.rows F9 N9 (by walk_at "m subT")) i9 i10 i11 FL K' (News.get N9 (by k_mem)) (News.get N9 (by k_mem)) (News.get N9 (by k_mem)) (News.get N9 (by k_mem))
  · have hpos : 0 < ms.length := List.length_pos_iff.mpr hm
    have hmn : ms.length ≤ ns.length := by omega
    have hvl := i4.length
    have hget : ∀ j : Int, 0 ≤ j → j < ws.length → ms.getD j.toNat 0 ∈ ms := fun j h1 h2 => by
      rw [List.getD_eq_getElem?_getD, List.getElem?_eq_getElem (by omega)]
      exact List.getElem_mem _
    walk_at "m stepsI"
    · rename_i at0 tat y1 y2 y3 y4 y5 y6 y7 hat0 hat1 y8 y9 y10 y11 F3 N3 y12 d4 td4 a4 b4 ta4 tb4 n4 h4 tk4 hd4 he4 ha4 hb4 hc4 F4 N4 hz t4
      have hkm := hget at0 hat0 hat1
      have hkf := hf _ (i3 _ hkm)
      k_dflt (refine' insert_row_T [(el, lst ws cw), (src, lst [.int a4 ta4, .int b4 tb4] n4), (rl, lst vs c)] ?W ?F ?d ?u ?N ?x ?y ?z ?n ?R ?ha ?hO ?h1 ?h2 ?_; (case W => exact Site.mk ⟨_, _, _, _, _, _, _, by k_asm, by k_asm, by k_asm⟩ rfl); (case F => k_asm); (case d => walk_at "m room"); (case u => walk_at "m room"); (case N => exact N4); (case x => k_mem); (case y => k_mem); (case z => k_mem); (case n => omega); (case R => exact RowsB.rows F4 N4 (by walk_at "m subT") i4); (case ha => exact i6); (case hO => walk_at "m subO"); (case h1 => exact ⟨i14, Nat.ne_of_lt lx.1, Nat.ne_of_lt lx.2, trivial⟩); (case h2 => exact ⟨i12, Nat.ne_of_lt lr.1, Nat.ne_of_lt lr.2, trivial⟩))
      intro its5 nn5 pl5 tp5 h5 tk5 T5 hT5 R5 F5 N5
      simp only [List.cons_append, List.nil_append] at N5
      have hvl5 := R5.length
      have hpl5 := put_len (k := ms.getD at0.toNat 0) (b := #[120]) vals
      walk_at "m stepsI"
      (rename IsRec _ _ => hRc)
      obtain ⟨rfl⟩ := hRc
      (rename Fr g L' _ _ => F5)
      (rename News g L' _ _ => N5)
      k_dflt (refine' insert_row_T [(el, lst ws cw), (src, lst [.int a4 ta4, .int b4 tb4] n4), (rl, lst vs c)] ?W ?F ?d ?u ?N ?x ?y ?z ?n ?R ?ha ?hO ?h1 ?h2 ?_; (case W => exact Site.mk ⟨_, _, _, _, _, _, _, by k_asm, by k_asm, by k_asm⟩ rfl); (case F => k_asm); (case d => walk_at "m room"); (case u => walk_at "m room"); (case N => exact N5); (case x => k_mem); (case y => k_mem); (case z => k_mem); (case n => omega); (case R => exact RowsB.rows F5 N5 (by walk_at "m subT") R5); (case ha => exact (put_asc i6)); (case hO => walk_at "m subO"); (case h1 => exact ⟨i14, Nat.ne_of_lt lx.1, Nat.ne_of_lt lx.2, trivial⟩); (case h2 => exact ⟨i12, Nat.ne_of_lt lr.1, Nat.ne_of_lt lr.2, trivial⟩))
      intro its6 nn6 pl6 tp6 h6 tk6 T6 hT6 R6 F6 N6
      simp only [List.cons_append, List.nil_append] at N6
      have o6 := tail_off (T := T6) (a := el) (o := lst ws cw) N6 (by k_mem) (by walk_at "m subT") hT6 (type_ne (by decide : ("list" : String) ≠ "tuple"))
      walk_at "m stepsI"
      rename_i D1 w1 z20 hI1 hC1 hL1 lt1 D2 w2 z21 hI2 hC2 hL2 lt2 D3 w3 z22 hI3 lt3 z23 F9 N9
      rw [show (at0 + 1).toNat = at0.toNat + 1 by omega] at hI3
      obtain ⟨g1, g2, g3, g4, g5, g6⟩ := turn_facts (V := (putRow (ms.getD at0.toNat 0) #[120] vals)) (i := at0.toNat) (by omega) i2 i3 i7 i8 (put_asc i6) (fun q hq => (put_mem i6 q).trans ⟨fun h => h.elim (fun e => absurd (by rw [e]) hq) fun h => h.1, fun h => .inr ⟨h, hq⟩⟩) (by omega)
      refine ksw_end ⟨D3, w3, 0, ms.take at0.toNat ++ ms.drop (at0.toNat + 1), a4, ta4, b4, tb4, n4, its6, nn6, pl6, tp6, putRow (ms.getD at0.toNat 0) (recOf (ms.getD at0.toNat 0)) (putRow (ms.getD at0.toNat 0) #[120] vals), T6⟩ F9 N9 ?_ trivial (List.forall_mem_cons.mpr ⟨rfl, List.forall_mem_nil _⟩) (by walk_at "m same") ?_ ?_
      · intro p hp
        simp only [List.mem_cons] at hp ⊢
        rcases hp with h | h | h | h | h | h | h
        all_goals simp only [h, true_or, or_true]
      · exact ⟨hI3, g1, g2, R6, hT6, g3, g4, g5, ha4, hb4, hc4, Nat.ne_of_gt lt3.2.2.2.2.1, Nat.ne_of_gt lt3.2.2.2.2.2.2.1, Nat.ne_of_gt lt3.2.2.2.1⟩
      · exact g6
    · rename_i at0 tat y1 y2 y3 y4 y5 y6 y7 hat0 hat1 y8 y9 y10 y11 F3 N3 y12 d4 td4 a4 b4 ta4 tb4 n4 h4 tk4 hd4 he4 ha4 hb4 hc4 F4 N4 hz t4 t5
      have hkm := hget at0 hat0 hat1
      have hkf := hf _ (i3 _ hkm)
      walk_at "m stepsI"
      (rename IsRec _ _ => hRc)
      obtain ⟨rfl⟩ := hRc
      (rename Fr g L' _ _ => F5)
      (rename News g L' _ _ => N5)
      k_dflt (refine' insert_row_T [(el, lst ws cw), (src, lst [.int a4 ta4, .int b4 tb4] n4), (rl, lst vs c)] ?W ?F ?d ?u ?N ?x ?y ?z ?n ?R ?ha ?hO ?h1 ?h2 ?_; (case W => exact Site.mk ⟨_, _, _, _, _, _, _, by k_asm, by k_asm, by k_asm⟩ rfl); (case F => k_asm); (case d => walk_at "m room"); (case u => walk_at "m room"); (case N => exact N5); (case x => k_mem); (case y => k_mem); (case z => k_mem); (case n => omega); (case R => exact RowsB.rows F5 N5 (by walk_at "m subT") i4); (case ha => exact i6); (case hO => walk_at "m subO"); (case h1 => exact ⟨i14, Nat.ne_of_lt lx.1, Nat.ne_of_lt lx.2, trivial⟩); (case h2 => exact ⟨i12, Nat.ne_of_lt lr.1, Nat.ne_of_lt lr.2, trivial⟩))
      intro its6 nn6 pl6 tp6 h6 tk6 T6 hT6 R6 F6 N6
      simp only [List.cons_append, List.nil_append] at N6
      have o6 := tail_off (T := T6) (a := el) (o := lst ws cw) N6 (by k_mem) (by walk_at "m subT") hT6 (type_ne (by decide : ("list" : String) ≠ "tuple"))
      walk_at "m stepsI"
      rename_i D1 w1 z20 hI1 hC1 hL1 lt1 D2 w2 z21 hI2 hC2 hL2 lt2 D3 w3 z22 hI3 lt3 z23 F9 N9
      rw [show (at0 + 1).toNat = at0.toNat + 1 by omega] at hI3
      obtain ⟨g1, g2, g3, g4, g5, g6⟩ := turn_facts (V := vals) (i := at0.toNat) (by omega) i2 i3 i7 i8 i6 (fun q _ => Iff.rfl) (by omega)
      refine ksw_end ⟨D3, w3, 0, ms.take at0.toNat ++ ms.drop (at0.toNat + 1), a4, ta4, b4, tb4, n4, its6, nn6, pl6, tp6, putRow (ms.getD at0.toNat 0) (recOf (ms.getD at0.toNat 0)) vals, T6⟩ F9 N9 ?_ trivial (List.forall_mem_cons.mpr ⟨rfl, List.forall_mem_nil _⟩) (by walk_at "m same") ?_ ?_
      · intro p hp
        simp only [List.mem_cons] at hp ⊢
        rcases hp with h | h | h | h | h | h | h
        all_goals simp only [h, true_or, or_true]
      · exact ⟨hI3, g1, g2, R6, hT6, g3, g4, g5, ha4, hb4, hc4, Nat.ne_of_gt lt3.2.2.2.2.1, Nat.ne_of_gt lt3.2.2.2.2.2.2.1, Nat.ne_of_gt lt3.2.2.2.1⟩
      · exact g6
theorem off19 : True := by
  w_top off
  trivial
local macro_rules | `(tactic| walk_at "m stepsR") => `(tactic| repeat' ((fail_if_success (with_reducible show wpAny _ _ (call (Value.ref 176) _) _ _ _)); (fail_if_success (with_reducible show wpAny _ _ (call (Value.ref 335) _) _ _ _)); (fail_if_success (with_reducible show wpAny _ _ (call (Value.ref 342) _) _ _ _)); (fail_if_success (with_reducible show wpAny _ _ (call (Value.ref 347) _) _ _ _)); (fail_if_success (with_reducible show wpAny _ _ (call (Value.ref 354) _) _ _ _)); (fail_if_success (with_reducible show wpAny _ _ (call (Value.ref 105) _) _ _ _)); (fail_if_success (with_reducible show wpAny _ _ (compareOp CmpOp.NotEq (Value.ref _) (Value.ref _)) _ _ _)); (fail_if_success (with_reducible show wpAny _ _ (eval (Expr.ListComp _ _ _ _) _) _ _ _)); (fail_if_success (with_reducible show LCg.CompSrc _ _ _ _ _ _ _ _ _ _ _ _ _ _)); (fail_if_success (with_reducible show wpAny _ _ (pyIter _) _ _ _)); (fail_if_success (with_reducible show wpAny _ _ (exec (Stmt.For _ _ _ _ _) _) _ _ _)); first | (k_unfold; (try dsimp only)) | (dsimp only; walk1) | walk1))
local macro_rules | `(tactic| walk_at "m site") => `(tactic| exact Site.mk ⟨_, _, _, _, _, _, _, by k_asm, by k_asm, by k_asm⟩ rfl)
structure RtSt where
  rl : Nat
  vs : List Value
  ns : List Int
  c : Nat
  place : Int
  tp : Tok
  its : List Value
  nn : Nat
  T : List (Addr × Obj)
theorem ints_at : ∀ {vs : List Value} {ns : List Int}, IntsAre vs ns → ∀ {i : Nat} {v : Value}, vs[i]? = some v → i < ns.length ∧ ∃ t, v = .int (ns.getD i 0) t
  | _, _, .nil, i, v, h => by simp at h
  | _, _, .cons a t hr, 0, v, h => by
    simp only [List.getElem?_cons_zero, Option.some.injEq] at h
    exact ⟨by simp, t, by simpa using h.symm⟩
  | _, _, .cons a t hr, i + 1, v, h => by
    simp only [List.getElem?_cons_succ] at h
    obtain ⟨h1, u, e⟩ := ints_at hr h
    exact ⟨by simpa using h1, u, by simpa using e⟩
theorem right_spec {src n : Nat} {a b : Int} {ta tb : Tok}
    (W : Site w h₀ outer cs) (F : Fr h₀ L s.heap m) (hd : dp + 60 < recursionLimit) (hu : un + 800 < cLine)
    (N : News h₀ L s.heap [(src, lst [.int a ta, .int b tb] n)])
    (ha : 0 ≤ a) (hb : 0 ≤ b) (hb2 : b < 2147483647)
    (h : ∀ h' tk', Fr h₀ L h' m → Keeps [src] s.heap h' → Q (.bool true) { s with heap := h', toks := tk' })
    : wpAny (model prog w) (ktrTop dp un gd cn cs L ca ccd cl outer) (call (.ref 359) [.ref src]) Q E s := by
  refine' enterM (binds := [(Str.ofString "source", .ref src)]) W F N ?kd ?ko ?kc ?kb ?kl ?_ ?c1 ?c2 ?c3 ?c4
  walk_at "m enter"
  intro A₀ base p loose mean mg mb g L' h₁ kp og st ltL F' N' B' X' T'
  k_fold
  walk_at "m stepsR"
  (rename Fr g L' _ _ => F1)
  (rename News g L' _ _ => N1)
  k_dflt (refine' rowids_spec ?W ?F ?d ?u ?N ?ha ?hb ?hc ?_; (case W => walk_at "m site"); (case F => exact F1); (case d => walk_at "m room"); (case u => walk_at "m room"); (case N => exact N1); (case ha => exact ha); (case hb => exact hb); (case hc => exact hb2))
  intro rl vs ns c a2 b2 ta2 tb2 n2 h2 tk2 fr1 hi hp hl hk ha2 hb3 hc2 F2 K2 hs2 hr2
  have N2 : News g L' h2 [(rl, lst vs c), (src, lst [.int a2 ta2, .int b2 tb2] n2)] := News.cat (FreshAt.news F1 fr1 hr2) (News.put N1 K2 hs2 (Upd.head fun p hp => nomatch hp))
  have hrs : @Ne Nat src rl := FreshAt.ne fr1 N1 _ (.head _)
  have hf : ∀ k ∈ ns, Fits k := fun k hk' => ⟨(hk k hk').1, by have := (hk k hk').2; omega⟩
  walk_at "m stepsR"
  (rename Fr g L' _ _ => F3)
  (rename News g L' _ _ => N3)
  k_dflt (refine' table_spec ?W ?F ?d ?u ?N ?hi ?hp ?hn ?hf ?ha ?hb ?hc ?hsr ?_; (case W => walk_at "m site"); (case F => exact F3); (case d => walk_at "m room"); (case u => walk_at "m room"); (case N => exact News.sub N3 (by walk_at "m subO")); (case hi => exact hi); (case hp => exact hp); (case hn => omega); (case hf => exact hf); (case ha => exact ha2); (case hb => exact hb3); (case hc => exact hc2); (case hsr => exact hrs))
  intro x d r k1 k2 k3 place tp its nn a3 b3 ta3 tb3 n3 h3 tk3 fx fd frr R3 ha3 hb4 hc3 F4 K4 hs4 hx4 hd4 hr4
  obtain ⟨T, NT, hT, RB⟩ := Rows.split F4 R3
  have N4 : News g L' h3 ((rl, lst vs c) :: (x, instObj 305 d) :: (d, tabD w.params k1 k2 k3 r place tp) :: (r, lst its nn) :: (src, lst [.int a3 ta3, .int b3 tb3] n3) :: T) := by
    intro p hp
    simp only [List.mem_cons] at hp
    rcases hp with rfl | rfl | rfl | rfl | rfl | hp
    · exact ⟨K4 _ _ (N3 _ (by k_mem)).1 (by simpa using Ne.symm hrs), (N3 _ (by k_mem)).2⟩
    · exact FreshAt.news F3 fx hx4 _ (.head _)
    · exact FreshAt.news F3 fd hd4 _ (.head _)
    · exact FreshAt.news F3 frr hr4 _ (.head _)
    · exact ⟨hs4, (N3 (src, lst [.int a2 ta2, .int b2 tb2] n2) (by k_mem)).2⟩
    · exact NT p hp
  have e1 : @Ne Nat rl r := FreshAt.ne frr N3 (rl, lst vs c) (by k_mem)
  have e2 : @Ne Nat rl d := FreshAt.ne fd N3 (rl, lst vs c) (by k_mem)
  have e3 : @Ne Nat src r := FreshAt.ne frr N3 (src, lst [.int a2 ta2, .int b2 tb2] n2) (by k_mem)
  have e4 : @Ne Nat src d := FreshAt.ne fd N3 (src, lst [.int a2 ta2, .int b2 tb2] n2) (by k_mem)
  obtain ⟨hxd, hxr, hdr⟩ := ledger_apart (News.three N4 (by k_mem) (by k_mem) (by k_mem))
  clear fx fd frr R3 K4 hs4 hx4 hd4 hr4 N3 F3
  walk_at "m stepsR"
  refine For_invV g (by rfl) (by rfl) ?_ (hE := PassesOwn.never)
  walk_at "m stepsR"
  rename_i h5 tk5 t5 u5 v5 hR5 F5 N5 kk5
  refine range_loop (σ := RtSt) (n := 3) (fun c1 => (c1.rl, lst c1.vs c1.c) :: (x, instObj 305 d) :: (d, tabD w.params k1 k2 k3 r c1.place c1.tp) :: (r, lst c1.its c1.nn) :: (src, lst [.int a3 ta3, .int b3 tb3] n3) :: c1.T) (fun c1 => [(Str.ofString "rowids", .ref c1.rl)]) [Str.ofString "due"]
    (fun i c1 => IntsAre c1.vs c1.ns ∧ c1.ns.Pairwise (· < ·) ∧ c1.ns.length ≤ 8 + i ∧ (∀ k ∈ c1.ns, -(2 ^ 63) ≤ k ∧ k ≤ maxInt) ∧ RowsB g c1.T c1.its (recs c1.ns) ∧ (∀ p ∈ c1.T, p.2.cls = .type "tuple") ∧ @Ne Nat c1.rl r ∧ @Ne Nat c1.rl d) ⟨rl, vs, ns, c, place, tp, its, nn, T⟩
    rfl hR5 (by decide) (by decide) F5 N5 (List.forall_mem_cons.mpr ⟨rfl, List.forall_mem_nil _⟩) ⟨hi, hp, hl, hk, RB, hT, e1, e2⟩ ?_ ?_
  · clear hi hp hl hk RB hT e1 e2 F5 N5 hf hrs hR5 kk5
    rintro i ⟨rl, vs, ns, c, place, tp, its, nn, T⟩ k t u h7 tk7 I oI hi3 rfl ⟨hi, hp, hl, hk, RB, hT, e1, e2⟩ hoff hIc F7 N7
    dsimp only at hi hp hl hk RB hT e1 e2 hoff F7 N7
    simp only [List.forall_mem_cons] at hoff
    obtain ⟨o1, o2, o3, o4, o5, oT⟩ := hoff
    replace o1 : @Ne Nat rl I := o1
    replace o2 : @Ne Nat x I := o2
    replace o3 : @Ne Nat d I := o3
    replace o4 : @Ne Nat r I := o4
    replace o5 : @Ne Nat src I := o5
    replace F7 : Fr g L' _ _ := F7
    replace N7 : News g L' _ _ := N7
    have hlen := hi.length
    walk_at "m stepsR"
    (rename Fr g L' _ _ => F8)
    (rename News g L' _ _ => N8)
    k_dflt (refine' due_spec ?W ?F ?d ?u ?N ?hi ?hn ?_; (case W => walk_at "m site"); (case F => exact F8); (case d => walk_at "m room"); (case u => walk_at "m room"); (case N => exact News.one N8 (by k_mem)); (case hi => exact hi); (case hn => omega))
    intro v tv h9 tk9 hDu F9 K9
    have N9 := News.still N8 K9
    obtain ⟨hvn, hv1, hv2⟩ := due_range hk (by omega) hDu
    have hkf : Fits v := ⟨hv1, by omega⟩
    clear K9 N8 F8
    walk_at "m stepsR"
    (rename Fr g L' _ _ => F8)
    (rename News g L' _ _ => N8)
    have hTd := tail_off (T := T) (a := d) (o := tabD w.params k1 k2 k3 r place tp) N8 (by k_mem) (by walk_at "m subT") hT (type_ne (by decide : ("dict" : String) ≠ "tuple"))
    have hrl : its.length ≤ 100 := by have := RB.length; unfold recs at this; rw [List.length_map] at this; omega
    k_dflt (refine' new_rowid_spec ?W ?F ?d ?u ?N ?n ?R ?ha ?_; (case W => walk_at "m site"); (case F => exact F8); (case d => walk_at "m room"); (case u => walk_at "m room"); (case N => exact News.three N8 (by k_mem) (by k_mem) (by k_mem)); (case n => omega); (case R => exact RowsB.rows F8 N8 (by walk_at "m subT") RB); (case ha => exact recs_asc hp))
    intro v2 tv2 pl2 tp2 h10 tk10 hV F10 K10 hD10
    have N10 := News.put N8 K10 hD10 (by k_upd)
    obtain rfl := new_due_recs hp hV hDu
    clear K10 hD10 hTd F8 N8
    walk_at "m stepsR"
    · exact absurd (rfl : v2 = v2) (by assumption)
    (rename Fr g L' _ _ => F8)
    (rename News g L' _ _ => N8)
    have hTd := tail_off (T := T) (a := d) (o := tabD w.params k1 k2 k3 r pl2 tp2) N8 (by k_mem) (by walk_at "m subT") hT (type_ne (by decide : ("dict" : String) ≠ "tuple"))
    k_dflt (refine' law_rows_spec ?W ?F ?d ?u ?N ?n ?R ?_; (case W => walk_at "m site"); (case F => exact F8); (case d => walk_at "m room"); (case u => walk_at "m room"); (case N => exact News.three N8 (by k_mem) (by k_mem) (by k_mem)); (case n => omega); (case R => exact RowsB.rows F8 N8 (by walk_at "m subT") RB))
    intro fl fits nf pl3 tp3 h11 tk11 frl Rf F11 K11 hD11 hfl
    have N11 := News.put N8 K11 hD11 (by k_upd)
    obtain ⟨T2, NT2, hT2, RB2⟩ := Rows.split F11 Rf
    obtain ⟨T9, hT9a, hT9b, hT9, N12⟩ : ∃ T9 : List (Addr × Obj), (∀ p ∈ T, p ∈ T9) ∧ (∀ p ∈ T2, p ∈ T9) ∧ (∀ p ∈ T9, p.2.cls = .type "tuple") ∧ News g L' h11 ((fl, lst fits nf) :: (I, oI) :: (rl, lst vs c) :: (x, instObj 305 d) :: (d, tabD w.params k1 k2 k3 r pl3 tp3) :: (r, lst its nn) :: (src, lst [.int a3 ta3, .int b3 tb3] n3) :: T9) := by
      refine ⟨T ++ T2, fun p hp => List.mem_append_left _ hp, fun p hp => List.mem_append_right _ hp, fun p hp => (List.mem_append.mp hp).elim (hT p) (hT2 p), fun p hp => ?_⟩
      rcases List.mem_cons.mp hp with rfl | hp
      · exact FreshAt.news F8 frl hfl _ (.head _)
      rw [← List.cons_append, ← List.cons_append, ← List.cons_append, ← List.cons_append, ← List.cons_append, ← List.cons_append] at hp
      exact (List.mem_append.mp hp).elim (N11 p) (NT2 p)
    have RBt := RB.mono hT9a
    have RBf := RB2.mono hT9b
    clear K11 hD11 hTd F8 N8 N11 NT2 hT2 RB2 Rf hfl frl hT9a hT9b hT RB
    walk_at "m stepsR"
    (rename Fr g L' _ _ => F8)
    refine LCg.ListComp_U (F₀ := F8) (by rfl) (by decide) (by rfl) (by decide) (by rfl) ?_
    walk_at "m stepsR"
    refine LCg.CompSrc.ledger (its := vs.toArray) (k := c) rfl F8 N12 (by k_mem) (by rw [sizeLine_eq]; simp only [List.size_toArray]; omega) ?_
    intro g9
    refine compRest_ind (fun i ys news => ∃ T', news = (fl, lst fits nf) :: (I, oI) :: (rl, lst vs c) :: (x, instObj 305 d) :: (d, tabD w.params k1 k2 k3 r pl3 tp3) :: (r, lst its nn) :: (src, lst [.int a3 ta3, .int b3 tb3] n3) :: T' ∧ (∀ p ∈ T9, p ∈ T') ∧ (∀ p ∈ T', p.2.cls = .type "tuple") ∧ RowsB g T' ys (recs (ns.take i))) vs.length ?_ ?_ _ 0 [] _ (by simp) ⟨T9, rfl, fun p hp => hp, hT9, RowsB.nil⟩
    · rintro j ys news v5 I5 oI5 C5 oC5 D5 m2 h2 tk2 E2 hj ⟨T', rfl, hs9, hT', RY⟩ hv hC hx F2 N2 ⟨⟨o01, o02, o03⟩, ⟨o11, o12, o13⟩, ⟨o21, o22, o23⟩, ⟨o31, o32, o33⟩, ⟨o41, o42, o43⟩, ⟨o51, o52, o53⟩, ⟨o61, o62, o63⟩, oT'⟩ ⟨m91, m92, m93⟩
      obtain ⟨hjn, tv5, rfl⟩ := ints_at hi (by simpa using hv)
      have hkm : ns.getD j 0 ∈ ns := by
        rw [List.getD_eq_getElem?_getD, List.getElem?_eq_getElem hjn]
        exact List.getElem_mem _
      have hkf5 : Fits (ns.getD j 0) := ⟨(hk _ hkm).1, by have := (hk _ hkm).2; omega⟩
      clear hkm F8 N12
      walk_at "m stepsR"
      rename_i x8 t81 n81 e8 t82 n82 r8 t83 n83 hRc D8 h8 F8 N8 l8
      obtain ⟨rfl⟩ := hRc
      obtain ⟨q1, q2, q3, q4, q5, q6, q7, q8, q9, q10, q11⟩ := l8
      show LCg.CompEnd _ _ _ _ _ _ _ _ _ _ _ _ _ _
      refine LCg.CompEnd.intro F8 N8 ((fl, lst fits nf) :: (I, oI) :: (rl, lst vs c) :: (x, instObj 305 d) :: (d, tabD w.params k1 k2 k3 r pl3 tp3) :: (r, lst its nn) :: (src, lst [.int a3 ta3, .int b3 tb3] n3) :: (D8, tup (ns.getD j 0) tv5 (recOf (ns.getD j 0)) t83 0) :: T') ?_ ⟨⟨o01, o02, o03⟩, ⟨o11, o12, o13⟩, ⟨o21, o22, o23⟩, ⟨o31, o32, o33⟩, ⟨o41, o42, o43⟩, ⟨o51, o52, o53⟩, ⟨o61, o62, o63⟩, ⟨Nat.ne_of_gt q1, Nat.ne_of_gt q2, Nat.ne_of_gt q3⟩, oT'⟩ (.inr ⟨lst vs c, by k_mem, rfl, c, rfl⟩) ⟨(D8, tup (ns.getD j 0) tv5 (recOf (ns.getD j 0)) t83 0) :: T', rfl, fun p hp => .tail _ (hs9 p hp), List.forall_mem_cons.mpr ⟨rfl, hT'⟩, ?_⟩
      · intro p hp
        simp only [List.mem_cons] at hp ⊢
        rcases hp with h | h | h | h | h | h | h | h | h | h | h | h
        all_goals simp only [h, true_or, or_true]
      · rw [take_getD (d := 0) hjn]
        unfold recs
        rw [List.map_append]
        exact (RY.mono fun p hp => .tail _ hp).snoc (.head _)
    · rintro ys news ⟨T', rfl, hs9, hT', RY⟩
      unfold LCg.FinE
      intro D h2 tk2 F2 N2 oD
      dsimp only
      rw [List.take_of_length_le (by omega)] at RY
      have RBt' := RBt.mono hs9
      have RBf' := RBf.mono hs9
      clear RBt RBf N12 F8
      walk_at "m stepsR"
      refine ne_rows (n := nf) (n2 := ys.length) (News.get N2 (by k_mem)) (News.get N2 (.head _)) (RBf'.rows F2 N2 (by walk_at "m subT")) (RY.rows F2 N2 (by walk_at "m subT")) (by dsimp only [ktrTop, Around.deeper]; omega) ?_
      walk_at "m stepsR"
      (rename IsRec _ _ => hRc)
      obtain ⟨rfl⟩ := hRc
      (rename Fr g L' _ _ => F8)
      (rename News g L' _ _ => N8)
      k_dflt (refine' insert_row_T [(I, oI), (rl, lst vs c), (src, lst [.int a3 ta3, .int b3 tb3] n3)] ?W ?F ?d ?u ?N ?x ?y ?z ?n ?R ?ha ?hO ?h1 ?h2 ?_; (case W => walk_at "m site"); (case F => exact F8); (case d => walk_at "m room"); (case u => walk_at "m room"); (case N => exact N8); (case x => k_mem); (case y => k_mem); (case z => k_mem); (case n => omega); (case R => exact RowsB.rows F8 N8 (by walk_at "m subT") RBt'); (case ha => exact recs_asc hp); (case hO => walk_at "m subO"); (case h1 => exact ⟨Ne.symm o3, e2, e4, trivial⟩); (case h2 => exact ⟨Ne.symm o4, e1, e3, trivial⟩))
      intro its6 nn6 pl6 tp6 h6 tk6 T6 hT6 R6 F6 N6
      simp only [List.cons_append, List.nil_append] at N6
      have hT6I := tail_off (T := T6) (a := I) (o := oI) N6 (by k_mem) (by walk_at "m subT") hT6 hIc
      clear RBt' RBf' RY
      walk_at "m stepsR"
      rename_i l91 h91 lt91 D92 w92 h92 hI92 lt92 D93 w93 ns93 c93 h93 hI93 he93 hp93 ho93 hb93 hp93' lt93 h94 F9 N9
      obtain ⟨s1, s2⟩ := sort_facts hp hvn hp93 ho93
      rw [recs_put hp s1 s2] at R6
      simp only [List.length_append, List.length_cons, List.length_nil] at he93
      dsimp only [RlPost]
      refine rl_end ⟨D93, w93, ns93, c93, pl6, tp6, its6, nn6, T6⟩ F9 N9 (by k_mem) ?_ (List.forall_mem_cons.mpr ⟨Nat.ne_of_gt lt93.2.2.2.2.2.1, List.forall_mem_cons.mpr ⟨o2, List.forall_mem_cons.mpr ⟨o3, List.forall_mem_cons.mpr ⟨o4, List.forall_mem_cons.mpr ⟨o5, hT6I⟩⟩⟩⟩⟩) (List.forall_mem_cons.mpr ⟨by rfl, List.forall_mem_nil _⟩) ?_ ⟨hI93, s1, by dsimp only; omega, ?_, R6, hT6, Nat.ne_of_gt lt93.2.2.2.2.1, Nat.ne_of_gt lt93.2.2.2.1⟩
      · intro p hp
        simp only [List.mem_cons] at hp ⊢
        rcases hp with h | h | h | h | h | h
        all_goals simp only [h, true_or, or_true]
      · intro z h1 h2 h3
        simp only [List.forall_mem_cons, List.not_mem_nil, false_implies, implies_true, and_true, ne_eq] at h2
        simp only [List.contains_cons, List.contains_nil, Bool.or_false, beq_eq_false_iff_ne, ne_eq] at h3
        simp [kstB, h1, h2, h3]
      · intro q hq
        rcases (s2 q).mp hq with hq | rfl
        · exact hk q hq
        · exact ⟨hv1, hv2⟩
  · rintro ⟨rl, vs, ns, c, place, tp, its, nn, T⟩ u h7 tk7 ⟨hi, hp, hl, hk, RB, hT, e1, e2⟩ F7 N7
    dsimp only at hi hp hl hk RB hT e1 e2 F7 N7
    dsimp only
    replace F7 : Fr g L' _ _ := F7
    replace N7 : News g L' _ _ := N7
    walk_at "m stepsR"
    (rename Fr g L' _ _ => F9)
    (rename News g L' _ _ => N9)
    show LeaveM _ _ _ _ _ _ _ _ _
    refine leaveM_ F9 fun FL KS => ?_
    exact h _ _ FL KS
theorem off20 : True := by
  w_top off
  trivial
local macro_rules | `(tactic| walk_at "m stepsL") => `(tactic| repeat' ((fail_if_success (with_reducible show wpAny _ _ (call (Value.ref 176) _) _ _ _)); (fail_if_success (with_reducible show wpAny _ _ (call (Value.ref 305) _) _ _ _)); (fail_if_success (with_reducible show wpAny _ _ (call (Value.ref 316) _) _ _ _)); (fail_if_success (with_reducible show wpAny _ _ (call (Value.ref 359) _) _ _ _)); (fail_if_success (with_reducible show wpAny _ _ (call (Value.ref 105) _) _ _ _)); (fail_if_success (with_reducible show wpAny _ _ (pyIter _) _ _ _)); (fail_if_success (with_reducible show wpAny _ _ (exec (Stmt.For _ _ _ _ _) _) _ _ _)); first | (k_unfold; (try dsimp only)) | (dsimp only; walk1) | walk1))
theorem News.nilOf {h₀ h h' : Heap} {L : Addr} {news : List (Addr × Obj)} (N : News h₀ L h news) : News h₀ L h' [] := News.nil
theorem new_nil {v : Int} (h : NewIs [] v) : v = 1 := by
  rcases h with ⟨_, h⟩ | ⟨h, _⟩ | ⟨h, _⟩
  · exact h
  · exact absurd rfl h
  · exact absurd rfl h
def three : List (Int × Array UInt8) := [(-4, #[120]), (1, #[120]), (9223372036854775807, #[120])]
theorem three_asc : Asc three := by
  unfold Asc three
  simp
theorem three_is : putRow 1 #[120] (putRow (-4) #[120] (putRow 9223372036854775807 #[120] [])) = three := by
  simp [putRow, three]
theorem new_three {v : Int} (h : NewIs three v) : v = 2 := by
  refine new_due three_asc h (.inr ⟨9223372036854775807, by simp [three], fun a ha => ?_, .inr ⟨by unfold maxInt; omega, by omega, by simp [three], by simp [three], fun a h1 h2 h3 => ?_⟩⟩)
  · simp only [three, List.map_cons, List.map_nil, List.mem_cons, List.not_mem_nil, or_false] at ha
    omega
  · simp only [three, List.map_cons, List.map_nil, List.mem_cons, List.not_mem_nil, or_false, not_or] at h3
    omega
set_option maxHeartbeats 16000000 in
theorem law_holds : PySem.Challenge.rw_xm0757_01.Holds := hd (by
  k_go0
  walk_at "m stepsL"
  rename World => w
  rename Shared => s1
  rename Top _ _ _ _ _ _ => TT
  rename IntsAre _ _ => hIA
  rename Heap.IsList _ _ _ => hLS
  have hlenA := hIA.length
  (rename Fr _ _ _ _ => F1)
  (rename News _ _ _ _ => N1)
  show wpAny _ _ (call (Value.ref 305) []) _ _ _
  k_dflt (refine' make_T ?W ?F ?d ?u ?N ?_; (case W => walk_at "m site"); (case F => exact F1); (case d => decide); (case u => decide); (case N => exact N1))
  intro x d r k1 k2 k3 tp0 h5 tk5 F5 N5 ly lx lr lxr
  clear F1 N1
  simp only [AllLt, and_true] at lx lr
  obtain ⟨hxd, hxr, hdr⟩ := ledger_apart (News.three N5 (by k_mem) (by k_mem) (by k_mem))
  walk_at "m stepsL"
  (rename Fr _ _ _ _ => F6)
  (rename News _ _ _ _ => N6)
  k_dflt (refine' new_rowid_spec ?W ?F ?d ?u ?N ?n ?R ?ha ?_; (case W => walk_at "m site"); (case F => exact F6); (case d => decide); (case u => decide); (case N => exact News.three N6 (by k_mem) (by k_mem) (by k_mem)); (case n => decide); (case R => exact Rows.nil); (case ha => exact List.Pairwise.nil))
  intro v2 tv2 pl2 tp2 h10 tk10 hV F10 K10 hD10
  have N10 := News.put N6 K10 hD10 (by k_upd)
  obtain rfl := new_nil hV
  clear K10 hD10 F6 N6
  walk_at "m stepsL"
  (first | (dsimp only; walk1) | walk1)
  walk_at "m stepsL"
  (first | (dsimp only; walk1) | walk1)
  walk_at "m stepsL"
  rename_i t0 D2 h82 lD i2 li h81 tk81 F81 o2 hc2 N81 h80 F80 N80
  k_dflt (refine' insert_row_T [(i2, o2), (D2, { cls := .type "tuple", data := .seq #[.int (2 ^ Int.toNat 63 - 1) (t0 + 1 + 1 + 1 + 1), .int (-4) (t0 + 1 + 1 + 1 + 1 + 1 + 1), .int 1 (t0 + 1 + 1 + 1 + 1 + 1 + 1 + 1)] })] ?W ?F ?d ?u ?N ?x ?y ?z ?n ?R ?ha ?hO ?h1 ?h2 ?_; (case W => walk_at "m site"); (case F => exact F80); (case d => decide); (case u => decide); (case N => exact N80); (case x => k_mem); (case y => k_mem); (case z => k_mem); (case n => decide); (case R => exact Rows.nil); (case ha => exact List.Pairwise.nil); (case hO => walk_at "m subO"); (case h1 => exact ⟨Nat.ne_of_gt li.2.2.1, Nat.ne_of_gt lD.2.1, trivial⟩); (case h2 => exact ⟨Nat.ne_of_gt li.2.2.2, Nat.ne_of_gt lD.2.2, trivial⟩))
  intro its21 nn21 pl21 tp21 h21 tk21 T21 hT21 R21 F21 N21
  simp only [List.cons_append, List.nil_append] at N21
  have hI21 := tail_off (T := T21) (a := i2) (o := o2) N21 (by k_mem) (by walk_at "m subT") hT21 (by rw [hc2]; exact type_ne (by decide : ("tuple_iterator" : String) ≠ "tuple"))
  have hlen21 := R21.length
  walk_at "m stepsL"
  (rename Fr _ _ _ _ => F321)
  (rename News _ _ _ _ => N321)
  refine ⟨_, _, _, (x, instObj 305 d) :: (d, tabD w.params k1 k2 k3 r pl21 tp21) :: (r, lst its21 nn21) :: (D2, { cls := .type "tuple", data := .seq #[.int (2 ^ Int.toNat 63 - 1) (t0 + 1 + 1 + 1 + 1), .int (-4) (t0 + 1 + 1 + 1 + 1 + 1 + 1), .int 1 (t0 + 1 + 1 + 1 + 1 + 1 + 1 + 1)] }) :: T21, rfl, F321, fun p hp => N321 p ?_, ?_, by k_subL, ?_⟩
  · simp only [List.cons_append, List.nil_append, List.mem_cons] at hp ⊢
    rcases hp with h | h | h | h | h | h
    all_goals simp only [h, true_or, or_true]
  · intro p hp q hq
    rw [List.mem_singleton.mp hq]
    rcases List.mem_cons.mp hp with rfl | hp
    · exact Nat.ne_of_lt li.2.1
    rcases List.mem_cons.mp hp with rfl | hp
    · exact Nat.ne_of_lt li.2.2.1
    rcases List.mem_cons.mp hp with rfl | hp
    · exact Nat.ne_of_lt li.2.2.2
    rcases List.mem_cons.mp hp with rfl | hp
    · exact Nat.ne_of_lt li.1
    exact hI21 p hp
  walk_at "m stepsL"
  rename_i z21 z22 z23 o3 hc3 z24 z25 F41 N41
  k_dflt (refine' insert_row_T [(i2, o3), (D2, { cls := .type "tuple", data := .seq #[.int (2 ^ Int.toNat 63 - 1) (t0 + 1 + 1 + 1 + 1), .int (-4) (t0 + 1 + 1 + 1 + 1 + 1 + 1), .int 1 (t0 + 1 + 1 + 1 + 1 + 1 + 1 + 1)] })] ?W ?F ?d ?u ?N ?x ?y ?z ?n ?R ?ha ?hO ?h1 ?h2 ?_; (case W => walk_at "m site"); (case F => exact F41); (case d => decide); (case u => decide); (case N => exact N41); (case x => k_mem); (case y => k_mem); (case z => k_mem); (case n => exact Nat.le_trans (Nat.le_of_eq hlen21) (by decide)); (case R => exact RowsB.rows F41 N41 (by walk_at "m subT") R21); (case ha => exact (put_asc List.Pairwise.nil)); (case hO => walk_at "m subO"); (case h1 => exact ⟨Nat.ne_of_gt li.2.2.1, Nat.ne_of_gt lD.2.1, trivial⟩); (case h2 => exact ⟨Nat.ne_of_gt li.2.2.2, Nat.ne_of_gt lD.2.2, trivial⟩))
  intro its22 nn22 pl22 tp22 h22 tk22 T22 hT22 R22 F22 N22
  simp only [List.cons_append, List.nil_append] at N22
  have hI22 := tail_off (T := T22) (a := i2) (o := o3) N22 (by k_mem) (by walk_at "m subT") hT22 (by rw [hc3]; exact type_ne (by decide : ("tuple_iterator" : String) ≠ "tuple"))
  have hlen22 := R22.length
  walk_at "m stepsL"
  (rename Fr _ _ _ _ => F322)
  (rename News _ _ _ _ => N322)
  refine ⟨_, _, _, (x, instObj 305 d) :: (d, tabD w.params k1 k2 k3 r pl22 tp22) :: (r, lst its22 nn22) :: (D2, { cls := .type "tuple", data := .seq #[.int (2 ^ Int.toNat 63 - 1) (t0 + 1 + 1 + 1 + 1), .int (-4) (t0 + 1 + 1 + 1 + 1 + 1 + 1), .int 1 (t0 + 1 + 1 + 1 + 1 + 1 + 1 + 1)] }) :: T22, rfl, F322, fun p hp => N322 p ?_, ?_, by k_subL, ?_⟩
  · simp only [List.cons_append, List.nil_append, List.mem_cons] at hp ⊢
    rcases hp with h | h | h | h | h | h
    all_goals simp only [h, true_or, or_true]
  · intro p hp q hq
    rw [List.mem_singleton.mp hq]
    rcases List.mem_cons.mp hp with rfl | hp
    · exact Nat.ne_of_lt li.2.1
    rcases List.mem_cons.mp hp with rfl | hp
    · exact Nat.ne_of_lt li.2.2.1
    rcases List.mem_cons.mp hp with rfl | hp
    · exact Nat.ne_of_lt li.2.2.2
    rcases List.mem_cons.mp hp with rfl | hp
    · exact Nat.ne_of_lt li.1
    exact hI22 p hp
  walk_at "m stepsL"
  rename_i z31 z32 z33 o4 hc4 z34 z35 F42 N42
  k_dflt (refine' insert_row_T [(i2, o4), (D2, { cls := .type "tuple", data := .seq #[.int (2 ^ Int.toNat 63 - 1) (t0 + 1 + 1 + 1 + 1), .int (-4) (t0 + 1 + 1 + 1 + 1 + 1 + 1), .int 1 (t0 + 1 + 1 + 1 + 1 + 1 + 1 + 1)] })] ?W ?F ?d ?u ?N ?x ?y ?z ?n ?R ?ha ?hO ?h1 ?h2 ?_; (case W => walk_at "m site"); (case F => exact F42); (case d => decide); (case u => decide); (case N => exact N42); (case x => k_mem); (case y => k_mem); (case z => k_mem); (case n => exact Nat.le_trans (Nat.le_of_eq hlen22) (Nat.le_trans (put_len _) (by decide))); (case R => exact RowsB.rows F42 N42 (by walk_at "m subT") R22); (case ha => exact (put_asc (put_asc List.Pairwise.nil))); (case hO => walk_at "m subO"); (case h1 => exact ⟨Nat.ne_of_gt li.2.2.1, Nat.ne_of_gt lD.2.1, trivial⟩); (case h2 => exact ⟨Nat.ne_of_gt li.2.2.2, Nat.ne_of_gt lD.2.2, trivial⟩))
  intro its23 nn23 pl23 tp23 h23 tk23 T23 hT23 R23 F23 N23
  simp only [List.cons_append, List.nil_append] at N23
  have hI23 := tail_off (T := T23) (a := i2) (o := o4) N23 (by k_mem) (by walk_at "m subT") hT23 (by rw [hc4]; exact type_ne (by decide : ("tuple_iterator" : String) ≠ "tuple"))
  have hlen23 := R23.length
  walk_at "m stepsL"
  (rename Fr _ _ _ _ => F323)
  (rename News _ _ _ _ => N323)
  refine ⟨_, _, _, (x, instObj 305 d) :: (d, tabD w.params k1 k2 k3 r pl23 tp23) :: (r, lst its23 nn23) :: (D2, { cls := .type "tuple", data := .seq #[.int (2 ^ Int.toNat 63 - 1) (t0 + 1 + 1 + 1 + 1), .int (-4) (t0 + 1 + 1 + 1 + 1 + 1 + 1), .int 1 (t0 + 1 + 1 + 1 + 1 + 1 + 1 + 1)] }) :: T23, rfl, F323, fun p hp => N323 p ?_, ?_, by k_subL, ?_⟩
  · simp only [List.cons_append, List.nil_append, List.mem_cons] at hp ⊢
    rcases hp with h | h | h | h | h | h
    all_goals simp only [h, true_or, or_true]
  · intro p hp q hq
    rw [List.mem_singleton.mp hq]
    rcases List.mem_cons.mp hp with rfl | hp
    · exact Nat.ne_of_lt li.2.1
    rcases List.mem_cons.mp hp with rfl | hp
    · exact Nat.ne_of_lt li.2.2.1
    rcases List.mem_cons.mp hp with rfl | hp
    · exact Nat.ne_of_lt li.2.2.2
    rcases List.mem_cons.mp hp with rfl | hp
    · exact Nat.ne_of_lt li.1
    exact hI23 p hp
  walk_at "m stepsL"
  rw [show (2 : Int) ^ Int.toNat 63 - 1 = 9223372036854775807 by decide +kernel, three_is] at R23
  clear hlen23 hlen22 hlen21 R22 R21 hI21 hI22 hI23
  have hlen23 := R23.length
  (rename Fr _ _ _ _ => F51)
  (rename News _ _ _ _ => N51)
  have hTd := tail_off (T := T23) (a := d) (o := tabD w.params k1 k2 k3 r pl23 tp23) N51 (by k_mem) (by walk_at "m subT") hT23 (type_ne (by decide : ("dict" : String) ≠ "tuple"))
  k_dflt (refine' new_rowid_spec ?W ?F ?d ?u ?N ?n ?R ?ha ?_; (case W => walk_at "m site"); (case F => exact F51); (case d => decide); (case u => decide); (case N => exact News.three N51 (by k_mem) (by k_mem) (by k_mem)); (case n => exact Nat.le_trans (Nat.le_of_eq hlen23) (by decide)); (case R => exact RowsB.rows F51 N51 (by walk_at "m subT") R23); (case ha => exact three_asc))
  intro v3 tv3 pl3 tp3 h60 tk60 hV3 F60 K60 hD60
  have N60 := News.nilOf (h' := h60) N51
  obtain rfl := new_three hV3
  clear K60 hD60 F51 N51 hTd
  walk_at "m stepsL"
  refine For_invV TT.heap (by rfl) (by rfl) ?_ (hE := by passes_own)
  walk_at "m stepsL"
  all_goals (rename IsRange _ _ _ _ _ _ _ _ => hR5)
  all_goals (rename Fr _ _ _ _ => F5)
  all_goals (rename News _ _ _ _ => N5)
  all_goals first
    | refine range_loop (σ := Unit) (n := 2) (fun _ => []) (fun _ => []) [] (fun _ _ => True) () rfl hR5 (by decide) (by decide) F5 N5 (List.forall_mem_nil _) trivial ?_ ?_
    | refine range_loop (σ := Unit) (n := 1) (fun _ => []) (fun _ => []) [] (fun _ _ => True) () rfl hR5 (by decide) (by decide) F5 N5 (List.forall_mem_nil _) trivial ?_ ?_
    | refine range_loop (σ := Unit) (n := 0) (fun _ => []) (fun _ => []) [] (fun _ _ => True) () rfl hR5 (by decide) (by decide) F5 N5 (List.forall_mem_nil _) trivial ?_ ?_
  all_goals clear F5 N5 hR5
  · rintro i ⟨⟩ k t uu h7 tk7 I oI hi3 rfl - hoff hIc F7 N7
    replace F7 : Fr s1.heap s1.heap.objs.size _ _ := F7
    replace N7 : News s1.heap s1.heap.objs.size _ _ := N7
    walk_at "m stepsL"
    (rename Fr _ _ _ _ => F8)
    (rename News _ _ _ _ => N8)
    k_dflt (refine' pool_spec ?W ?F ?d ?qu ?hl ?hi ?hn ?hk0 ?hk1 ?_; (case W => walk_at "m site"); (case F => exact F8); (case d => decide); (case qu => decide); (case hl => first | exact Fr.lst F8 hLS | exact Fr.lst F8 (by assumption)); (case hi => assumption); (case hn => omega); (case hk0 => omega); (case hk1 => omega))
    intro fl a1 b1 ta1 tb1 n1 h8 tk8 frf ha1 hb1 hc1 F9 K9 hfl
    have N9 : News s1.heap s1.heap.objs.size h8 [(I, oI), (fl, lst [.int a1 ta1, .int b1 tb1] n1)] := News.cat (News.still (News.one N8 (p := (I, oI)) (by k_mem)) K9) (FreshAt.news F8 frf hfl)
    have hIf : @Ne Nat I fl := FreshAt.ne frf N8 (I, oI) (by k_mem)
    clear F8 N8 K9
    walk_at "m stepsL"
    (rename Fr _ _ _ _ => F8)
    (rename News _ _ _ _ => N8)
    k_dflt (refine' right_spec ?W ?F ?d ?qu ?N ?ha ?hb ?hc ?_; (case W => walk_at "m site"); (case F => exact F8); (case d => decide); (case qu => decide); (case N => exact News.one N8 (by k_mem)); (case ha => exact ha1); (case hb => exact hb1); (case hc => exact hc1))
    intro h9 tk9 F10 K10
    have N10 : News s1.heap s1.heap.objs.size h9 [(I, oI)] := fun p hp => by
      rw [List.mem_singleton.mp hp]
      exact ⟨K10 _ _ (N8 (I, oI) (by k_mem)).1 (fun q => hIf (List.mem_singleton.mp q)), (N8 (I, oI) (by k_mem)).2⟩
    clear F8 N8 K10
    walk_at "m stepsL"
    dsimp only [RlPost]
    refine rl_end () (by assumption) N10 (.head _) (List.forall_mem_nil _) (List.forall_mem_nil _) (List.forall_mem_nil _) ?_ trivial
    intro z h1 _ h3
    simp only [List.contains_nil] at h3
    simp [kstB, h1]
  · rintro ⟨⟩ uu h7 tk7 - F7 N7
    dsimp only
    replace F7 : Fr s1.heap s1.heap.objs.size _ _ := F7
    replace N7 : News s1.heap s1.heap.objs.size _ _ := N7
    k_steps
  · rintro i ⟨⟩ k t uu h7 tk7 I oI hi3 rfl - hoff hIc F7 N7
    replace F7 : Fr s1.heap s1.heap.objs.size _ _ := F7
    replace N7 : News s1.heap s1.heap.objs.size _ _ := N7
    walk_at "m stepsL"
    (rename Fr _ _ _ _ => F8)
    (rename News _ _ _ _ => N8)
    k_dflt (refine' pool_spec ?W ?F ?d ?qu ?hl ?hi ?hn ?hk0 ?hk1 ?_; (case W => walk_at "m site"); (case F => exact F8); (case d => decide); (case qu => decide); (case hl => first | exact Fr.lst F8 hLS | exact Fr.lst F8 (by assumption)); (case hi => assumption); (case hn => omega); (case hk0 => omega); (case hk1 => omega))
    intro fl a1 b1 ta1 tb1 n1 h8 tk8 frf ha1 hb1 hc1 F9 K9 hfl
    have N9 : News s1.heap s1.heap.objs.size h8 [(I, oI), (fl, lst [.int a1 ta1, .int b1 tb1] n1)] := News.cat (News.still (News.one N8 (p := (I, oI)) (by k_mem)) K9) (FreshAt.news F8 frf hfl)
    have hIf : @Ne Nat I fl := FreshAt.ne frf N8 (I, oI) (by k_mem)
    clear F8 N8 K9
    walk_at "m stepsL"
    (rename Fr _ _ _ _ => F8)
    (rename News _ _ _ _ => N8)
    k_dflt (refine' right_spec ?W ?F ?d ?qu ?N ?ha ?hb ?hc ?_; (case W => walk_at "m site"); (case F => exact F8); (case d => decide); (case qu => decide); (case N => exact News.one N8 (by k_mem)); (case ha => exact ha1); (case hb => exact hb1); (case hc => exact hc1))
    intro h9 tk9 F10 K10
    have N10 : News s1.heap s1.heap.objs.size h9 [(I, oI)] := fun p hp => by
      rw [List.mem_singleton.mp hp]
      exact ⟨K10 _ _ (N8 (I, oI) (by k_mem)).1 (fun q => hIf (List.mem_singleton.mp q)), (N8 (I, oI) (by k_mem)).2⟩
    clear F8 N8 K10
    walk_at "m stepsL"
    dsimp only [RlPost]
    refine rl_end () (by assumption) N10 (.head _) (List.forall_mem_nil _) (List.forall_mem_nil _) (List.forall_mem_nil _) ?_ trivial
    intro z h1 _ h3
    simp only [List.contains_nil] at h3
    simp [kstB, h1]
  · rintro ⟨⟩ uu h7 tk7 - F7 N7
    dsimp only
    replace F7 : Fr s1.heap s1.heap.objs.size _ _ := F7
    replace N7 : News s1.heap s1.heap.objs.size _ _ := N7
    k_steps
  · rintro i ⟨⟩ k t uu h7 tk7 I oI hi3 rfl - hoff hIc F7 N7
    replace F7 : Fr s1.heap s1.heap.objs.size _ _ := F7
    replace N7 : News s1.heap s1.heap.objs.size _ _ := N7
    walk_at "m stepsL"
    (rename Fr _ _ _ _ => F8)
    (rename News _ _ _ _ => N8)
    k_dflt (refine' pool_spec ?W ?F ?d ?qu ?hl ?hi ?hn ?hk0 ?hk1 ?_; (case W => walk_at "m site"); (case F => exact F8); (case d => decide); (case qu => decide); (case hl => first | exact Fr.lst F8 hLS | exact Fr.lst F8 (by assumption)); (case hi => assumption); (case hn => omega); (case hk0 => omega); (case hk1 => omega))
    intro fl a1 b1 ta1 tb1 n1 h8 tk8 frf ha1 hb1 hc1 F9 K9 hfl
    have N9 : News s1.heap s1.heap.objs.size h8 [(I, oI), (fl, lst [.int a1 ta1, .int b1 tb1] n1)] := News.cat (News.still (News.one N8 (p := (I, oI)) (by k_mem)) K9) (FreshAt.news F8 frf hfl)
    have hIf : @Ne Nat I fl := FreshAt.ne frf N8 (I, oI) (by k_mem)
    clear F8 N8 K9
    walk_at "m stepsL"
    (rename Fr _ _ _ _ => F8)
    (rename News _ _ _ _ => N8)
    k_dflt (refine' right_spec ?W ?F ?d ?qu ?N ?ha ?hb ?hc ?_; (case W => walk_at "m site"); (case F => exact F8); (case d => decide); (case qu => decide); (case N => exact News.one N8 (by k_mem)); (case ha => exact ha1); (case hb => exact hb1); (case hc => exact hc1))
    intro h9 tk9 F10 K10
    have N10 : News s1.heap s1.heap.objs.size h9 [(I, oI)] := fun p hp => by
      rw [List.mem_singleton.mp hp]
      exact ⟨K10 _ _ (N8 (I, oI) (by k_mem)).1 (fun q => hIf (List.mem_singleton.mp q)), (N8 (I, oI) (by k_mem)).2⟩
    clear F8 N8 K10
    walk_at "m stepsL"
    dsimp only [RlPost]
    refine rl_end () (by assumption) N10 (.head _) (List.forall_mem_nil _) (List.forall_mem_nil _) (List.forall_mem_nil _) ?_ trivial
    intro z h1 _ h3
    simp only [List.contains_nil] at h3
    simp [kstB, h1]
  · rintro ⟨⟩ uu h7 tk7 - F7 N7
    dsimp only
    replace F7 : Fr s1.heap s1.heap.objs.size _ _ := F7
    replace N7 : News s1.heap s1.heap.objs.size _ _ := N7
    k_steps)
end Mine
theorem PySem.Challenge.cw_xm0757_01_holds : PySem.Challenge.rw_xm0757_01.Holds :=
  Mine.law_holds
