import PyProof.Rows.All
import Wide.All
import OpenK.AllK
import Wide.FinOn
import Lean
import PySem.Challenge.RW_tk0045_01
open PySem PySem.W PyProof.Rows PySem.Calls
set_option Elab.async false
set_option maxRecDepth 100000
set_option maxHeartbeats 8000000
namespace Mine
/-- the top's state, without its pieces: the start-up by the library's lemma, the text's own run at once -/
theorem of_boot {p q : Program} {loose : List Str} {Xt : Shared → Bool} {α : Type} {Yf : Shared → α} {Ya : World → α} {N : Nat} {g0 : Bool}
    (e : opening p = plainProg p.main.scope.names) (hN : Nat.ble 600 N = true) (f : ∀ s, fenceModules? p s = some s)
    (run : ∀ w : World, (fun os => (topFrom treeTable p w N ⟨boot_heap w.params, #[], boot_drawn, boot_toks, os⟩).map (fun s => (openSeen q loose (importedModules p.main.body) Xt g0 s, Yf s))) = fun _ => some (openGood q loose, Ya w)) : LeftO p q loose Xt Yf Ya N g0 := fun w => by
  obtain ⟨⟨h, gs, d, k, os⟩, a, b⟩ := Option.map_eq_some_iff.mp (boot_open e hN f w)
  obtain ⟨rfl, rfl, rfl, rfl⟩ : h = boot_heap w.params ∧ gs = #[] ∧ d = boot_drawn ∧ k = boot_toks := by simpa using b
  unfold openEnds
  rw [a]
  exact congrFun (run w) os
section
-- the head's one goal that the kit would close in pieces (17 MB of twins): closed at once, with the library's own twins of the run, the table and the look
local macro_rules
  | `(tactic| first | refine $t:term | fail $s:str) => do
    if s.getString.startsWith "open_line: no head takes this row" then
      `(tactic| (refine $t; case hl => (refine of_boot (by kernel_rfl) (by kernel_rfl) (fun s => by kernel_rfl) (fun w => ?_); unfold topFrom; rw [PySem.W.Fast.te14082659384304107361, PySem.W.Fast.te14364793385576792824, PySem.W.Fast.te4187177175401517315]; kernel_rfl)))
    else Lean.Macro.throwUnsupported
open_top hd for PySem.Challenge.rw_tk0045_01
end
end Mine
namespace Mine
abbrev PR : Program := PySem.Challenge.rw_tk0045_01.row.prog
abbrev Tp (mean : ExcName → Option Value) (mg mb : Str → Option Value) (h : Heap) : Prop := Top hd.view_39 (looseW hd.view_39 []) mean mg mb h
abbrev At (dp un : Nat) (fr : Option (List Env)) (gd : Option (List Code)) : Around := { handled := none, depth := dp, frames := fr, guards := gd, units := un }
abbrev Grow (h h' : Heap) : Prop := ∀ b o, h.get? b = some o → h'.get? b = some o
abbrev tupOf (its : Array Value) (n : Nat) : Obj := { cls := .type "tuple", data := .seq its n }

theorem enter {prog : Program} {w : World} {A : Around} {s : Shared} {K : Frag} {p : Program} {loose : List Str} {mean : ExcName → Option Value} {mg mb : Str → Option Value}
    {name qual : Str} {params : Arguments} {body : List Stmt} {scope : Scope} {dV kV doc pm cdv ct oc : Value} {an od : Option Addr} {osl : Array (Option Value)} {f : Addr} {vs : List Value}
    {Q E : Value → Shared → Prop}
    (X : K.In s.heap) (T : Top p loose mean mg mb s.heap)
    (ho : K.lookup f = some ⟨oc, od, .func (fnOf name qual params body scope dV kV doc pm an cdv ct), osl⟩) (hcd : codeIn K cdv qual = true) (hroom : A.depth < recursionLimit)
    (hbind : bindArgs (fnOf name qual params body scope dV kV doc pm an cdv ct) ⟨vs, []⟩ = pure ((params.args.map (·.arg)).zip vs)) (hloc : ∀ y ∈ (params.args.map (·.arg)).zip vs, scope.names.lookup y.1 = some .local)
    (h : ∀ L' h₁, Fr s.heap L' h₁ (fun y => ((params.args.map (·.arg)).zip vs).reverse.lookup y) → News s.heap L' h₁ [] →
      wpAny (model prog w) (A.deeper (envOf qual scope L' f cdv)) (execs body (envOf qual scope L' f cdv))
        (fun fl s' => Q (match fl with | .ret v => v | _ => .none) s') (fun _ _ => False)
        { s with heap := h₁, toks := s.toks + ((params.args.map (·.arg)).zip vs).length })
    (hco : scope.isCoroutine = false) (hgen : scope.isGenerator = false) (hk : scope.kind = .function)
    (hcell : ∀ x ∈ scope.names, x.2 ≠ .cell) : wpAny (model prog w) A (call (.ref f) vs) Q E s := by
  refine wpAny_call (codeAny_call_def (fd := fnOf name qual params body scope dV kV doc pm an cdv ct) (body := body) (binds := (params.args.map (·.arg)).zip vs) hroom (X _ _ ho) rfl T.nolimit (codeRec_of X hcd) rfl (BindsTo.of_eq hbind) hcell hloc (fun h₁ hns hk₁ => ?_) hco hgen hk)
  exact wpAny_mono (h s.heap.objs.size h₁ ⟨hns, hk₁, Nat.le_refl _⟩ News.nil) (fun _ _ x => x) fun _ _ x => x.elim

theorem enterC {prog : Program} {w : World} {A : Around} {s : Shared} {K : Frag} {p : Program} {loose : List Str} {mean : ExcName → Option Value} {mg mb : Str → Option Value}
    {name qual : Str} {params : Arguments} {body : List Stmt} {scope : Scope} {dV kV doc pm cdv ct oc : Value} {an od : Option Addr} {osl : Array (Option Value)} {f : Addr} {vs : List Value}
    {Q E : Value → Shared → Prop}
    (X : K.In s.heap) (T : Top p loose mean mg mb s.heap)
    (ho : K.lookup f = some ⟨oc, od, .func (fnOf name qual params body scope dV kV doc pm an cdv ct), osl⟩) (hcd : codeIn K cdv qual = true) (hroom : A.depth < recursionLimit)
    (hbind : bindArgs (fnOf name qual params body scope dV kV doc pm an cdv ct) ⟨vs, []⟩ = pure ((params.args.map (·.arg)).zip vs))
    (hkind : (((params.args.map (·.arg)).zip vs).all fun y => scope.names.lookup y.1 == some .local || scope.names.lookup y.1 == some .cell) = true)
    (hnd : ((cellsFrom 0 scope.names []).map (·.1)).Nodup)
    (h : ∀ L' h₁ tk cells, Fr s.heap L' h₁ (bindL (envOfC qual scope L' f cdv).kindOf ((params.args.map (·.arg)).zip vs) fun _ => none) → News s.heap L' h₁ cells →
      CellsAre (bindC (envOfC qual scope L' f cdv).kindOf ((params.args.map (·.arg)).zip vs) fun _ => none) (cellsFrom (L' + 1) scope.names []) cells →
      wpAny (model prog w) (A.deeper (envOfC qual scope L' f cdv)) (execs body (envOfC qual scope L' f cdv))
        (fun fl s' => Q (match fl with | .ret v => v | _ => .none) s') (fun _ _ => False)
        { s with heap := h₁, toks := tk })
    (hco : scope.isCoroutine = false) (hgen : scope.isGenerator = false) (hk : scope.kind = .function) : wpAny (model prog w) A (call (.ref f) vs) Q E s := by
  refine wpAny_call (codeAny_call_function hroom (X _ _ ho) rfl hco hgen rfl (codeRec_of X hcd) (BindsTo.of_eq hbind _ _ _ _ ?_))
  refine wpAny_newFunctionEnv_cells hk (kindsX hkind _) fun env' he s' x => ?_
  subst he
  refine ⟨T.nolimit.keeps x.toInCall.keep, codeAny_func ?_⟩
  obtain ⟨h₁, tk, rfl, _⟩ := x.done
  have hk₁ := x.toInCall.keep
  obtain ⟨cells, NC, Y⟩ := Cl.news (h₀ := s.heap) (Nat.le_refl _) fun n c hm => ⟨x.cell n c (lookup_of_mem_nodup (cellsFrom_names scope.names 0 (s.heap.objs.size + 1) [] [] rfl ▸ hnd) hm), x.above n c hm⟩
  exact wpAny_mono (h _ h₁ tk cells ⟨x.toInCall.ns, hk₁, Nat.le_refl _⟩ NC Y) (fun _ _ x => x) fun _ _ x => x.elim

/-- a contract of a def: the heap only grows -/
def Ct (w : World) (mean : ExcName → Option Value) (mg mb : Str → Option Value) (d : Nat) (f : Addr) (vs : List Value) (Pre : Heap → Prop) (Post : Heap → Value → Heap → Prop) : Prop :=
  ∀ (dp un : Nat) (fr : Option (List Env)) (gd : Option (List Code)) (s : Shared) (Q E : Value → Shared → Prop),
    dp + d < recursionLimit → un + 10 * d + 10 < cLine → (hd.heap_39 w.params).In s.heap → Tp mean mg mb s.heap → Pre s.heap →
    (∀ v h' tk', Grow s.heap h' → Post s.heap v h' → Q v { s with heap := h', toks := tk' }) →
    wpAny (model PR w) (At dp un fr gd) (call (.ref f) vs) Q E s

abbrev PostI (r : Int) : Heap → Value → Heap → Prop := fun _ v _ => ∃ t, v = .int r t
abbrev PostL (r : List Int) : Heap → Value → Heap → Prop := fun h v h' => ∃ a vs n, v = .ref a ∧ h.get? a = none ∧ h'.get? a = some (listOf (List.toArray vs) n) ∧ IntsAre vs r
abbrev PostS (r : List Int) : Heap → Value → Heap → Prop := fun h v h' => ∃ a la vs n k, v = .ref a ∧ h.get? a = none ∧ h.get? la = none ∧ a ≠ la ∧ h'.get? a = some (tupOf #[.bool false, .ref la] k) ∧ h'.get? la = some (listOf (List.toArray vs) n) ∧ IntsAre vs r
abbrev PreS (a la : Addr) (vs : List Value) (h : Heap) : Prop := IsTup h a #[.bool false, .ref la] ∧ h.IsList la vs.toArray

def NeAll (a : Addr) : List (Addr × Obj) → Prop
  | [] => True
  | p :: r => @Ne Nat p.1 a ∧ NeAll a r
theorem neAll_of {h₀ h : Heap} {L a : Addr} : ∀ {news : List (Addr × Obj)}, News h₀ L h news → h.get? a = none → NeAll a news
  | [], _, _ => trivial
  | p :: r, N, e => ⟨fun q => (by have h1 := (N p (.head _)).1; rw [q, e] at h1; cases h1), neAll_of (fun x hx => N x (.tail _ hx)) e⟩

section
variable {w : World} {mean : ExcName → Option Value} {mg mb : Str → Option Value} {d dp un : Nat} {fr : Option (List Env)} {gd : Option (List Code)} {f : Addr} {vs : List Value} {Pre : Heap → Prop} {Post : Heap → Value → Heap → Prop}
  {s : Shared} {Q E : Value → Shared → Prop} {h₀ : Heap} {L : Addr} {m : Str → Option Value} {news : List (Addr × Obj)}
theorem use (C : Ct w mean mg mb d f vs Pre Post) (F : Fr h₀ L s.heap m) (X : (hd.heap_39 w.params).In h₀) (T : Tp mean mg mb h₀) (hdp : dp + d < recursionLimit) (hu : un + 10 * d + 10 < cLine) (hp : Pre s.heap)
    (ret : ∀ v h' tk', Grow s.heap h' → Fr h₀ L h' m → Post s.heap v h' → Q v { s with heap := h', toks := tk' }) : wpAny (model PR w) (At dp un fr gd) (call (.ref f) vs) Q E s :=
  C dp un fr gd s Q E hdp hu (X.keeps F.keep) (T.keeps F.keep) hp fun v h' tk' hg hP => ret v h' tk' hg (F.keeps hg) hP
theorem useI {r : Int} (C : Ct w mean mg mb d f vs Pre (PostI r)) (F : Fr h₀ L s.heap m) (X : (hd.heap_39 w.params).In h₀) (T : Tp mean mg mb h₀) (N : News h₀ L s.heap news) (hdp : dp + d < recursionLimit) (hu : un + 10 * d + 10 < cLine) (hp : Pre s.heap)
    (ret : ∀ t h' tk', Grow s.heap h' → Fr h₀ L h' m → News h₀ L h' news → Q (.int r t) { s with heap := h', toks := tk' }) : wpAny (model PR w) (At dp un fr gd) (call (.ref f) vs) Q E s :=
  use C F X T hdp hu hp fun v h' tk' hg F' hP => by
    obtain ⟨t, rfl⟩ := hP
    exact ret t h' tk' hg F' (N.grown hg)
theorem news_add {h h' : Heap} {a : Addr} {o : Obj} (F : Fr h₀ L h m) (N : News h₀ L h news) (hg : Grow h h') (hn : h.get? a = none) (ho : h'.get? a = some o) : News h₀ L h' ((a, o) :: news) := by
  intro p hp
  rcases List.mem_cons.mp hp with rfl | hp
  · refine ⟨ho, fun e => ?_, ?_⟩
    · obtain ⟨oL, _, _, hL, _⟩ := F.ns
      have e' : a = L := e
      rw [e', hL] at hn; cases hn
    · cases hq : h₀.get? a with
      | none => rfl
      | some x => have := F.keep _ _ hq; rw [hn] at this; cases this
  · exact N.grown hg p hp
theorem useL {r : List Int} (C : Ct w mean mg mb d f vs Pre (PostL r)) (F : Fr h₀ L s.heap m) (X : (hd.heap_39 w.params).In h₀) (T : Tp mean mg mb h₀) (N : News h₀ L s.heap news) (hdp : dp + d < recursionLimit) (hu : un + 10 * d + 10 < cLine) (hp : Pre s.heap)
    (ret : ∀ a us n h' tk', IntsAre us r → Fr h₀ L h' m → News h₀ L h' ((a, listOf us.toArray n) :: news) → NeAll a news → Q (.ref a) { s with heap := h', toks := tk' }) : wpAny (model PR w) (At dp un fr gd) (call (.ref f) vs) Q E s :=
  use C F X T hdp hu hp fun v h' tk' hg F' hP => by
    obtain ⟨a, us, n, rfl, hn, ho, hi⟩ := hP
    exact ret a us n h' tk' hi F' (news_add F N hg hn ho) (neAll_of N hn)
theorem useT {la : Addr} (C : Ct w mean mg mb d f vs Pre (fun h v h' => ∃ a k, v = .ref a ∧ h.get? a = none ∧ h'.get? a = some (tupOf #[.bool false, .ref la] k))) (F : Fr h₀ L s.heap m) (X : (hd.heap_39 w.params).In h₀) (T : Tp mean mg mb h₀) (N : News h₀ L s.heap news) (hdp : dp + d < recursionLimit) (hu : un + 10 * d + 10 < cLine) (hp : Pre s.heap)
    (ret : ∀ a k h' tk', Fr h₀ L h' m → News h₀ L h' ((a, tupOf #[.bool false, .ref la] k) :: news) → NeAll a news → Q (.ref a) { s with heap := h', toks := tk' }) : wpAny (model PR w) (At dp un fr gd) (call (.ref f) vs) Q E s :=
  use C F X T hdp hu hp fun v h' tk' hg F' hP => by
    obtain ⟨a, k, rfl, hn, ho⟩ := hP
    exact ret a k h' tk' F' (news_add F N hg hn ho) (neAll_of N hn)
theorem useS {r : List Int} (C : Ct w mean mg mb d f vs Pre (PostS r)) (F : Fr h₀ L s.heap m) (X : (hd.heap_39 w.params).In h₀) (T : Tp mean mg mb h₀) (N : News h₀ L s.heap news) (hdp : dp + d < recursionLimit) (hu : un + 10 * d + 10 < cLine) (hp : Pre s.heap)
    (ret : ∀ a la us n k h' tk', IntsAre us r → Fr h₀ L h' m → News h₀ L h' ((a, tupOf #[.bool false, .ref la] k) :: (la, listOf us.toArray n) :: news) → NeAll a ((la, listOf us.toArray n) :: news) → NeAll la news → Q (.ref a) { s with heap := h', toks := tk' }) : wpAny (model PR w) (At dp un fr gd) (call (.ref f) vs) Q E s :=
  use C F X T hdp hu hp fun v h' tk' hg F' hP => by
    obtain ⟨a, la, us, n, k, rfl, hn, hn2, hne, ho, ho2, hi⟩ := hP
    have N1 := news_add F N hg hn2 ho2
    have N2 := news_add F N hg hn ho
    refine ret a la us n k h' tk' hi F' (fun p hp => ?_) ⟨fun e => hne e.symm, neAll_of N hn⟩ (neAll_of N hn2)
    rcases List.mem_cons.mp hp with rfl | hp
    · exact N2 _ (.head _)
    · exact N1 _ hp
end
theorem endL {h₀ h' : Heap} {L a : Addr} {us : List Value} {n : Nat} {r : List Int} {news : List (Addr × Obj)} (N : News h₀ L h' news) (hm : (a, listOf us.toArray n) ∈ news) (hi : IntsAre us r) : PostL r h₀ (.ref a) h' :=
  ⟨a, us, n, rfl, (N _ hm).2.2, (N _ hm).1, hi⟩
theorem endS {h₀ h' : Heap} {L a la : Addr} {us : List Value} {n k : Nat} {r : List Int} {news : List (Addr × Obj)} (N : News h₀ L h' news) (hm : (a, tupOf #[.bool false, .ref la] k) ∈ news) (hm2 : (la, listOf us.toArray n) ∈ news) (hi : IntsAre us r) : PostS r h₀ (.ref a) h' :=
  ⟨a, la, us, n, k, rfl, (N _ hm).2.2, (N _ hm2).2.2, (fun e => (by have h1 := (N _ hm).1; have h2 := (N _ hm2).1; have e' : a = la := e; subst e'; rw [h1] at h2; have h3 := congrArg Obj.cls (Option.some.inj h2); simp at h3)), (N _ hm).1, (N _ hm2).1, hi⟩
def Halt (P : Prop) : Prop := P
theorem halt {P : Prop} (h : Halt P) : P := h
def Lb (ns : List Int) : Prop := ∀ x ∈ ns, 0 ≤ x ∧ x < 64
theorem Lb.getD {ns : List Int} (h : Lb ns) (i : Nat) : 0 ≤ ns.getD i 0 ∧ ns.getD i 0 < 64 := by
  by_cases hi : i < ns.length
  · have := h (ns[i]) (List.getElem_mem hi)
    simpa [List.getD, hi] using this
  · have e : ns.getD i 0 = 0 := by simp [List.getD, Nat.le_of_not_lt hi]
    rw [e]; decide
theorem Lb.small {ns : List Int} (h : Lb ns) (i : Nat) : (ns.getD i 0).natAbs < 2 ^ 64 := by have := h.getD i; omega
theorem Lb.smallOf {ns : List Int} (h : Lb ns) {x : Int} (hx : x ∈ ns) : x.natAbs < 2 ^ 64 := by have := h x hx; omega
theorem fdiv_lo {n b : Int} (hn : 0 ≤ n) (hb : 0 < b) : 0 ≤ n.fdiv b := by
  rw [Int.fdiv_eq_ediv_of_nonneg _ (by omega)]; exact Int.ediv_nonneg hn (by omega)
theorem fdiv_hi {n b : Int} (hn : 0 ≤ n) (hb : 0 < b) : n.fdiv b ≤ n := by
  rw [Int.fdiv_eq_ediv_of_nonneg _ (by omega)]; exact Int.ediv_le_self _ hn
end Mine
open Mine
local macro_rules | `(tactic| walk_at "M enter") => `(tactic| (k_dflt (refine' enter ?kX ?kT ?k6 ?k7 ?k8 ?k9 ?kB ?_ ?c2 ?c3 ?c4 ?c5; (case kX => assumption); (case kT => assumption); (case k6 => k_is); (case k7 => k_is); (case k8 => ktr_room); (case k9 => exact rfl); (case c5 => decide); (case kB => exact locs rfl); (case c2 => exact rfl); (case c3 => exact rfl); (case c4 => exact rfl)); (intro L' h' F' N'); (simp only [List.map_cons, List.map_nil, List.zip_cons_cons, List.zip_nil_left, List.zip_nil_right, List.reverse_cons, List.reverse_nil, List.nil_append, List.cons_append] at F'); (try dsimp only)))
local macro_rules | `(tactic| walk_at "M enterC") => `(tactic| (k_dflt (refine' enterC ?kX ?kT ?k6 ?k7 ?k8 ?k9 ?kB ?kD ?_ ?c2 ?c3 ?c4; (case kX => assumption); (case kT => assumption); (case k6 => k_is); (case k7 => k_is); (case k8 => ktr_room); (case k9 => exact rfl); (case kB => exact rfl); (case kD => decide +kernel); (case c2 => exact rfl); (case c3 => exact rfl); (case c4 => exact rfl)); (intro L' h' tk' cells' F' N' Y'); k_cells Y'; (try simp only [List.cons_append, List.nil_append] at N'); (try dsimp only)))
local macro_rules | `(tactic| walk_at "M small") => `(tactic| first | decide | omega | exact Lb.small (by assumption) _ | exact Lb.smallOf (by assumption) (by assumption))
local macro_rules | `(tactic| walk_at "binaryOp LShift int int") => `(tactic| ((with_unfolding_all refine' lshift_int_small ?k1 ?k2 ?k3 ?_); (case k1 => omega); (case k2 => omega); (case k3 => walk_at "M small")))
local macro_rules | `(tactic| walk_at "pyIter ref") => `(tactic| (with_reducible refine halt ?_))
local macro_rules | `(tactic| walk_at "M ints") => `(tactic| ((try simp only [List.concat_eq_append]); l_ints))
local macro_rules | `(tactic| walk_at "M len") => `(tactic| first | omega | ((try simp only [List.length_append, List.length_cons, List.length_nil, List.length_map]); omega) | ((simp only [rangeKs_length, List.length_map] at *); omega))
local macro_rules | `(tactic| walk_at "M conds") => `(tactic| first | (with_reducible refine And.intro ?_ ?_; walk_at "M cond"; walk_at "M conds") | walk_at "M cond")
local macro_rules | `(tactic| walk_at "M cond") => `(tactic| first | assumption | omega | walk_at "M len")
local macro_rules | `(tactic| walk_at "M tup") => `(tactic| first | (with_reducible assumption) | exact IsTup.keeps (by assumption) (Fr.keep (by assumption)) | exact News.isTup (by assumption) (by k_mem))
local macro_rules | `(tactic| walk_at "M pre") => `(tactic| (refine ⟨?_, ?_⟩; walk_at "M tup"; is_list))
local macro_rules | `(tactic| walk_at "exec While") => `(tactic| (k_extra "stop while"; with_reducible refine halt ?_))
local macro_rules | `(tactic| walk_at "exec While Compare cons nil") => `(tactic| (k_extra "stop while"; with_reducible refine halt ?_))
local macro_rules | `(tactic| walk_at "exec While BoolOp cons nil") => `(tactic| (k_extra "stop while"; with_reducible refine halt ?_))
local macro_rules | `(tactic| walk_at "eval ListComp") => `(tactic| (k_extra "stop comp"; with_reducible refine halt ?_))
local macro_rules | `(tactic| walk_at "call type:zip") => `(tactic| (k_extra "stop comp"; with_reducible refine halt ?_))
local macro_rules | `(tactic| walk_at "call type:range") => `(tactic| ((rename Fr _ _ _ _ => F'); (rename News _ _ _ _ => N'); first | (with_unfolding_all refine range1_rows F' N' ?_; intro _ _ _ _ _ _ _ _ _) | (with_unfolding_all refine range2_rows F' N' ?_; intro _ _ _ _ _ _ _ _ _)))
local macro_rules | `(tactic| walk_at "KswEnd") => `(tactic| (k_extra "stop end"; with_reducible refine halt ?_))
namespace Mine
section
variable {w : World} {mean : ExcName → Option Value} {mg mb : Str → Option Value} {la lb a b : Addr} {vs us : List Value} {ns ms : List Int} {n k : Int} {t1 t2 : Tok}
def bitZ (ns : List Int) (n w : Int) : Int := if n.fdiv w < ns.length then Builtin.bitAnd ((ns.getD (n.fdiv w).toNat 0).fdiv (2 ^ (n.fmod w).toNat)) 1 else 0
theorem c_bit (hi : IntsAre vs ns) (H : ns.length ≤ 8 ∧ 0 ≤ n ∧ n ≤ 32 ∧ 2 ≤ k ∧ k ≤ 5) :
    Ct w mean mg mb 2 95 [.ref la, .int n t1, .int k t2] (fun h => h.IsList la vs.toArray) (PostI (bitZ ns n k)) := by
  intro dp un fr gd s Q E hdp hu X T hl hret
  try dsimp only at hl hret
  obtain ⟨hlen, hn, hn2, hb2, hb3⟩ := H
  have q1 := fdiv_lo hn (show 0 < k by omega)
  have q2 := fdiv_hi hn (show 0 < k by omega)
  have q3 := fmod_lo n (show 0 < k by omega)
  have q4 := fmod_hi n (show 0 < k by omega)
  walk_at "M enter"
  k_steps
  all_goals (refine hret _ _ _ (Fr.keep (by assumption)) ⟨_, congrArg (fun z => Value.int z _) ?_⟩)
  all_goals (simp only [bitZ]; first | (rw [if_pos (by assumption)]; done) | (rw [if_neg (by assumption)]; done))

theorem c_joint (hi : IntsAre vs ns) (hj : IntsAre us ms) (H : ns.length ≤ 8 ∧ ms.length ≤ 8) :
    Ct w mean mg mb 2 119 [.ref a, .ref b] (fun h => PreS a la vs h ∧ PreS b lb us h) (PostI (max (ns.length : Int) ms.length + 1)) := by
  intro dp un fr gd s Q E hdp hu X T hl hret
  try dsimp only at hl hret
  obtain ⟨⟨ht1, hl1⟩, ht2, hl2⟩ := hl
  obtain ⟨hlen, hlen2⟩ := H
  walk_at "M enter"
  k_steps
  all_goals (refine hret _ _ _ (Fr.keep (by assumption)) ⟨_, congrArg (fun z => Value.int z _) ?_⟩)
  all_goals omega
end
end Mine
local macro_rules | `(tactic| walk_at "call ref") => `(tactic| (k_here; k_dflt (refine' useI (c_bit ?hi ?H) ?F ?X ?T ?N ?dd ?uu ?p ?_; (case F => k_asm); (case X => assumption); (case T => assumption); (case N => k_asm); (case p => is_list); (case hi => walk_at "M ints"); (case H => walk_at "M conds"); (case dd => ktr_room); (case uu => ktr_units)); (intro t' h' tk' hg' F' N'); (try k_sweep)))
local macro_rules | `(tactic| walk_at "call ref") => `(tactic| (k_here; k_dflt (refine' useI (c_joint ?hi ?hj ?H) ?F ?X ?T ?N ?dd ?uu ?p ?_; (case F => k_asm); (case X => assumption); (case T => assumption); (case N => k_asm); (case p => exact ⟨by walk_at "M pre", by walk_at "M pre"⟩); (case hi => walk_at "M ints"); (case hj => walk_at "M ints"); (case H => walk_at "M conds"); (case dd => ktr_room); (case uu => ktr_units)); (intro t' h' tk' hg' F' N'); (try k_sweep)))
namespace Mine
def normalZ : List Int → List Int
  | [] => []
  | a :: r => if normalZ r = [] ∧ a = 0 then [] else a :: normalZ r
theorem getD_at {ns : List Int} {i : Nat} (h : i < ns.length) : ns.getD i 0 = ns[i] := by simp [List.getD, h]
theorem normal_nil_of : ∀ {l : List Int}, (∀ x ∈ l, x = 0) → normalZ l = []
  | [], _ => rfl
  | a :: r, h => by
    rw [normalZ, normal_nil_of fun x hx => h x (.tail _ hx)]
    exact if_pos ⟨rfl, h a (.head _)⟩
theorem normal_keep : ∀ {l r : List Int}, (∀ x ∈ r, x = 0) → (l = [] ∨ ∃ a, l.getLast? = some a ∧ a ≠ 0) → normalZ (l ++ r) = l
  | [], r, h, _ => normal_nil_of h
  | [a], r, h, hl => by
    obtain ⟨b, hb, hne⟩ := hl.resolve_left (by simp)
    simp only [List.getLast?_singleton, Option.some.injEq] at hb
    subst hb
    show normalZ (a :: r) = [a]
    rw [normalZ, normal_nil_of h]
    exact if_neg fun q => hne q.2
  | a :: b :: t, r, h, hl => by
    have ih := normal_keep (l := b :: t) h (.inr (by simpa using hl))
    show normalZ (a :: (b :: t ++ r)) = _
    rw [normalZ, ih]
    exact if_neg fun q => by cases q.1
theorem normal_take {ns : List Int} {k : Int} (h1 : k ≤ (ns.length : Int)) (h0 : min (ns.length : Int) 0 ≤ k)
    (hz : ∀ j : Int, k < j → j ≤ (ns.length : Int) → (if 0 < j then if (ns.getD (j - 1).toNat 0 == 0) = true then true else false else false) = true)
    (hs : (if 0 < k then if (ns.getD (k - 1).toNat 0 == 0) = true then true else false else false) = false) : ns.take k.toNat = normalZ ns := by
  have hk : 0 ≤ k := by omega
  obtain ⟨q, rfl⟩ := Int.eq_ofNat_of_zero_le hk
  simp only [Int.toNat_natCast]
  have hq : q ≤ ns.length := by omega
  conv => rhs; rw [← List.take_append_drop q ns]
  refine (normal_keep ?_ ?_).symm
  · intro x hx
    obtain ⟨i, hi, rfl⟩ := List.mem_iff_getElem.mp hx
    have hi' : i < ns.length - q := by simpa using hi
    have := hz (q + i + 1) (by omega) (by omega)
    rw [if_pos (by omega)] at this
    have e : ((q : Int) + i + 1 - 1).toNat = q + i := by omega
    rw [e] at this
    simp only [List.getElem_drop]
    rw [getD_at (by omega)] at this
    simpa using this
  · cases q with
    | zero => left; simp
    | succ q =>
      right
      rw [if_pos (by omega)] at hs
      have e : (((q + 1 : Nat) : Int) - 1).toNat = q := by omega
      rw [e, getD_at (by omega)] at hs
      refine ⟨ns[q], ?_, by simpa using hs⟩
      rw [List.getLast?_eq_getElem?, List.length_take, Nat.min_eq_left hq]
      simp [hq]
section
variable {w : World} {mean : ExcName → Option Value} {mg mb : Str → Option Value} {la lb a b : Addr} {vs us : List Value} {ns ms : List Int} {n k : Int} {t1 t2 : Tok}
theorem c_normal (hi : IntsAre vs ns) (H : ns.length ≤ 8) :
    Ct w mean mg mb 2 46 [.ref la] (fun h => h.IsList la vs.toArray) (PostL (normalZ ns)) := by
  intro dp un fr gd s Q E hdp hu X T hl hret
  try dsimp only at hl hret
  walk_at "M enter"
  k_steps
  all_goals dsimp only
  refine hret _ _ _ (Fr.keep (by assumption)) (endL (by assumption) (by k_mem) ?_)
  rw [← normal_take (by assumption) (by assumption) (by assumption) (by assumption)]
  assumption
end
end Mine
local macro_rules | `(tactic| walk_at "call ref") => `(tactic| (k_here; k_dflt (refine' useL (c_normal ?hi ?H) ?F ?X ?T ?N ?dd ?uu ?p ?_; (case F => k_asm); (case X => assumption); (case T => assumption); (case N => k_asm); (case p => is_list); (case hi => walk_at "M ints"); (case H => walk_at "M len"); (case dd => ktr_room); (case uu => ktr_units)); (intro a' us' n' h' tk' hi' F' N' ne'); (try simp only [NeAll, and_true] at ne'); (try k_sweep)))
namespace Mine
def shlStep (few w : Int) (p : List Int × Int) (x : Int) : List Int × Int := (p.1 ++ [Builtin.bitAnd (Builtin.bitOr p.2 (x * 2 ^ few.toNat)) (1 * 2 ^ w.toNat - 1)], (Builtin.bitOr p.2 (x * 2 ^ few.toNat)).fdiv (2 ^ w.toNat))
def shlFold (n w : Int) (pre : List Int) : List Int × Int := pre.foldl (shlStep (n.fmod w) w) (List.replicate (n.fdiv w).toNat 0, 0)
def shlZ (ns : List Int) (n w : Int) : List Int := if ns.length = 0 then [] else if 0 < (shlFold n w ns).2 then (shlFold n w ns).1 ++ [(shlFold n w ns).2] else (shlFold n w ns).1
theorem shl_start {n k : Int} (h0 : 0 ≤ n.fdiv k) (h1 : n.fdiv k ≤ n) (hn : n ≤ 32) : (List.replicate (n.fdiv k).toNat [(0 : Int)]).flatten = (shlFold n k []).1 ∧ (0 : Int) = (shlFold n k []).2 ∧ (List.replicate (n.fdiv k).toNat [(0 : Int)]).flatten.length ≤ 32 + ([] : List Int).length := by
  refine ⟨?_, rfl, ?_⟩
  · simp [shlFold]
  · simp
    omega
theorem shl_turn {n k c x : Int} {f pre : List Int} (h : f = (shlFold n k pre).1) (h2 : c = (shlFold n k pre).2) (h3 : f.length ≤ 32 + pre.length) :
    f ++ [Builtin.bitAnd (Builtin.bitOr c (x * 2 ^ (n.fmod k).toNat)) (1 * 2 ^ k.toNat - 1)] = (shlFold n k (pre ++ [x])).1 ∧ (Builtin.bitOr c (x * 2 ^ (n.fmod k).toNat)).fdiv (2 ^ k.toNat) = (shlFold n k (pre ++ [x])).2 ∧
      (f ++ [Builtin.bitAnd (Builtin.bitOr c (x * 2 ^ (n.fmod k).toNat)) (1 * 2 ^ k.toNat - 1)]).length ≤ 32 + (pre ++ [x]).length := by
  subst h h2
  refine ⟨by simp [shlFold, List.foldl_append, shlStep], by simp [shlFold, List.foldl_append, shlStep], ?_⟩
  simp only [List.length_append, List.length_cons, List.length_nil]
  omega
section
variable {w : World} {mean : ExcName → Option Value} {mg mb : Str → Option Value} {la lb a b : Addr} {vs us : List Value} {ns ms : List Int} {n k : Int} {t1 t2 : Tok}
theorem c_shl (hi : IntsAre vs ns) (H : ns.length ≤ 8 ∧ Lb ns ∧ 0 ≤ n ∧ n ≤ 32 ∧ 2 ≤ k ∧ k ≤ 5) :
    Ct w mean mg mb 2 81 [.ref la, .int n t1, .int k t2] (fun h => h.IsList la vs.toArray) (PostL (shlZ ns n k)) := by
  intro dp un fr gd s Q E hdp hu X T hl hret
  try dsimp only at hl hret
  obtain ⟨hlen, hns, hn, hn2, hb2, hb3⟩ := H
  have q1 := fdiv_lo hn (show 0 < k by omega)
  have q2 := fdiv_hi hn (show 0 < k by omega)
  have q3 := fmod_lo n (show 0 < k by omega)
  have q4 := fmod_hi n (show 0 < k by omega)
  walk_at "M enter"
  k_steps
  all_goals (try unfold Halt)
  · refine hret _ _ _ (Fr.keep (by assumption)) (endL (us := []) (by assumption) (by k_mem) ?_)
    rw [shlZ, if_pos (by omega)]
    exact IntsAre.nil
  · k_with_none
    k_with "state" => first | exact shl_start (by assumption) (by assumption) (by assumption) | exact shl_turn (by assumption) (by assumption) (by assumption)
    k_state (fun pre found carry => found = (shlFold n k pre).1 ∧ carry = (shlFold n k pre).2 ∧ found.length ≤ 32 + pre.length) "found" "carry"
    all_goals k_steps
    all_goals dsimp only
    all_goals (refine hret _ _ _ (Fr.keep (by assumption)) (endL (by assumption) (by k_mem) ?_))
    all_goals ((rename _ = Prod.fst (shlFold n k ns) => e1); (rename _ = Prod.snd (shlFold n k ns) => e2); (rw [shlZ, if_neg (by omega), ← e2, ← e1]); (first | (rw [if_pos (by omega)]; done) | (rw [if_neg (by omega)]; done) | rw [if_pos (by omega)] | rw [if_neg (by omega)]); walk_at "M ints")
end
end Mine
local macro_rules | `(tactic| walk_at "call ref") => `(tactic| (k_here; k_dflt (refine' useL (c_shl ?hi ?H) ?F ?X ?T ?N ?dd ?uu ?p ?_; (case F => k_asm); (case X => assumption); (case T => assumption); (case N => k_asm); (case p => is_list); (case hi => walk_at "M ints"); (case H => walk_at "M conds"); (case dd => ktr_room); (case uu => ktr_units)); (intro a' us' n' h' tk' hi' F' N' ne'); (try simp only [NeAll, and_true] at ne'); (try k_sweep)))
namespace Mine
def shrAt (ns : List Int) (n k i : Int) : Int := Builtin.bitAnd (Builtin.bitOr ((ns.getD i.toNat 0).fdiv (2 ^ (n.fmod k).toNat)) (ns.getD (i + 1).toNat 0 * 2 ^ (k - n.fmod k).toNat)) (1 * 2 ^ k.toNat - 1)
def shrZ (ns : List Int) (n k : Int) : List Int := normalZ ((rangeKs (n.fdiv k) ((ns.length : Int) - n.fdiv k).toNat).map (shrAt ns n k))
theorem shr_turn {ns : List Int} {n k i z : Int} {f pre : List Int} (h : f = pre.map (shrAt ns n k)) (h3 : f.length = pre.length) (hz : z = ns.getD (i + 1).toNat 0) :
    f ++ [Builtin.bitAnd (Builtin.bitOr ((ns.getD i.toNat 0).fdiv (2 ^ (n.fmod k).toNat)) (z * 2 ^ (k - n.fmod k).toNat)) (1 * 2 ^ k.toNat - 1)] = (pre ++ [i]).map (shrAt ns n k) ∧
      (f ++ [Builtin.bitAnd (Builtin.bitOr ((ns.getD i.toNat 0).fdiv (2 ^ (n.fmod k).toNat)) (z * 2 ^ (k - n.fmod k).toNat)) (1 * 2 ^ k.toNat - 1)]).length = (pre ++ [i]).length := by
  subst h hz
  simp [shrAt]
theorem getD_out {ns : List Int} {i : Int} (hi : ¬ i < (ns.length : Int)) : (0 : Int) = ns.getD i.toNat 0 := by
  simp [List.getD, show ns.length ≤ i.toNat by omega]
section
variable {w : World} {mean : ExcName → Option Value} {mg mb : Str → Option Value} {la lb a b : Addr} {vs us : List Value} {ns ms : List Int} {n k : Int} {t1 t2 : Tok}
theorem c_shr (hi : IntsAre vs ns) (H : ns.length ≤ 8 ∧ Lb ns ∧ 0 ≤ n ∧ n ≤ 32 ∧ 2 ≤ k ∧ k ≤ 5) :
    Ct w mean mg mb 4 88 [.ref la, .int n t1, .int k t2] (fun h => h.IsList la vs.toArray) (PostL (shrZ ns n k)) := by
  intro dp un fr gd s Q E hdp hu X T hl hret
  try dsimp only at hl hret
  obtain ⟨hlen, hns, hn, hn2, hb2, hb3⟩ := H
  have q1 := fdiv_lo hn (show 0 < k by omega)
  have q2 := fdiv_hi hn (show 0 < k by omega)
  have q3 := fmod_lo n (show 0 < k by omega)
  have q4 := fmod_hi n (show 0 < k by omega)
  walk_at "M enter"
  k_steps
  all_goals (try unfold Halt)
  k_with_none
  k_with "state" => first | exact ⟨rfl, rfl⟩ | exact shr_turn (by assumption) (by assumption) rfl | exact shr_turn (by assumption) (by assumption) (getD_out (by assumption))
  k_state (fun pre found => found = pre.map (shrAt ns n k) ∧ found.length = pre.length) "found"
  all_goals k_steps
  all_goals dsimp only
  (rename _ = List.map (shrAt ns n k) _ => e1)
  refine hret _ _ _ (Fr.keep (by assumption)) (endL (by assumption) (by k_mem) ?_)
  rw [shrZ, ← e1]
  assumption
end
end Mine
local macro_rules | `(tactic| walk_at "call ref") => `(tactic| (k_here; k_dflt (refine' useL (c_shr ?hi ?H) ?F ?X ?T ?N ?dd ?uu ?p ?_; (case F => k_asm); (case X => assumption); (case T => assumption); (case N => k_asm); (case p => is_list); (case hi => walk_at "M ints"); (case H => walk_at "M conds"); (case dd => ktr_room); (case uu => ktr_units)); (intro a' us' n' h' tk' hi' F' N' ne'); (try simp only [NeAll, and_true] at ne'); (try k_sweep)))
namespace Mine
section
variable {w : World} {mean : ExcName → Option Value} {mg mb : Str → Option Value} {la lb a b : Addr} {vs us : List Value} {ns ms : List Int} {n k : Int} {t1 t2 : Tok}
theorem c_row (hi : IntsAre vs ns) (H : ns.length ≤ 8 ∧ (ns.length : Int) ≤ n ∧ n ≤ 9 ∧ 2 ≤ k ∧ k ≤ 5) :
    Ct w mean mg mb 2 107 [.ref a, .int n t1, .int k t2] (fun h => PreS a la vs h) (PostL (ns ++ (List.replicate (n - (ns.length : Int)).toNat [(0 : Int)]).flatten)) := by
  intro dp un fr gd s Q E hdp hu X T hl hret
  try dsimp only at hl hret
  obtain ⟨ht, hl⟩ := hl
  obtain ⟨hlen, hn, hn2, hb2, hb3⟩ := H
  walk_at "M enterC"
  k_steps
  refine hret _ _ _ (Fr.keep (by assumption)) (endL (by assumption) (by k_mem) (by assumption))
theorem c_signed :
    Ct w mean mg mb 2 178 [.bool false, .ref la] (fun _ => True) (fun h v h' => ∃ a k, v = .ref a ∧ h.get? a = none ∧ h'.get? a = some (tupOf #[.bool false, .ref la] k)) := by
  intro dp un fr gd s Q E hdp hu X T hl hret
  try dsimp only at hl hret
  walk_at "M enter"
  k_steps
  (rename News _ _ _ _ => N9)
  exact hret _ _ _ (Fr.keep (by assumption)) ⟨_, _, rfl, (N9 _ (.head _)).2.2, (N9 _ (.head _)).1⟩
end
end Mine
local macro_rules | `(tactic| walk_at "call ref") => `(tactic| (k_here; k_dflt (refine' useL (c_row ?hi ?H) ?F ?X ?T ?N ?dd ?uu ?p ?_; (case F => k_asm); (case X => assumption); (case T => assumption); (case N => k_asm); (case p => walk_at "M pre"); (case hi => walk_at "M ints"); (case H => walk_at "M conds"); (case dd => ktr_room); (case uu => ktr_units)); (intro a' us' n' h' tk' hi' F' N' ne'); (try simp only [NeAll, and_true] at ne'); (try k_sweep)))
local macro_rules | `(tactic| walk_at "call ref") => `(tactic| (k_here; k_dflt (refine' useT c_signed ?F ?X ?T ?N ?dd ?uu ?p ?_; (case F => k_asm); (case X => assumption); (case T => assumption); (case N => k_asm); (case p => trivial); (case dd => ktr_room); (case uu => ktr_units)); (intro a' k' h' tk' F' N' ne'); (try simp only [NeAll, and_true] at ne'); (try k_sweep)))
namespace Mine
def lmF (k : Int) : Nat → Int → List Int
  | 0, _ => []
  | f + 1, x => if x = 0 then [] else x.fmod (2 ^ k.toNat) :: lmF k f (x.fdiv (2 ^ k.toNat))
def lm (k x : Int) : List Int := lmF k 8 x
theorem lmF_length (k : Int) : ∀ f x, (lmF k f x).length ≤ f
  | 0, _ => Nat.le_refl _
  | f + 1, x => by
    rw [lmF]
    split
    · exact Nat.zero_le _
    · rw [List.length_cons]; exact Nat.succ_le_succ (lmF_length k f _)
theorem lm_length (k x : Int) : (lm k x).length ≤ 8 := lmF_length k 8 x
/-- small numbers case by case -/
theorem byK {P : Int → Prop} (h : ∀ k : Fin 4, P ((k : Nat) + 2 : Nat)) {k : Int} (h1 : 2 ≤ k) (h2 : k ≤ 5) : P k := by
  have e : k = (((k.toNat - 2 : Nat) + 2 : Nat) : Int) := by omega
  rw [e]
  exact h ⟨k.toNat - 2, by omega⟩
theorem byN {n : Nat} {P : Int → Prop} (h : ∀ x : Fin n, P ((x : Nat) : Int)) {x : Int} (h1 : 0 ≤ x) (h2 : x < n) : P x := by
  have e : x = ((x.toNat : Nat) : Int) := by omega
  rw [e]
  exact h ⟨x.toNat, by omega⟩
theorem lm_fuel {k x : Int} (h1 : 2 ≤ k) (h2 : k ≤ 5) (h3 : 0 ≤ x) (h4 : x < 16) : lmF k 7 x = lmF k 8 x :=
  byK (P := fun k => lmF k 7 x = lmF k 8 x) (fun k => byN (n := 16) (P := fun x => lmF ((k : Nat) + 2 : Nat) 7 x = lmF ((k : Nat) + 2 : Nat) 8 x) (by revert k; decide +kernel) h3 h4) h1 h2
theorem lm_step {k x : Int} (h1 : 2 ≤ k) (h2 : k ≤ 5) (h3 : 0 < x) (h4 : x < 64) : lm k x = x.fmod (2 ^ k.toNat) :: lm k (x.fdiv (2 ^ k.toNat)) ∧ 0 ≤ x.fdiv (2 ^ k.toNat) ∧ x.fdiv (2 ^ k.toNat) < 16 := by
  have e : (4 : Int) ≤ 2 ^ k.toNat := byK (P := fun k => (4 : Int) ≤ 2 ^ k.toNat) (by decide +kernel) h1 h2
  have hp : (0 : Int) < 2 ^ k.toNat := by omega
  have q0 : 0 ≤ x.fdiv (2 ^ k.toNat) := fdiv_lo (by omega) hp
  have q1 : x.fdiv (2 ^ k.toNat) < 16 := by
    rw [Int.fdiv_eq_ediv_of_nonneg _ (by omega)]
    refine Int.ediv_lt_of_lt_mul hp ?_
    omega
  refine ⟨?_, q0, q1⟩
  show lmF k 8 x = _ :: lmF k 8 _
  rw [← lm_fuel h1 h2 q0 q1, lmF, if_neg (by omega)]
theorem lm_zero (k : Int) : lm k 0 = [] := rfl
theorem lm_lb {k x : Int} (h1 : 2 ≤ k) (h2 : k ≤ 5) (h3 : 0 ≤ x) (h4 : x < 32) : Lb (lm k x) ∧ (lm k x).length ≤ 3 :=
  byK (P := fun k => Lb (lm k x) ∧ (lm k x).length ≤ 3) (fun k => byN (n := 32) (P := fun x => (∀ y ∈ lm ((k : Nat) + 2 : Nat) x, 0 ≤ y ∧ y < 64) ∧ (lm ((k : Nat) + 2 : Nat) x).length ≤ 3) (by revert k; decide +kernel) h3 h4) h1 h2
end Mine
namespace Mine
section
variable {w : World} {mean : ExcName → Option Value} {mg mb : Str → Option Value} {la lb a b : Addr} {vs us : List Value} {ns ms : List Int} {n k : Int} {t1 t2 : Tok}
theorem c_number (hi : IntsAre vs (ns ++ [0])) (H : ns.length ≤ 7 ∧ 2 ≤ k ∧ k ≤ 5) :
    Ct w mean mg mb 4 112 [.ref la, .int k t2] (fun h => h.IsList la vs.toArray) (PostS (normalZ (ns ++ [0]))) := by
  intro dp un fr gd s Q E hdp hu X T hl hret
  try dsimp only at hl hret
  obtain ⟨hlen, hb2, hb3⟩ := H
  have hz : Int.fdiv 0 (2 ^ (k - 1).toNat) = 0 := by simp
  walk_at "M enterC"
  k_steps
  all_goals first
    | (refine hret _ _ _ (Fr.keep (by assumption)) (endS (by assumption) (by k_mem) (by k_mem) (by assumption)); done)
    | (exfalso; contradiction)
end
end Mine
local macro_rules | `(tactic| walk_at "call ref") => `(tactic| (k_here; k_dflt (refine' useS (c_number ?hi ?H) ?F ?X ?T ?N ?dd ?uu ?p ?_; (case F => k_asm); (case X => assumption); (case T => assumption); (case N => k_asm); (case p => is_list); (case hi => first | (with_reducible assumption) | walk_at "M snoc"); (case H => walk_at "M conds"); (case dd => ktr_room); (case uu => ktr_units)); (intro a' la' us' n' k' h' tk' hi' F' N' ne' ne2'); (try k_sweep)))
namespace Mine
def onesF : Nat → Int → Int
  | 0, _ => 0
  | f + 1, x => if x ≤ 0 then 0 else onesF f (Builtin.bitAnd x (x - 1)) + 1
def ones (x : Int) : Int := onesF x.toNat x
theorem and_less {x : Int} (h1 : 0 < x) : 0 ≤ Builtin.bitAnd x (x - 1) ∧ Builtin.bitAnd x (x - 1) < x := by
  rw [bitAnd_pp (by omega) (by omega)]
  have : x.toNat &&& (x - 1).toNat ≤ (x - 1).toNat := Nat.and_le_right
  omega
theorem ones_fuel : ∀ (f g : Nat) (x : Int), x.toNat ≤ f → x.toNat ≤ g → onesF f x = onesF g x
  | 0, 0, _, _, _ => rfl
  | 0, g + 1, x, h, _ => by rw [onesF, onesF, if_pos (by omega)]
  | f + 1, 0, x, _, h => by rw [onesF, onesF, if_pos (by omega)]
  | f + 1, g + 1, x, h, h' => by
    rw [onesF, onesF]
    by_cases hx : x ≤ 0
    · rw [if_pos hx, if_pos hx]
    · rw [if_neg hx, if_neg hx]
      have := and_less (x := x) (by omega)
      rw [ones_fuel f g _ (by omega) (by omega)]
theorem ones_step {x : Int} (h1 : 0 < x) : ones x = ones (Builtin.bitAnd x (x - 1)) + 1 := by
  have := and_less h1
  have e : x.toNat = (x.toNat - 1) + 1 := by omega
  show onesF x.toNat x = onesF _ _ + 1
  rw [e, onesF, if_neg (by omega), ones_fuel _ (Builtin.bitAnd x (x - 1)).toNat _ (by omega) (Nat.le_refl _)]
theorem ones_zero {x : Int} (h : ¬ 0 < x) : ones x = 0 := by
  show onesF x.toNat x = 0
  have e : x.toNat = 0 := by omega
  rw [e]; rfl
theorem ones_turn {n x f : Int} (h : f + ones x = ones n) (hp : x > 0) : f + 1 + ones (Builtin.bitAnd x (x - 1)) = ones n := by
  have := ones_step hp
  omega
theorem ones_less {x : Int} (hp : x > 0) : (Builtin.bitAnd x (x - 1)).toNat < x.toNat := by
  have := and_less hp
  omega
theorem ones_end {n x f : Int} (h : f + ones x = ones n) (hp : ¬ 0 < x) : f = ones n := by
  have := ones_zero hp
  omega
section
variable {w : World} {mean : ExcName → Option Value} {mg mb : Str → Option Value} {la lb a b : Addr} {vs us : List Value} {ns ms : List Int} {n k : Int} {t1 t2 : Tok}
theorem c_limb_ones :
    Ct w mean mg mb 2 152 [.int n t1] (fun _ => True) (PostI (ones n)) := by
  intro dp un fr gd s Q E hdp hu X T hl hret
  try dsimp only at hl hret
  k_with_none
  k_with "stop while" => skip
  walk_at "M enter"
  k_steps
  all_goals (try unfold Halt)
  k_with "state" => first | exact ones_turn (by assumption) (by assumption) | exact Int.zero_add _
  k_with "measure" => exact ones_less (by assumption)
  k_while_given ["limb!"] (fun n₀ script limb found => found + ones limb = ones n₀) (fun n₀ script limb found => limb.toNat) "limb" "found"
  k_steps
  all_goals dsimp only
  refine hret _ _ _ (Fr.keep (by assumption)) ⟨_, congrArg (fun z => Value.int z _) ?_⟩
  exact ones_end (by assumption) (by assumption)
end
end Mine
local macro_rules | `(tactic| walk_at "call ref") => `(tactic| (k_here; k_dflt (refine' useI c_limb_ones ?F ?X ?T ?N ?dd ?uu ?p ?_; (case F => k_asm); (case X => assumption); (case T => assumption); (case N => k_asm); (case p => trivial); (case dd => ktr_room); (case uu => ktr_units)); (intro t' h' tk' hg' F' N')))
namespace Mine
section
variable {w : World} {mean : ExcName → Option Value} {mg mb : Str → Option Value} {la lb a b : Addr} {vs us : List Value} {ns ms : List Int} {n k : Int} {t1 t2 : Tok}
theorem c_nat_ones (hi : IntsAre vs ns) (H : ns.length ≤ 8) :
    Ct w mean mg mb 4 157 [.ref la] (fun h => h.IsList la vs.toArray) (PostI ((ns.map ones).sum)) := by
  intro dp un fr gd s Q E hdp hu X T hl hret
  try dsimp only at hl hret
  k_with_none
  walk_at "M enter"
  k_steps
  k_made
  k_steps
  refine hret _ _ _ (Fr.keep (by assumption)) ⟨_, congrArg (fun z => Value.int z _) ?_⟩
  rw [List.filter_eq_self.mpr (fun _ _ => rfl)]
end
end Mine
local macro_rules | `(tactic| walk_at "call ref") => `(tactic| (k_here; k_dflt (refine' useI (c_nat_ones ?hi ?H) ?F ?X ?T ?N ?dd ?uu ?p ?_; (case F => k_asm); (case X => assumption); (case T => assumption); (case N => k_asm); (case p => is_list); (case hi => walk_at "M ints"); (case H => walk_at "M len"); (case dd => ktr_room); (case uu => ktr_units)); (intro t' h' tk' hg' F' N'); (try k_sweep)))
namespace Mine
theorem zip_get {g : Int → Int → Int} {vs us : List Value} {ns ms : List Int} (hi : IntsAre vs ns) (hj : IntsAre us ms) {i : Nat} {x y : Value} (hx : vs[i]? = some x) (hy : us[i]? = some y) :
    ∃ a ta b tb, x = .int a ta ∧ y = .int b tb ∧ (List.zipWith g ns ms).take (i + 1) = (List.zipWith g ns ms).take i ++ [g a b] := by
  have hn : i < ns.length := by rw [← hi.length]; exact (List.getElem?_eq_some_iff.mp hx).1
  have hm : i < ms.length := by rw [← hj.length]; exact (List.getElem?_eq_some_iff.mp hy).1
  obtain ⟨ta, ha⟩ := hi.get i ns[i] (by simp [hn])
  obtain ⟨tb, hb⟩ := hj.get i ms[i] (by simp [hm])
  refine ⟨ns[i], ta, ms[i], tb, Option.some.inj (hx.symm.trans ha), Option.some.inj (hy.symm.trans hb), ?_⟩
  have hz : (List.zipWith g ns ms)[i]? = some (g ns[i] ms[i]) := by simp [List.getElem?_zipWith, hn, hm]
  simp [List.take_add_one, hz]

/-- what the comprehension asks of its source: two lists of ints, zipped -/
def ZipSrc (g : Int → Int → Int) (Q : Value → Shared → Prop) (xv : Value) (s : Shared) : Prop :=
  ∃ (z TI TO i1 i2 l1 l2 : Addr) (vs us : List Value) (ns ms : List Int), xv = .ref z ∧ ZipApart z TI TO i1 i2 l1 l2 ∧ IsZip s.heap z TI TO .none ∧ IsPair s.heap TI (.ref i1) (.ref i2) ∧ (∃ a b, IsPair s.heap TO a b) ∧
    s.heap.IsListIter i1 l1 0 ∧ s.heap.IsListIter i2 l2 0 ∧ s.heap.IsList l1 vs.toArray ∧ s.heap.IsList l2 us.toArray ∧ IntsAre vs ns ∧ IntsAre us ms ∧ vs.length ≤ 1000 ∧
    ∀ D ys n h' tk, (∀ b o, b ∉ [z, TO, i1, i2] → s.heap.get? b = some o → h'.get? b = some o) → s.heap.get? D = none → h'.get? D = some (listOf (List.toArray ys) n) → IntsAre ys (List.zipWith g ns ms) → Q (.ref D) { s with heap := h', toks := tk }

section
variable {prog : Program} {w : World} {A : Around} {E : Value → Shared → Prop} {s : Shared} {env : Env}
theorem listComp_zip {elt iter : Expr} {x x₂ : Str} {px px₂ tp : Pos} {tk} {scope : Scope} {pos : Pos} {Q : Value → Shared → Prop} (g : Int → Int → Int)
    (hh : A.handled = none) (hclos : closureFor scope env = pure []) (hcell : ∀ y ∈ scope.names, y.2 ≠ .cell) (hkind : scope.kind = .function)
    (hnames : ∀ y ∈ scope.names, y.2 = .local → scope.names.lookup y.1 = some .local) (hx : scope.names.lookup x = some .local) (hx₂ : scope.names.lookup x₂ = some .local) (hxx : x ≠ x₂)
    (helt : ∀ (a b : Int) (ta tb : Tok) (C : Addr) (s₂ : Shared) (m₂ : Str → Option Value) (Q' E' : Value → Shared → Prop), s₂.heap.Ns C m₂ → m₂ x = some (.int a ta) → m₂ x₂ = some (.int b tb) →
      (∀ t tk', Q' (.int (g a b) t) { s₂ with toks := tk' }) → wpAny (model prog w) A (eval elt (compEnvC scope [] C env)) Q' E' s₂)
    (h : wpAny (model prog w) A (eval iter env) (ZipSrc g Q) E s)
    (hs : ∀ x, foldedSetIterable iter env x = pure x := by intro _; rfl) :
    wpAny (model prog w) A (eval (.ListComp elt [⟨.Tuple [.Name x px, .Name x₂ px₂] tk tp, iter, [], 0⟩] scope pos) env) Q E s := by
  rw [eval_ListComp]
  refine wpAny_comprehension_free (use := none) rfl hs hclos hkind hnames (wpAny_mono h (fun xv s₁ h₁ => ?_) fun _ _ e => e)
  obtain ⟨z, TI, TO, i1, i2, l1, l2, vs, us, ns, ms, rfl, D, hz, hTI, hTO, hi1, hi2, hl1, hl2, hvs, hus, hlen, hQ⟩ := h₁
  refine wpAny_pyIter_zip hz ?_
  have W := WalksT.zip2 (prog := prog) (w := w) (A := A) hh z TI TO i1 i2 l1 l2 D vs.toArray us.toArray
  refine wpAny_newObj_type (wpAny_newFunctionEnv hcell (by intro y hy; simp at hy) (fun h₁ hns₁ hsb₁ => ?_) hkind)
  dsimp only at hns₁ hsb₁ ⊢
  generalize hD : s₁.heap.objs.size = Da at hns₁ hsb₁ ⊢
  generalize hH2 : s₁.heap.push { cls := .type "list", dict := none, data := .seq ([] : List Value).toArray } = H2 at hns₁ hsb₁ ⊢
  generalize hC : H2.objs.size = C at hns₁ hsb₁ ⊢
  have hCD : C = Da + 1 := by rw [← hC, ← hH2, Heap.size_push, hD]
  have up0 : ∀ b o, s₁.heap.get? b = some o → h₁.get? b = some o := fun b o e => by
    have hlt := Heap.lt_size e
    rw [hD] at hlt
    exact hsb₁.extBut b o (by rw [hCD]; exact Nat.ne_of_lt (Nat.lt_succ_of_lt hlt)) (Heap.get?_push_of_some _ (hH2 ▸ Heap.get?_push_of_some _ e))
  have below : ∀ b o, s₁.heap.get? b = some o → b ≠ C ∧ b ≠ Da := fun b o e => by
    have hlt := Heap.lt_size e
    rw [hD] at hlt
    exact ⟨by rw [hCD]; exact Nat.ne_of_lt (Nat.lt_succ_of_lt hlt), Nat.ne_of_lt hlt⟩
  have hDfree : s₁.heap.get? Da = none := by
    cases e : s₁.heap.get? Da with
    | none => rfl
    | some o => exact absurd rfl (below _ _ e).2
  have hDC : Da ≠ C := by rw [hCD]; exact Nat.ne_of_lt (Nat.lt_succ_self _)
  have hacc : h₁.get? Da = some (listOf ([] : List Value).toArray 0) := hsb₁.extBut _ _ hDC (Heap.get?_push_of_some _ (hH2 ▸ hD ▸ Heap.get?_push_size _ rfl))
  obtain ⟨oz, hzo⟩ : ∃ o, s₁.heap.get? z = some o := ⟨_, hz⟩
  obtain ⟨oTO, hTOo⟩ : ∃ o, s₁.heap.get? TO = some o := by obtain ⟨_, _, e⟩ := hTO; exact ⟨_, e⟩
  obtain ⟨oi1, hi1o⟩ : ∃ o, s₁.heap.get? i1 = some o := by obtain ⟨o, e, _⟩ := hi1; exact ⟨o, e⟩
  obtain ⟨oi2, hi2o⟩ : ∃ o, s₁.heap.get? i2 = some o := by obtain ⟨o, e, _⟩ := hi2; exact ⟨o, e⟩
  have hwr : ∀ b ∈ [z, TO, i1, i2], b ≠ C ∧ b ≠ Da := fun b hb => by
    simp only [List.mem_cons, List.not_mem_nil, or_false] at hb
    rcases hb with rfl | rfl | rfl | rfl
    · exact below _ _ hzo
    · exact below _ _ hTOo
    · exact below _ _ hi1o
    · exact below _ _ hi2o
  have hCwr : C ∉ [z, TO, i1, i2] := fun q => (hwr _ q).1 rfl
  have hDwr : Da ∉ [z, TO, i1, i2] := fun q => (hwr _ q).2 rfl
  have hfp : ∀ b ∈ [z, TI, TO, i1, i2, l1, l2], b ≠ C ∧ b ≠ Da := fun b hb => by
    simp only [List.mem_cons, List.not_mem_nil, or_false] at hb
    rcases hb with rfl | rfl | rfl | rfl | rfl | rfl | rfl
    · exact below _ _ hzo
    · exact below _ _ hTI
    · exact below _ _ hTOo
    · exact below _ _ hi1o
    · exact below _ _ hi2o
    · obtain ⟨o, e, _⟩ := hl1; exact below _ _ e
    · obtain ⟨o, e, _⟩ := hl2; exact below _ _ e
  have hst₁ := W.frame 0 s₁.heap h₁ ⟨hz, hTI, hTO, hi1, hi2, hl1, hl2⟩ fun b _ o e => up0 b o e
  have loop : ∀ s₃ : Shared, s₃ = { s₁ with heap := h₁, toks := s₁.toks + ([] : List (Str × Value)).length } →
      codeAny (model prog w) A (.compLoop (.ListComp elt [⟨.Tuple [.Name x px, .Name x₂ px₂] tk tp, iter, [], 0⟩] scope pos) 0 (.ref z) (.ref Da) (compEnvC scope [] C env))
        (compPost (model prog w) A E none Q (.ref Da) C) s₃ := by
    rintro s₃ rfl
    refine LCp.codeAny_compLoop_pair
      (fun k s' => ∃ h' tk i ys m', s' = { s₁ with heap := h', toks := tk } ∧ i ≤ min vs.toArray.size us.toArray.size ∧ k = min vs.toArray.size us.toArray.size + 1 - i ∧ ys.length = i ∧
        (IsZip h' z TI TO .none ∧ IsPair h' TI (.ref i1) (.ref i2) ∧ (∃ a b, IsPair h' TO a b) ∧ h'.IsListIter i1 l1 i ∧ h'.IsListIter i2 l2 i ∧ h'.IsList l1 vs.toArray ∧ h'.IsList l2 us.toArray) ∧
        h'.Ns C m' ∧ (∃ n, h'.get? Da = some (listOf (List.toArray ys) n)) ∧ IntsAre ys ((List.zipWith g ns ms).take i) ∧ (∀ b o, b ∉ [z, TO, i1, i2] → s₁.heap.get? b = some o → h'.get? b = some o)) ?_ (min vs.toArray.size us.toArray.size + 1)
      ⟨h₁, _, 0, [], _, rfl, Nat.zero_le _, rfl, rfl, hst₁, hns₁, ⟨0, hacc⟩, by simpa using IntsAre.nil, fun b o _ e => up0 b o e⟩
    rintro k s' ⟨h', tk', i, ys, m', rfl, hi, rfl, hyl, hst, hn', ⟨nn, hDa⟩, hys, hk'⟩
    by_cases hlt : i < min vs.toArray.size us.toArray.size
    · refine W.item i { s₁ with heap := h', toks := tk' } _ _ hlt hst fun T vals h₂ tk₂ hPt hTs hT hMid hk₂ => ?_
      obtain ⟨xv, yv, hxv, hyv, rfl⟩ := hPt
      obtain ⟨a, ta, b, tb, rfl, rfl, hzz⟩ := zip_get (g := g) hvs hus (by simpa using hxv) (by simpa using hyv)
      have hTwr := W.apart i T h₂ hMid
      refine W.go _ _ _ i T { s₁ with heap := h₂, toks := tk₂ } _ _ hMid fun h₃ hst₃ hk₃ => ?_
      have hT₃ : IsTup h₃ T #[.int a ta, .int b tb] := by
        obtain ⟨o, e, r⟩ := hT
        exact ⟨o, hk₃ _ _ hTwr e, r⟩
      have hn₃ : h₃.Ns C m' := (hn'.at' fun o e => hk₂ _ o hCwr e).at' fun o e => hk₃ _ o hCwr e
      have hDa₃ : h₃.get? Da = some (listOf (List.toArray ys) nn) := hk₃ _ _ hDwr (hk₂ _ _ hDwr hDa)
      refine assign_Tuple_tuple hh hT₃ rfl rfl fun h₅ he => ?_
      have he' : ∀ b o, h₃.get? b = some o → h₅.get? b = some o := fun b o e => he b o (Nat.ne_of_lt (Heap.lt_size e)) e
      refine assignInOrder_cons (wpAny_assign_Name (wpAny_storeName_local (lookup_relabel_local hx) (hn₃.at' fun o e => he' _ o e) (fun h₆ hn₆ hs₆ => ?_) (by simp [compEnvC, relabel, hkind])))
      refine assignInOrder_cons (wpAny_assign_Name (wpAny_storeName_local (lookup_relabel_local hx₂) hn₆ (fun h₇ hn₇ hs₇ => ?_) (by simp [compEnvC, relabel, hkind])))
      refine assignInOrder_nil ?_
      have up₇ : ∀ b o, b ≠ C → h₃.get? b = some o → h₇.get? b = some o := fun b o hb e => hs₇.extBut b o hb (hs₆.extBut b o hb (he' b o e))
      have hst₇ := W.frame (i + 1) h₃ h₇ hst₃ fun b hb o e => up₇ b o (hfp b hb).1 e
      refine helt a b ta tb C _ _ _ _ hn₇ (by simp [hxx]) (by simp) fun t tk₈ => ?_
      refine append_at (hsz := ?_) (up₇ _ _ hDC hDa₃) fun h₈ hs₈ hD₈ => ?_
      · refine ⟨min vs.toArray.size us.toArray.size + 1 - (i + 1), by omega, h₈, tk₈, i + 1, ys ++ [.int (g a b) t], _, rfl, hlt, rfl, by rw [List.length_append, List.length_singleton, hyl],
          W.frame (i + 1) h₇ h₈ hst₇ fun b hb o e => hs₈.extBut b o (hfp b hb).2 e, hn₇.sameBut hs₈ (Ne.symm hDC), ⟨nn + 1, ?_⟩, ?_, fun b o hb e => ?_⟩
        · rw [hD₈]; simp
        · rw [hzz]; exact hys.append (.cons _ _ .nil)
        · exact hs₈.extBut b o (below b o e).2 (up₇ b o (below b o e).1 (hk₃ b o hb (hk₂ b o hb (hk' b o hb e))))
      · show ys.toArray.size ≤ sizeLine
        rw [List.size_toArray, hyl]
        have : sizeLine = 2 ^ 24 := rfl
        have h9 : min vs.toArray.size us.toArray.size ≤ vs.toArray.size := Nat.min_le_left _ _
        simp only [List.size_toArray] at h9 hlt
        omega
    · obtain rfl : i = min vs.toArray.size us.toArray.size := Nat.le_antisymm hi (Nat.not_lt.mp hlt)
      refine W.done { s₁ with heap := h', toks := tk' } _ _ hst fun h₂ tk₂ hk₂ => ?_
      refine ⟨m', hn'.at' fun o e => hk₂ _ o hCwr e, fun h'' hs'' => ?_⟩
      have hall : (List.zipWith g ns ms).take (min vs.toArray.size us.toArray.size) = List.zipWith g ns ms := List.take_of_length_le (by simp [hvs.length, hus.length])
      rw [hall] at hys
      exact hQ Da ys nn h'' tk₂ (fun b o hb e => hs''.extBut b o (below b o e).1 (hk₂ b o hb (hk' b o hb e))) hDfree (hs''.extBut _ _ hDC (hk₂ _ _ hDwr hDa)) hys
  exact codeAny_compStart_list (loop _ rfl) (W.self 0 { s₁ with heap := h₁, toks := _ } _ _ hst₁ (loop _ rfl))

theorem call_zipSrc {g : Int → Int → Int} {l1 l2 : Addr} {vs us : List Value} {ns ms : List Int} {Q : Value → Shared → Prop} (hl1 : s.heap.IsList l1 vs.toArray) (hl2 : s.heap.IsList l2 us.toArray) (hi : IntsAre vs ns) (hj : IntsAre us ms) (hlen : vs.length ≤ 1000)
    (h : ∀ D ys n h' tk, Grow s.heap h' → s.heap.get? D = none → h'.get? D = some (listOf (List.toArray ys) n) → IntsAre ys (List.zipWith g ns ms) → Q (.ref D) { s with heap := h', toks := tk }) :
    wpAny (model prog w) A (call (.type "zip") [.ref l1, .ref l2]) (ZipSrc g Q) E s := by
  have hlt1 : @LT.lt Nat _ l1 s.heap.objs.size := by obtain ⟨o, e, _⟩ := hl1; exact Heap.lt_size e
  have hlt2 : @LT.lt Nat _ l2 s.heap.objs.size := by obtain ⟨o, e, _⟩ := hl2; exact Heap.lt_size e
  refine call_zip_2 hl1 hl2 fun h' hz hTI hTO hi1 hi2 hsz hk => ?_
  have Dz : ZipApart (s.heap.objs.size + 4) (s.heap.objs.size + 2) (s.heap.objs.size + 3) s.heap.objs.size (s.heap.objs.size + 1) l1 l2 := by
    constructor <;> first | exact Nat.ne_of_gt (by omega) | exact Nat.ne_of_lt (by omega)
  refine ⟨_, _, _, _, _, l1, l2, vs, us, ns, ms, rfl, Dz, hz, hTI, ⟨_, _, hTO⟩, hi1, hi2, hl1.at fun o e => hk _ o e, hl2.at fun o e => hk _ o e, hi, hj, hlen, fun D ys n h'' tk hk'' hDn hD hys => ?_⟩
  refine h D ys n h'' tk (fun b o e => hk'' b o (fun q => ?_) (hk b o e)) ?_ hD hys
  · have hlt := Heap.lt_size e
    simp only [List.mem_cons, List.not_mem_nil, or_false] at q
    rcases q with q | q | q | q <;> exact absurd hlt (by rw [q]; exact Nat.not_lt.mpr (by omega))
  · cases e : s.heap.get? D with
    | none => rfl
    | some o => rw [hk _ _ e] at hDn; cases hDn
end
end Mine
namespace Mine
def padZ (ns : List Int) (n : Int) : List Int := ns ++ (List.replicate (n - (ns.length : Int)).toNat [(0 : Int)]).flatten
def sxorZ (ns ms : List Int) : List Int := normalZ (List.zipWith Builtin.bitXor (padZ ns (max (ns.length : Int) ms.length + 1)) (padZ ms (max (ns.length : Int) ms.length + 1)))
theorem pad_snoc {ns : List Int} {m : Int} (h : (ns.length : Int) ≤ m) : padZ ns (m + 1) = padZ ns m ++ [0] := by
  have e : (m + 1 - (ns.length : Int)).toNat = (m - (ns.length : Int)).toNat + 1 := by omega
  unfold padZ
  rw [e, List.replicate_succ', List.flatten_append, List.append_assoc]
  simp
theorem pad_length {ns : List Int} {m : Int} (h : (ns.length : Int) ≤ m) : (padZ ns m).length = m.toNat := by
  simp [padZ]
  omega
theorem xor_snoc {ns ms : List Int} (h : ns.length ≤ 6) (h2 : ms.length ≤ 6) :
    ∃ zs, List.zipWith Builtin.bitXor (padZ ns (max (ns.length : Int) ms.length + 1)) (padZ ms (max (ns.length : Int) ms.length + 1)) = zs ++ [0] ∧ zs.length ≤ 7 := by
  have a1 : (ns.length : Int) ≤ max (ns.length : Int) ms.length := Int.le_max_left _ _
  have a2 : (ms.length : Int) ≤ max (ns.length : Int) ms.length := Int.le_max_right _ _
  have a3 : max (ns.length : Int) ms.length ≤ 6 := Int.max_le.mpr ⟨by omega, by omega⟩
  refine ⟨List.zipWith Builtin.bitXor (padZ ns (max (ns.length : Int) ms.length)) (padZ ms (max (ns.length : Int) ms.length)), ?_, ?_⟩
  · rw [pad_snoc a1, pad_snoc a2, List.zipWith_append (by rw [pad_length a1, pad_length a2])]
    rfl
  · rw [List.length_zipWith, pad_length a1, pad_length a2]
    omega
theorem normal_length : ∀ (l : List Int), (normalZ l).length ≤ l.length
  | [] => Nat.le_refl _
  | a :: r => by
    rw [normalZ]
    split
    · exact Nat.zero_le _
    · exact Nat.succ_le_succ (normal_length r)
theorem sxor_length {ns ms : List Int} (h : ns.length ≤ 6) (h2 : ms.length ≤ 6) : (sxorZ ns ms).length ≤ 8 := by
  obtain ⟨zs, hz, hl⟩ := xor_snoc h h2
  rw [sxorZ, hz]
  have := normal_length (zs ++ [0])
  simp only [List.length_append, List.length_cons, List.length_nil] at this
  omega
section
variable {w : World} {mean : ExcName → Option Value} {mg mb : Str → Option Value} {la lb a b : Addr} {vs us : List Value} {ns ms : List Int} {n k : Int} {t1 t2 : Tok}
theorem c_sxor (hi : IntsAre vs ns) (hj : IntsAre us ms) (H : ns.length ≤ 6 ∧ ms.length ≤ 6 ∧ 2 ≤ k ∧ k ≤ 5) :
    Ct w mean mg mb 6 124 [.ref a, .ref b, .int k t2] (fun h => PreS a la vs h ∧ PreS b lb us h) (PostS (sxorZ ns ms)) := by
  intro dp un fr gd s Q E hdp hu X T hl hret
  try dsimp only at hl hret
  obtain ⟨⟨ht1, hl1⟩, ht2, hl2⟩ := hl
  obtain ⟨hlen, hlen2, hb2, hb3⟩ := H
  k_with_none
  k_with "stop comp" => skip
  walk_at "M enter"
  k_steps
  all_goals (try unfold Halt)
  refine listComp_zip Builtin.bitXor rfl rfl (by decide) rfl (by decide) rfl rfl (by decide) (fun c d tc td C s₂ m₂ Q' E' hns hc hd hQ => ?_) ?_
  · refine wpAny_BinOp (wpAny_Name (wpAny_loadName_local rfl rfl hns hc ?_) (by decide))
    refine wpAny_Name (wpAny_loadName_local rfl rfl hns hd ?_) (by decide)
    exact xor_int (hQ _ _)
  k_steps
  all_goals (try unfold Halt)
  (rename Fr _ _ _ _ => F9); (rename News _ _ _ _ => N9)
  refine call_zipSrc (by is_list) (by is_list) (by assumption) (by assumption) ?_ (fun D ys n h' tk hg hn hD hys => ?_)
  · refine Nat.le_trans (Nat.le_of_eq (IntsAre.length (by assumption))) ?_
    simp
    omega
  obtain ⟨zs, hz, hzl⟩ := xor_snoc hlen hlen2
  have N10 := news_add F9 N9 hg hn hD
  have F10 := F9.keeps hg
  clear F9 N9
  have hys' : IntsAre ys (zs ++ [0]) := hz ▸ hys
  clear hys
  k_steps
  exact hret _ _ _ (Fr.keep (by assumption)) (endS (by assumption) (by k_mem) (by k_mem) (by rw [sxorZ, hz]; assumption))
end
end Mine
local macro_rules | `(tactic| walk_at "call ref") => `(tactic| (k_here; k_dflt (refine' useS (c_sxor ?hi ?hj ?H) ?F ?X ?T ?N ?dd ?uu ?p ?_; (case F => k_asm); (case X => assumption); (case T => assumption); (case N => k_asm); (case p => exact ⟨by walk_at "M pre", by walk_at "M pre"⟩); (case hi => walk_at "M ints"); (case hj => walk_at "M ints"); (case H => walk_at "M conds"); (case dd => ktr_room); (case uu => ktr_units)); (intro a' la' us' n' k' h' tk' hi' F' N' ne' ne2'); (try k_sweep)))
local macro_rules | `(tactic| walk_at "M len") => `(tactic| exact sxor_length (by assumption) (by assumption))
namespace Mine
section
variable {w : World} {mean : ExcName → Option Value} {mg mb : Str → Option Value} {la lb a b : Addr} {vs us : List Value} {ns ms : List Int} {n k : Int} {t1 t2 : Tok}
theorem c_count (hi : IntsAre vs ns) (H : ns.length ≤ 8) :
    Ct w mean mg mb 6 164 [.ref a] (fun h => PreS a la vs h) (PostI ((ns.map ones).sum)) := by
  intro dp un fr gd s Q E hdp hu X T hl hret
  try dsimp only at hl hret
  obtain ⟨ht1, hl1⟩ := hl
  walk_at "M enter"
  k_steps
  exact hret _ _ _ (Fr.keep (by assumption)) ⟨_, rfl⟩
theorem c_dist (hi : IntsAre vs ns) (hj : IntsAre us ms) (H : ns.length ≤ 6 ∧ ms.length ≤ 6 ∧ 2 ≤ k ∧ k ≤ 5) :
    Ct w mean mg mb 8 171 [.ref a, .ref b, .int k t2] (fun h => PreS a la vs h ∧ PreS b lb us h) (PostI (((sxorZ ns ms).map ones).sum)) := by
  intro dp un fr gd s Q E hdp hu X T hl hret
  try dsimp only at hl hret
  obtain ⟨⟨ht1, hl1⟩, ht2, hl2⟩ := hl
  obtain ⟨hlen, hlen2, hb2, hb3⟩ := H
  walk_at "M enter"
  k_steps
  exact hret _ _ _ (Fr.keep (by assumption)) ⟨_, rfl⟩
end
end Mine
local macro_rules | `(tactic| walk_at "call ref") => `(tactic| (k_here; k_dflt (refine' useI (c_count ?hi ?H) ?F ?X ?T ?N ?dd ?uu ?p ?_; (case F => k_asm); (case X => assumption); (case T => assumption); (case N => k_asm); (case p => walk_at "M pre"); (case hi => walk_at "M ints"); (case H => walk_at "M len"); (case dd => ktr_room); (case uu => ktr_units)); (intro t' h' tk' hg' F' N'); (try k_sweep)))
local macro_rules | `(tactic| walk_at "call ref") => `(tactic| (k_here; k_dflt (refine' useI (c_dist ?hi ?hj ?H) ?F ?X ?T ?N ?dd ?uu ?p ?_; (case F => k_asm); (case X => assumption); (case T => assumption); (case N => k_asm); (case p => exact ⟨by walk_at "M pre", by walk_at "M pre"⟩); (case hi => walk_at "M ints"); (case hj => walk_at "M ints"); (case H => walk_at "M conds"); (case dd => ktr_room); (case uu => ktr_units)); (intro t' h' tk' hg' F' N'); (try k_sweep)))
namespace Mine
section
variable {w : World} {mean : ExcName → Option Value} {mg mb : Str → Option Value} {la lb a b : Addr} {vs us : List Value} {ns ms : List Int} {n k : Int} {t1 t2 : Tok}
theorem c_sbit (hi : IntsAre vs ns) (H : ns.length ≤ 8 ∧ 0 ≤ n ∧ n ≤ 32 ∧ 2 ≤ k ∧ k ≤ 5) :
    Ct w mean mg mb 4 131 [.ref a, .int n t1, .int k t2] (fun h => PreS a la vs h) (PostI (bitZ ns n k)) := by
  intro dp un fr gd s Q E hdp hu X T hl hret
  try dsimp only at hl hret
  obtain ⟨ht1, hl1⟩ := hl
  obtain ⟨hlen, hn, hn2, hb2, hb3⟩ := H
  walk_at "M enter"
  k_steps
  exact hret _ _ _ (Fr.keep (by assumption)) ⟨_, rfl⟩
theorem c_oneat (H : 0 ≤ n ∧ n ≤ 32 ∧ 2 ≤ k ∧ k ≤ 5) :
    Ct w mean mg mb 4 138 [.int n t1, .int k t2] (fun h => True) (PostL (shlZ [1] n k)) := by
  intro dp un fr gd s Q E hdp hu X T hl hret
  try dsimp only at hl hret
  obtain ⟨hn, hn2, hb2, hb3⟩ := H
  have hLb : Lb [1] := by intro x hx; simp at hx; omega
  walk_at "M enter"
  k_steps
  exact hret _ _ _ (Fr.keep (by assumption)) (endL (by assumption) (by k_mem) (by assumption))
theorem c_sup (hi : IntsAre vs ns) (H : ns.length ≤ 8 ∧ Lb ns ∧ 2 ≤ k ∧ k ≤ 5) :
    Ct w mean mg mb 4 185 [.ref a, .int 1 t1, .int k t2] (fun h => PreS a la vs h) (PostS (shlZ ns 1 k)) := by
  intro dp un fr gd s Q E hdp hu X T hl hret
  try dsimp only at hl hret
  obtain ⟨ht1, hl1⟩ := hl
  obtain ⟨hlen, hns, hb2, hb3⟩ := H
  walk_at "M enter"
  k_steps
  exact hret _ _ _ (Fr.keep (by assumption)) (endS (by assumption) (by k_mem) (by k_mem) (by assumption))
theorem c_sdown (hi : IntsAre vs ns) (H : ns.length ≤ 8 ∧ Lb ns ∧ 2 ≤ k ∧ k ≤ 5) :
    Ct w mean mg mb 6 185 [.ref a, .int (-1) t1, .int k t2] (fun h => PreS a la vs h) (PostS (shrZ ns 1 k)) := by
  intro dp un fr gd s Q E hdp hu X T hl hret
  try dsimp only at hl hret
  obtain ⟨ht1, hl1⟩ := hl
  obtain ⟨hlen, hns, hb2, hb3⟩ := H
  walk_at "M enter"
  k_steps
  exact hret _ _ _ (Fr.keep (by assumption)) (endS (by assumption) (by k_mem) (by k_mem) (by assumption))
end
end Mine
local macro_rules | `(tactic| walk_at "call ref") => `(tactic| (k_here; k_dflt (refine' useI (c_sbit ?hi ?H) ?F ?X ?T ?N ?dd ?uu ?p ?_; (case F => k_asm); (case X => assumption); (case T => assumption); (case N => k_asm); (case p => walk_at "M pre"); (case hi => walk_at "M ints"); (case H => walk_at "M conds"); (case dd => ktr_room); (case uu => ktr_units)); (intro t' h' tk' hg' F' N'); (try k_sweep)))
local macro_rules | `(tactic| walk_at "call ref") => `(tactic| (k_here; k_dflt (refine' useL (c_oneat ?H) ?F ?X ?T ?N ?dd ?uu ?p ?_; (case F => k_asm); (case X => assumption); (case T => assumption); (case N => k_asm); (case p => trivial); (case H => walk_at "M conds"); (case dd => ktr_room); (case uu => ktr_units)); (intro a' us' n' h' tk' hi' F' N' ne'); (try simp only [NeAll, and_true] at ne'); (try k_sweep)))
local macro_rules | `(tactic| walk_at "call ref") => `(tactic| (k_here; k_dflt (refine' useS (c_sup ?hi ?H) ?F ?X ?T ?N ?dd ?uu ?p ?_; (case F => k_asm); (case X => assumption); (case T => assumption); (case N => k_asm); (case p => walk_at "M pre"); (case hi => walk_at "M ints"); (case H => walk_at "M conds"); (case dd => ktr_room); (case uu => ktr_units)); (intro a' la' us' n' k' h' tk' hi' F' N' ne' ne2'); (try k_sweep)))
local macro_rules | `(tactic| walk_at "call ref") => `(tactic| (k_here; k_dflt (refine' useS (c_sdown ?hi ?H) ?F ?X ?T ?N ?dd ?uu ?p ?_; (case F => k_asm); (case X => assumption); (case T => assumption); (case N => k_asm); (case p => walk_at "M pre"); (case hi => walk_at "M ints"); (case H => walk_at "M conds"); (case dd => ktr_room); (case uu => ktr_units)); (intro a' la' us' n' k' h' tk' hi' F' N' ne' ne2'); (try k_sweep)))
namespace Mine
def addOut (k : Int) (p : List Int × Int) (c : Int) : List Int × Int := (p.1 ++ [Builtin.bitAnd (p.2 + c) (1 * 2 ^ k.toNat - 1)], (p.2 + c).fdiv (2 ^ k.toNat))
def addF1 (xs ys : List Int) (k : Int) (pre : List Int) : List Int × Int := pre.foldl (fun p i => addOut k p (xs.getD i.toNat 0 + ys.getD i.toNat 0)) ([], 0)
def addF2 (xs ys : List Int) (k : Int) (pre : List Int) : List Int × Int := pre.foldl (fun p i => addOut k p (xs.getD i.toNat 0)) (addF1 xs ys k (rangeKs 0 ys.length))
def addW (xs ys : List Int) (k : Int) : List Int :=
  if 0 < (addF2 xs ys k (rangeKs (ys.length : Int) ((xs.length : Int) - ys.length).toNat)).2 then (addF2 xs ys k (rangeKs (ys.length : Int) ((xs.length : Int) - ys.length).toNat)).1 ++ [(addF2 xs ys k (rangeKs (ys.length : Int) ((xs.length : Int) - ys.length).toNat)).2] else (addF2 xs ys k (rangeKs (ys.length : Int) ((xs.length : Int) - ys.length).toNat)).1
def addZ (xs ys : List Int) (k : Int) : List Int := if (xs.length : Int) < ys.length then addW ys xs k else addW xs ys k
theorem add_turn1 {xs ys f pre : List Int} {k c i : Int} (h : f = (addF1 xs ys k pre).1) (h2 : c = (addF1 xs ys k pre).2) (h3 : f.length = pre.length) :
    f ++ [Builtin.bitAnd (c + (xs.getD i.toNat 0 + ys.getD i.toNat 0)) (1 * 2 ^ k.toNat - 1)] = (addF1 xs ys k (pre ++ [i])).1 ∧ (c + (xs.getD i.toNat 0 + ys.getD i.toNat 0)).fdiv (2 ^ k.toNat) = (addF1 xs ys k (pre ++ [i])).2 ∧
      (f ++ [Builtin.bitAnd (c + (xs.getD i.toNat 0 + ys.getD i.toNat 0)) (1 * 2 ^ k.toNat - 1)]).length = (pre ++ [i]).length := by
  subst h h2
  refine ⟨by simp [addF1, List.foldl_append, addOut], by simp [addF1, List.foldl_append, addOut], ?_⟩
  simp only [List.length_append, List.length_cons, List.length_nil, h3]
theorem add_start2 {xs ys f : List Int} {k c : Int} {n : Nat} (h : f = (addF1 xs ys k (rangeKs 0 n)).1) (h2 : c = (addF1 xs ys k (rangeKs 0 n)).2) (h3 : f.length = (rangeKs 0 n).length) (hn : n = ys.length) :
    f = (addF2 xs ys k []).1 ∧ c = (addF2 xs ys k []).2 ∧ f.length = ys.length + ([] : List Int).length := by
  subst hn
  exact ⟨h, h2, by rw [h3, rangeKs_length]; rfl⟩
theorem add_turn2 {xs ys f pre : List Int} {k c i : Int} {m : Nat} (h : f = (addF2 xs ys k pre).1) (h2 : c = (addF2 xs ys k pre).2) (h3 : f.length = m + pre.length) :
    f ++ [Builtin.bitAnd (c + xs.getD i.toNat 0) (1 * 2 ^ k.toNat - 1)] = (addF2 xs ys k (pre ++ [i])).1 ∧ (c + xs.getD i.toNat 0).fdiv (2 ^ k.toNat) = (addF2 xs ys k (pre ++ [i])).2 ∧
      (f ++ [Builtin.bitAnd (c + xs.getD i.toNat 0) (1 * 2 ^ k.toNat - 1)]).length = m + (pre ++ [i]).length := by
  subst h h2
  refine ⟨by simp [addF2, List.foldl_append, addOut], by simp [addF2, List.foldl_append, addOut], ?_⟩
  simp only [List.length_append, List.length_cons, List.length_nil, h3]
  omega
section
variable {w : World} {mean : ExcName → Option Value} {mg mb : Str → Option Value} {la lb a b : Addr} {vs us : List Value} {ns ms : List Int} {n k : Int} {t1 t2 : Tok}
theorem c_add (hi : IntsAre vs ns) (hj : IntsAre us ms) (H : ns.length ≤ 8 ∧ ms.length ≤ 8 ∧ 2 ≤ k ∧ k ≤ 5) :
    Ct w mean mg mb 2 60 [.ref la, .ref lb, .int k t2] (fun h => h.IsList la vs.toArray ∧ h.IsList lb us.toArray) (PostL (addZ ns ms k)) := by
  intro dp un fr gd s Q E hdp hu X T hl hret
  try dsimp only at hl hret
  obtain ⟨hl1, hl2⟩ := hl
  obtain ⟨hlen, hlen2, hb2, hb3⟩ := H
  k_with_none
  walk_at "M enter"
  k_steps
  all_goals (try unfold Halt)
  · k_with_none
    k_with "state" => first | exact ⟨rfl, rfl, rfl⟩ | exact add_turn1 (by assumption) (by assumption) (by assumption)
    k_state_short (fun pre found carry => found = (addF1 ms ns k pre).1 ∧ carry = (addF1 ms ns k pre).2 ∧ found.length = pre.length) "found" "carry"
    all_goals k_steps
    all_goals (try unfold Halt)
    k_with_none
    k_with "state" => first | exact add_start2 (by assumption) (by assumption) (by assumption) (by omega) | exact add_turn2 (by assumption) (by assumption) (by assumption)
    k_state_short (fun pre found carry => found = (addF2 ms ns k pre).1 ∧ carry = (addF2 ms ns k pre).2 ∧ found.length = ns.length + pre.length) "found" "carry"
    all_goals k_steps
    all_goals dsimp only
    all_goals (refine hret _ _ _ (Fr.keep (by assumption)) (endL (by assumption) (by k_mem) ?_))
    all_goals ((rename _ = Prod.fst (addF2 ms ns k _) => e1); (rename _ = Prod.snd (addF2 ms ns k _) => e2); (rw [addZ, if_pos (by omega), addW, ← e2, ← e1]); (first | rw [if_pos (by assumption)] | rw [if_neg (by assumption)]); walk_at "M ints")
  · k_with_none
    k_with "state" => first | exact ⟨rfl, rfl, rfl⟩ | exact add_turn1 (by assumption) (by assumption) (by assumption)
    k_state_short (fun pre found carry => found = (addF1 ns ms k pre).1 ∧ carry = (addF1 ns ms k pre).2 ∧ found.length = pre.length) "found" "carry"
    all_goals k_steps
    all_goals (try unfold Halt)
    k_with_none
    k_with "state" => first | exact add_start2 (by assumption) (by assumption) (by assumption) (by omega) | exact add_turn2 (by assumption) (by assumption) (by assumption)
    k_state_short (fun pre found carry => found = (addF2 ns ms k pre).1 ∧ carry = (addF2 ns ms k pre).2 ∧ found.length = ms.length + pre.length) "found" "carry"
    all_goals k_steps
    all_goals dsimp only
    all_goals (refine hret _ _ _ (Fr.keep (by assumption)) (endL (by assumption) (by k_mem) ?_))
    all_goals ((rename _ = Prod.fst (addF2 ns ms k _) => e1); (rename _ = Prod.snd (addF2 ns ms k _) => e2); (rw [addZ, if_neg (by omega), addW, ← e2, ← e1]); (first | rw [if_pos (by assumption)] | rw [if_neg (by assumption)]); walk_at "M ints")
end
end Mine
local macro_rules | `(tactic| walk_at "call ref") => `(tactic| (k_here; k_dflt (refine' useL (c_add ?hi ?hj ?H) ?F ?X ?T ?N ?dd ?uu ?p ?_; (case F => k_asm); (case X => assumption); (case T => assumption); (case N => k_asm); (case p => exact ⟨by is_list, by is_list⟩); (case hi => walk_at "M ints"); (case hj => walk_at "M ints"); (case H => walk_at "M conds"); (case dd => ktr_room); (case uu => ktr_units)); (intro a' us' n' h' tk' hi' F' N' ne'); (try simp only [NeAll, and_true] at ne'); (try k_sweep)))
namespace Mine
/-- what the walk of the limbs' maker asks of the plain function -/
structure LmStep (k : Int) (LM : Int → List Int) : Prop where
  step : ∀ x, 0 < x → x < 64 → LM x = x.fmod (2 ^ k.toNat) :: LM (x.fdiv (2 ^ k.toNat)) ∧ 0 ≤ x.fdiv (2 ^ k.toNat) ∧ x.fdiv (2 ^ k.toNat) < 16
  zero : LM 0 = []
  len : ∀ x, (LM x).length ≤ 8
theorem lm_isStep {k : Int} (h1 : 2 ≤ k) (h2 : k ≤ 5) : LmStep k (lm k) := ⟨fun _ h3 h4 => lm_step h1 h2 h3 h4, lm_zero k, lm_length k⟩
section
variable {LM : Int → List Int}
theorem limbs_less {x k : Int} (HL : LmStep k LM) (hb2 : 2 ≤ k) (hb3 : k ≤ 5) (h0 : 0 ≤ x) (h1 : x < 64) (hp : x > 0) : (x.fdiv (2 ^ k.toNat)).toNat < x.toNat := by
  have e : (4 : Int) ≤ 2 ^ k.toNat := byK (P := fun k => (4 : Int) ≤ 2 ^ k.toNat) (by decide +kernel) hb2 hb3
  have h := (HL.step x hp h1).2.1
  have : x.fdiv (2 ^ k.toNat) < x := by
    rw [Int.fdiv_eq_ediv_of_nonneg _ (by omega)]
    refine Int.ediv_lt_of_lt_mul (by omega) ?_
    calc x < x * 4 := by omega
      _ ≤ x * 2 ^ k.toNat := Int.mul_le_mul_of_nonneg_left e (by omega)
  omega
theorem limbs_turn {n x k : Int} {f : List Int} (HL : LmStep k LM) (h : f ++ LM x = LM n) (h0 : 0 ≤ x) (h1 : x < 64) (hp : x > 0) :
    (f ++ [x.fmod (2 ^ k.toNat)]) ++ LM (x.fdiv (2 ^ k.toNat)) = LM n ∧ 0 ≤ x.fdiv (2 ^ k.toNat) ∧ x.fdiv (2 ^ k.toNat) < 64 ∧ (f ++ [x.fmod (2 ^ k.toNat)]).length ≤ 8 := by
  have s := HL.step x hp h1
  have e : (f ++ [x.fmod (2 ^ k.toNat)]) ++ LM (x.fdiv (2 ^ k.toNat)) = LM n := by
    rw [← h, s.1, List.append_assoc]
    rfl
  refine ⟨e, s.2.1, by omega, ?_⟩
  have h2 := congrArg List.length e
  have h3 := HL.len n
  rw [List.length_append] at h2
  omega
theorem limbs_end {n x k : Int} {f : List Int} (HL : LmStep k LM) (h : f ++ LM x = LM n) (h0 : 0 ≤ x) (hp : ¬ 0 < x) : f = LM n := by
  have e : x = 0 := by omega
  subst e
  rw [← h, HL.zero, List.append_nil]
end
section
variable {w : World} {mean : ExcName → Option Value} {mg mb : Str → Option Value} {la lb a b : Addr} {vs us : List Value} {ns ms : List Int} {n k : Int} {t1 t2 : Tok} {LM : Int → List Int}
theorem c_limbs (HL : LmStep k LM) (H : 0 ≤ n ∧ n < 64 ∧ 2 ≤ k ∧ k ≤ 5) :
    Ct w mean mg mb 2 199 [.int n t1, .int k t2] (fun _ => True) (PostL (LM n)) := by
  intro dp un fr gd s Q E hdp hu X T hl hret
  try dsimp only at hl hret
  obtain ⟨hn, hn2, hb2, hb3⟩ := H
  k_with_none
  k_with "stop while" => skip
  walk_at "M enter"
  k_steps
  all_goals (try unfold Halt)
  (rename Fr _ _ _ _ => F0); (rename News _ _ _ _ => N0)
  refine ksw_while (σ := Int × Nat × List Value × List Int × Nat) (fun c => [(_, listOf (List.toArray c.2.2.1) c.2.2.2.2)]) (fun c => [(Str.ofString "number", .int c.1 c.2.1)]) (fun c => IntsAre c.2.2.1 c.2.2.2.1) []
    (fun c => c.2.2.2.1 ++ LM c.1 = LM n ∧ 0 ≤ c.1 ∧ c.1 < 64 ∧ c.2.2.2.1.length ≤ 8) (fun c => c.1.toNat) (n, t1, [], [], 0) F0 N0 IntsAre.nil ?_ ⟨List.nil_append _, hn, hn2, Nat.zero_le _⟩ ?_
  · kst_all
  intro c u h tk hf hp F1 N1
  obtain ⟨x, t, us, f, n0⟩ := c
  dsimp only at hf hp F1 N1 ⊢
  obtain ⟨p1, p2, p3, p4⟩ := hp
  clear F0 N0
  k_steps
  · (rename News _ _ _ _ => nE)
    (try simp only [List.push_toArray] at nE)
    refine ksw_end ⟨_, _, _, _, _⟩ (by assumption) nE (by kst_in) (by kst_facts) (by kst_all) (fun z h2 _ => ?_) ?_ ?_
    · have h4 := h2 _ (List.mem_singleton.mpr rfl)
      simp only [ne_eq] at h4
      simp [kstB, h4]
    · exact limbs_turn HL (by assumption) (by assumption) (by assumption) (by assumption)
    · exact limbs_less HL hb2 hb3 (by assumption) (by assumption) (by assumption)
  all_goals dsimp only
  refine hret _ _ _ (Fr.keep (by assumption)) (endL (by assumption) (by k_mem) ?_)
  rw [← limbs_end HL (by assumption) (by assumption) (by assumption)]
  assumption
end
end Mine
local macro_rules | `(tactic| walk_at "call ref") => `(tactic| (k_here; k_dflt (refine' useL (c_limbs ?HL ?H) ?F ?X ?T ?N ?dd ?uu ?p ?_; (case F => k_asm); (case X => assumption); (case T => assumption); (case N => k_asm); (case p => trivial); (case HL => assumption); (case H => walk_at "M conds"); (case dd => ktr_room); (case uu => ktr_units)); (intro a' us' n' h' tk' hi' F' N' ne'); (try simp only [NeAll, and_true] at ne'); (try k_sweep)))
namespace Mine
theorem xor_half {x y : Int} (hx : 0 ≤ x) (hy : 0 ≤ y) : Builtin.bitXor x y = 2 * Builtin.bitXor (x.fdiv 2) (y.fdiv 2) + (if x.fmod 2 = y.fmod 2 then 0 else 1) := by
  have e1 : x.fdiv 2 = x / 2 := Int.fdiv_eq_ediv_of_nonneg _ (by decide)
  have e2 : y.fdiv 2 = y / 2 := Int.fdiv_eq_ediv_of_nonneg _ (by decide)
  have e3 : x.fmod 2 = x % 2 := Int.fmod_eq_emod_of_nonneg _ (by decide)
  have e4 : y.fmod 2 = y % 2 := Int.fmod_eq_emod_of_nonneg _ (by decide)
  rw [e1, e2, e3, e4, bitXor_and, bitXor_and, kbt_halves x y]
  split <;> split <;> omega
theorem parted_turn {x y f v t : Int} (h : f + v * Builtin.bitXor x y = t) (h0 : 0 ≤ x) (h1 : 0 ≤ y) :
    0 ≤ x.fdiv 2 ∧ 0 ≤ y.fdiv 2 ∧ (x.fmod 2 ≠ y.fmod 2 → f + v + 2 * v * Builtin.bitXor (x.fdiv 2) (y.fdiv 2) = t) ∧ (x.fmod 2 = y.fmod 2 → f + 2 * v * Builtin.bitXor (x.fdiv 2) (y.fdiv 2) = t) := by
  have e1 : x.fdiv 2 = x / 2 := Int.fdiv_eq_ediv_of_nonneg _ (by decide)
  have e2 : y.fdiv 2 = y / 2 := Int.fdiv_eq_ediv_of_nonneg _ (by decide)
  refine ⟨by omega, by omega, fun q => ?_, fun q => ?_⟩
  · rw [xor_half h0 h1, if_neg q, Int.mul_add, ← Int.mul_assoc, Int.mul_comm v 2, Int.mul_one] at h
    omega
  · rw [xor_half h0 h1, if_pos q, Int.mul_add, ← Int.mul_assoc, Int.mul_comm v 2, Int.mul_zero] at h
    omega
theorem parted_end {x y f v t : Int} (h : f + v * Builtin.bitXor x y = t) (h0 : 0 ≤ x) (h1 : 0 ≤ y) (hx : ¬ 0 < x) (hy : ¬ 0 < y) : f = t := by
  have e1 : x = 0 := by omega
  have e2 : y = 0 := by omega
  subst e1 e2
  have e : Builtin.bitXor 0 0 = 0 := by decide
  rw [e] at h
  omega
theorem parted_less {x y : Int} (h0 : 0 ≤ x) (h1 : 0 ≤ y) (h : 0 < x ∨ 0 < y) : (x.fdiv 2).toNat + (y.fdiv 2).toNat < x.toNat + y.toNat := by
  have e1 : x.fdiv 2 = x / 2 := Int.fdiv_eq_ediv_of_nonneg _ (by decide)
  have e2 : y.fdiv 2 = y / 2 := Int.fdiv_eq_ediv_of_nonneg _ (by decide)
  omega
section
variable {w : World} {mean : ExcName → Option Value} {mg mb : Str → Option Value} {la lb a b : Addr} {vs us : List Value} {ns ms : List Int} {n k : Int} {t1 t2 : Tok}
theorem c_parted (H : 0 ≤ n ∧ 0 ≤ k) :
    Ct w mean mg mb 2 227 [.int n t1, .int k t2] (fun _ => True) (PostI (Builtin.bitXor n k)) := by
  intro dp un fr gd s Q E hdp hu X T hl hret
  try dsimp only at hl hret
  obtain ⟨hn, hn2⟩ := H
  k_with_none
  k_with "stop while" => skip
  walk_at "M enter"
  k_steps
  all_goals (try unfold Halt)
  have hst : 0 ≤ n ∧ 0 ≤ k ∧ 0 + 1 * Builtin.bitXor n k = Builtin.bitXor n k := ⟨hn, hn2, by omega⟩
  k_with "state" => exact hst
  k_with "stop end" => skip
  k_while_given ["number!", "other!"] (fun n₀ o₀ script number other found worth => 0 ≤ number ∧ 0 ≤ other ∧ found + worth * Builtin.bitXor number other = Builtin.bitXor n₀ o₀) (fun n₀ o₀ script number other found worth => number.toNat + other.toNat) "number" "other" "found" "worth"
  k_steps
  all_goals (try unfold Halt)
  all_goals try dsimp only
  rotate_left 4
  · refine hret _ _ _ (Fr.keep (by assumption)) ⟨_, congrArg (fun z => Value.int z _) ?_⟩
    exact parted_end (by assumption) (by assumption) (by assumption) (by assumption) (by assumption)
  all_goals (rename News _ _ _ _ => nE)
  all_goals (refine ksw_end (_, _, _, _, _, _, _, _) (by assumption) nE (fun p hp => ?_) trivial (by kst_all) (fun z h2 _ => ?_) ?_ ?_)
  all_goals try dsimp only
  all_goals first
    | (rw [List.mem_singleton.mp hp]; k_mem)
    | ((simp only [List.forall_mem_cons, List.not_mem_nil, false_implies, implies_true, and_true, ne_eq] at h2); (simp [h2]; done))
    | (have q := parted_turn (by assumption) (by assumption) (by assumption); first | exact ⟨q.1, q.2.1, q.2.2.1 (by assumption)⟩ | exact ⟨q.1, q.2.1, q.2.2.2 (by assumption)⟩)
    | exact parted_less (by assumption) (by assumption) (by omega)
end
end Mine
local macro_rules | `(tactic| walk_at "call ref") => `(tactic| (k_here; k_dflt (refine' useI (c_parted ?H) ?F ?X ?T ?N ?dd ?uu ?p ?_; (case F => k_asm); (case X => assumption); (case T => assumption); (case N => k_asm); (case p => trivial); (case H => walk_at "M conds"); (case dd => ktr_room); (case uu => ktr_units)); (intro t' h' tk' hg' F' N'); (try k_sweep)))
namespace Mine
def nextZ (x t : Int) : Int := if x.fmod 2 = 1 then Builtin.bitXor (x.fdiv 2) t else x.fdiv 2
section
variable {w : World} {mean : ExcName → Option Value} {mg mb : Str → Option Value} {la lb a b : Addr} {vs us : List Value} {ns ms : List Int} {n k : Int} {t1 t2 : Tok} {LM : Int → List Int}
theorem c_next (H : 0 ≤ n ∧ 0 ≤ k) :
    Ct w mean mg mb 4 234 [.int n t1, .int k t2] (fun _ => True) (PostI (nextZ n k)) := by
  intro dp un fr gd s Q E hdp hu X T hl hret
  try dsimp only at hl hret
  obtain ⟨hn, hn2⟩ := H
  have q1 := fdiv_lo hn (show (0 : Int) < 2 by decide)
  k_with_none
  walk_at "M enter"
  k_steps
  all_goals (refine hret _ _ _ (Fr.keep (by assumption)) ⟨_, congrArg (fun z => Value.int z _) ?_⟩)
  all_goals (rw [nextZ]; first | (rw [if_pos (by assumption)]; done) | (rw [if_neg (by assumption)]; done))
theorem c_setbit (hi : IntsAre vs ns) (H : ns.length ≤ 8 ∧ bitZ ns 0 k = 0 ∧ 2 ≤ k ∧ k ≤ 5) :
    Ct w mean mg mb 6 145 [.ref a, .int 0 t1, .int k t2] (fun h => PreS a la vs h) (PostS (addZ ns (shlZ [1] 0 k) k)) := by
  intro dp un fr gd s Q E hdp hu X T hl hret
  try dsimp only at hl hret
  obtain ⟨ht1, hl1⟩ := hl
  obtain ⟨hlen, hb0, hb2, hb3⟩ := H
  have hs : (shlZ [1] 0 k).length ≤ 8 := byK (P := fun k => (shlZ [1] 0 k).length ≤ 8) (by decide +kernel) hb2 hb3
  k_with_none
  walk_at "M enter"
  k_steps
  all_goals dsimp only
  all_goals first
    | (exfalso; omega)
    | exact hret _ _ _ (Fr.keep (by assumption)) (endS (by assumption) (by k_mem) (by k_mem) (by assumption))
theorem c_lsigned (HL : LmStep k LM) (H : 0 ≤ n ∧ n < 64 ∧ 2 ≤ k ∧ k ≤ 5) :
    Ct w mean mg mb 4 206 [.int n t1, .int k t2] (fun _ => True) (PostS (LM n)) := by
  intro dp un fr gd s Q E hdp hu X T hl hret
  try dsimp only at hl hret
  obtain ⟨hn, hn2, hb2, hb3⟩ := H
  k_with_none
  walk_at "M enter"
  k_steps
  have e1 : decide (n < 0) = false := decide_eq_false (by omega)
  have e2 : (if n < 0 then -n else n) = n := if_neg (by omega)
  (rename News _ _ _ _ => N9); (rename IntsAre _ _ => hi9)
  rw [e1] at N9
  rw [e2] at hi9
  exact hret _ _ _ (Fr.keep (by assumption)) (endS N9 (by k_mem) (by k_mem) hi9)
end
end Mine
local macro_rules | `(tactic| walk_at "call ref") => `(tactic| (k_here; k_dflt (refine' useI (c_next ?H) ?F ?X ?T ?N ?dd ?uu ?p ?_; (case F => k_asm); (case X => assumption); (case T => assumption); (case N => k_asm); (case p => trivial); (case H => walk_at "M conds"); (case dd => ktr_room); (case uu => ktr_units)); (intro t' h' tk' hg' F' N'); (try k_sweep)))
local macro_rules | `(tactic| walk_at "call ref") => `(tactic| (k_here; k_dflt (refine' useS (c_setbit ?hi ?H) ?F ?X ?T ?N ?dd ?uu ?p ?_; (case F => k_asm); (case X => assumption); (case T => assumption); (case N => k_asm); (case p => walk_at "M pre"); (case hi => walk_at "M ints"); (case H => walk_at "M conds"); (case dd => ktr_room); (case uu => ktr_units)); (intro a' la' us' n' k' h' tk' hi' F' N' ne' ne2'); (try k_sweep)))
local macro_rules | `(tactic| walk_at "call ref") => `(tactic| (k_here; k_dflt (refine' useS (c_lsigned ?HL ?H) ?F ?X ?T ?N ?dd ?uu ?p ?_; (case F => k_asm); (case X => assumption); (case T => assumption); (case N => k_asm); (case p => trivial); (case HL => assumption); (case H => walk_at "M conds"); (case dd => ktr_room); (case uu => ktr_units)); (intro a' la' us' n' k' h' tk' hi' F' N' ne' ne2'); (try k_sweep)))
namespace Mine
/-- what the walk asks of the plain limbs of a number -/
structure LmOk (k : Int) (LM : Int → List Int) : Prop where
  base : LmStep k LM
  lb : ∀ x, 0 ≤ x → x < 32 → Lb (LM x) ∧ (LM x).length ≤ 3
  xor : ∀ x y, 0 ≤ x → x < 32 → 0 ≤ y → y < 32 → sxorZ (LM x) (LM y) = LM (Builtin.bitXor x y)
  shr : ∀ x, 0 ≤ x → x < 32 → shrZ (LM x) 1 k = LM (x.fdiv 2)
  shl : ∀ x, 0 ≤ x → x < 16 → shlZ (LM x) 1 k = LM (2 * x)
  bit : ∀ x i, 0 ≤ x → x < 32 → 0 ≤ i → i ≤ 5 → bitZ (LM x) i k = (x.fdiv (2 ^ i.toNat)).fmod 2
  add : ∀ x, 0 ≤ x → x < 16 → addZ (LM (2 * x)) (shlZ [1] 0 k) k = LM (2 * x + 1)
  inj : ∀ x y, 0 ≤ x → x < 32 → 0 ≤ y → y < 32 → LM x = LM y → x = y
theorem xor_lo {x y : Int} (hx : 0 ≤ x) (hy : 0 ≤ y) : 0 ≤ Builtin.bitXor x y := by
  rw [bitXor_and, bitAnd_pp hx hy]
  have h1 : x.toNat &&& y.toNat ≤ x.toNat := Nat.and_le_left
  have h2 : x.toNat &&& y.toNat ≤ y.toNat := Nat.and_le_right
  omega
def backZ (x t n : Int) : Int := if (x.fdiv (2 ^ (n - 1).toNat)).fmod 2 = 0 then 2 * x else 2 * Builtin.bitXor x t + 1
section
variable {w : World} {mean : ExcName → Option Value} {mg mb : Str → Option Value} {la lb a b : Addr} {vs us : List Value} {ns ms : List Int} {n k : Int} {t1 t2 : Tok} {LM : Int → List Int} {x t : Int}
theorem c_stepped (HL : LmOk k LM) (hi : IntsAre vs (LM x)) (hj : IntsAre us (LM t)) (H : 0 ≤ x ∧ x < 32 ∧ 0 ≤ t ∧ t < 32 ∧ 2 ≤ k ∧ k ≤ 5) :
    Ct w mean mg mb 8 213 [.ref a, .ref b, .int k t2] (fun h => PreS a la vs h ∧ PreS b lb us h) (PostS (LM (nextZ x t))) := by
  intro dp un fr gd s Q E hdp hu X T hl hret
  try dsimp only at hl hret
  obtain ⟨⟨ht1, hl1⟩, ht2, hl2⟩ := hl
  obtain ⟨hx, hx2, ht, ht2', hb2, hb3⟩ := H
  obtain ⟨hLx, hlx⟩ := HL.lb x hx hx2
  obtain ⟨hLt, hlt⟩ := HL.lb t ht ht2'
  have q1 : x.fdiv 2 = x / 2 := Int.fdiv_eq_ediv_of_nonneg _ (by decide)
  have hs := HL.shr x hx hx2
  have hls : (shrZ (LM x) 1 k).length ≤ 3 := by rw [hs]; exact (HL.lb _ (by omega) (by omega)).2
  have hbit : bitZ (LM x) 0 k = x.fmod 2 := by rw [HL.bit x 0 hx hx2 (by decide) (by decide)]; simp
  have hxo : sxorZ (shrZ (LM x) 1 k) (LM t) = LM (Builtin.bitXor (x.fdiv 2) t) := by rw [hs]; exact HL.xor _ _ (by omega) (by omega) ht ht2'
  k_with_none
  walk_at "M enter"
  k_steps
  all_goals (refine hret _ _ _ (Fr.keep (by assumption)) (endS (by assumption) (by k_mem) (by k_mem) ?_))
  · rw [nextZ, if_pos (by omega), ← hxo]; assumption
  · rw [nextZ, if_neg (by omega), ← hs]; assumption
theorem c_back (HL : LmOk k LM) (hi : IntsAre vs (LM x)) (hj : IntsAre us (LM t)) (H : 0 ≤ x ∧ x < 32 ∧ 0 ≤ t ∧ t < 32 ∧ 2 ≤ n ∧ n ≤ 5 ∧ ((x.fdiv (2 ^ (n - 1).toNat)).fmod 2 = 0 → x < 16) ∧ ((x.fdiv (2 ^ (n - 1).toNat)).fmod 2 ≠ 0 → Builtin.bitXor x t < 16) ∧ 2 ≤ k ∧ k ≤ 5) :
    Ct w mean mg mb 10 220 [.ref a, .ref b, .int n t1, .int k t2] (fun h => PreS a la vs h ∧ PreS b lb us h) (PostS (LM (backZ x t n))) := by
  intro dp un fr gd s Q E hdp hu X T hl hret
  try dsimp only at hl hret
  obtain ⟨⟨ht1, hl1⟩, ht2, hl2⟩ := hl
  obtain ⟨hx, hx2, ht, ht2', hn1, hn2, hc1, hc2, hb2, hb3⟩ := H
  obtain ⟨hLx, hlx⟩ := HL.lb x hx hx2
  obtain ⟨hLt, hlt⟩ := HL.lb t ht ht2'
  have hbit := HL.bit x (n - 1) hx hx2 (by omega) (by omega)
  have hxo := HL.xor x t hx hx2 ht ht2'
  have hlo := xor_lo hx ht
  by_cases hc : (x.fdiv (2 ^ (n - 1).toNat)).fmod 2 = 0
  · have hx16 := hc1 hc
    have hz : bitZ (LM x) (n - 1) k = 0 := hbit.trans hc
    have hs := HL.shl x hx hx16
    k_with_none
    walk_at "M enter"
    k_steps
    all_goals first
      | (exfalso; contradiction)
      | (refine hret _ _ _ (Fr.keep (by assumption)) (endS (by assumption) (by k_mem) (by k_mem) ?_); rw [backZ, if_pos hc, ← hs]; assumption)
  · have hx16 := hc2 hc
    have hz : bitZ (LM x) (n - 1) k ≠ 0 := fun e => hc (hbit.symm.trans e)
    have hLs := HL.lb _ hlo (by omega : Builtin.bitXor x t < 32)
    have hLx : Lb (sxorZ (LM x) (LM t)) := by rw [hxo]; exact hLs.1
    have hlx2 : (sxorZ (LM x) (LM t)).length ≤ 8 := by rw [hxo]; omega
    have hs : shlZ (sxorZ (LM x) (LM t)) 1 k = LM (2 * Builtin.bitXor x t) := by rw [hxo]; exact HL.shl _ hlo hx16
    have hs8 : (shlZ (sxorZ (LM x) (LM t)) 1 k).length ≤ 8 := by rw [hs]; exact HL.base.len _
    have hs0 : bitZ (shlZ (sxorZ (LM x) (LM t)) 1 k) 0 k = 0 := by
      rw [hs, HL.bit _ 0 (by omega) (by omega) (by decide) (by decide)]
      have e : (2 * Builtin.bitXor x t).fdiv (2 ^ (0 : Int).toNat) = 2 * Builtin.bitXor x t := by simp
      rw [e, Int.fmod_eq_emod_of_nonneg _ (by decide)]
      omega
    have ha := HL.add _ hlo hx16
    rw [← hs] at ha
    k_with_none
    walk_at "M enter"
    k_steps
    all_goals first
      | (exfalso; contradiction)
      | (refine hret _ _ _ (Fr.keep (by assumption)) (endS (by assumption) (by k_mem) (by k_mem) ?_); rw [backZ, if_neg hc, ← ha]; assumption)
end
end Mine
local macro_rules | `(tactic| walk_at "call ref") => `(tactic| (k_here; k_dflt (refine' useS (c_stepped ?HL ?hi ?hj ?H) ?F ?X ?T ?N ?dd ?uu ?p ?_; (case F => k_asm); (case X => assumption); (case T => assumption); (case N => k_asm); (case p => exact ⟨by walk_at "M pre", by walk_at "M pre"⟩); (case HL => assumption); (case hi => walk_at "M ints"); (case hj => walk_at "M ints"); (case H => walk_at "M conds"); (case dd => ktr_room); (case uu => ktr_units)); (intro a' la' us' n' k' h' tk' hi' F' N' ne' ne2'); (try k_sweep)))
local macro_rules | `(tactic| walk_at "call ref") => `(tactic| (k_here; k_dflt (refine' useS (c_back ?HL ?hi ?hj ?H) ?F ?X ?T ?N ?dd ?uu ?p ?_; (case F => k_asm); (case X => assumption); (case T => assumption); (case N => k_asm); (case p => exact ⟨by walk_at "M pre", by walk_at "M pre"⟩); (case HL => assumption); (case hi => walk_at "M ints"); (case hj => walk_at "M ints"); (case H => walk_at "M conds"); (case dd => ktr_room); (case uu => ktr_units)); (intro a' la' us' n' k' h' tk' hi' F' N' ne' ne2'); (try k_sweep)))
namespace Mine
theorem byKN {P : Int → Int → Prop} {m : Nat} (h : ∀ k : Fin 4, ∀ x : Fin m, P ((k : Nat) + 2 : Nat) ((x : Nat) : Int)) {k x : Int} (h1 : 2 ≤ k) (h2 : k ≤ 5) (h3 : 0 ≤ x) (h4 : x < m) : P k x :=
  byK (P := fun k => P k x) (fun j => byN (n := m) (P := fun x => P ((j : Nat) + 2 : Nat) x) (h j) h3 h4) h1 h2
theorem lm_xor : ∀ k : Fin 4, ∀ x y : Fin 32, sxorZ (lm ((k : Nat) + 2 : Nat) ((x : Nat) : Int)) (lm ((k : Nat) + 2 : Nat) ((y : Nat) : Int)) = lm ((k : Nat) + 2 : Nat) (Builtin.bitXor ((x : Nat) : Int) ((y : Nat) : Int)) := by decide +kernel
theorem lm_inj : ∀ k : Fin 4, ∀ x y : Fin 32, lm ((k : Nat) + 2 : Nat) ((x : Nat) : Int) = lm ((k : Nat) + 2 : Nat) ((y : Nat) : Int) → ((x : Nat) : Int) = ((y : Nat) : Int) := by decide +kernel
theorem lm_shr : ∀ k : Fin 4, ∀ x : Fin 32, shrZ (lm ((k : Nat) + 2 : Nat) ((x : Nat) : Int)) 1 ((k : Nat) + 2 : Nat) = lm ((k : Nat) + 2 : Nat) (((x : Nat) : Int).fdiv 2) := by decide +kernel
theorem lm_shl : ∀ k : Fin 4, ∀ x : Fin 16, shlZ (lm ((k : Nat) + 2 : Nat) ((x : Nat) : Int)) 1 ((k : Nat) + 2 : Nat) = lm ((k : Nat) + 2 : Nat) (2 * ((x : Nat) : Int)) := by decide +kernel
theorem lm_add : ∀ k : Fin 4, ∀ x : Fin 16, addZ (lm ((k : Nat) + 2 : Nat) (2 * ((x : Nat) : Int))) (shlZ [1] 0 ((k : Nat) + 2 : Nat)) ((k : Nat) + 2 : Nat) = lm ((k : Nat) + 2 : Nat) (2 * ((x : Nat) : Int) + 1) := by decide +kernel
theorem lm_bit : ∀ k : Fin 4, ∀ x : Fin 32, ∀ i : Fin 6, bitZ (lm ((k : Nat) + 2 : Nat) ((x : Nat) : Int)) ((i : Nat) : Int) ((k : Nat) + 2 : Nat) = (((x : Nat) : Int).fdiv (2 ^ (((i : Nat) : Int)).toNat)).fmod 2 := by decide +kernel
theorem lm_ok {k : Int} (h1 : 2 ≤ k) (h2 : k ≤ 5) : LmOk k (lm k) where
  base := lm_isStep h1 h2
  lb := fun x h3 h4 => lm_lb h1 h2 h3 h4
  xor := fun x y h3 h4 h5 h6 => byKN (m := 32) (P := fun k x => sxorZ (lm k x) (lm k y) = lm k (Builtin.bitXor x y)) (fun k x => byN (n := 32) (P := fun y => sxorZ (lm ((k : Nat) + 2 : Nat) ((x : Nat) : Int)) (lm ((k : Nat) + 2 : Nat) y) = lm ((k : Nat) + 2 : Nat) (Builtin.bitXor ((x : Nat) : Int) y)) (lm_xor k x) h5 h6) h1 h2 h3 h4
  inj := fun x y h3 h4 h5 h6 => byKN (m := 32) (P := fun k x => lm k x = lm k y → x = y) (fun k x => byN (n := 32) (P := fun y => lm ((k : Nat) + 2 : Nat) ((x : Nat) : Int) = lm ((k : Nat) + 2 : Nat) y → ((x : Nat) : Int) = y) (lm_inj k x) h5 h6) h1 h2 h3 h4
  shr := fun x h3 h4 => byKN (m := 32) (P := fun k x => shrZ (lm k x) 1 k = lm k (x.fdiv 2)) lm_shr h1 h2 h3 h4
  shl := fun x h3 h4 => byKN (m := 16) (P := fun k x => shlZ (lm k x) 1 k = lm k (2 * x)) lm_shl h1 h2 h3 h4
  add := fun x h3 h4 => byKN (m := 16) (P := fun k x => addZ (lm k (2 * x)) (shlZ [1] 0 k) k = lm k (2 * x + 1)) lm_add h1 h2 h3 h4
  bit := fun x i h3 h4 h5 h6 => byKN (m := 32) (P := fun k x => bitZ (lm k x) i k = (x.fdiv (2 ^ i.toNat)).fmod 2) (fun k x => byN (n := 6) (P := fun i => bitZ (lm ((k : Nat) + 2 : Nat) ((x : Nat) : Int)) i ((k : Nat) + 2 : Nat) = (((x : Nat) : Int).fdiv (2 ^ i.toNat)).fmod 2) (lm_bit k x) h5 (by omega)) h1 h2 h3 h4
end Mine
namespace Mine
theorem enterH {prog : Program} {w : World} {A : Around} {s : Shared} {K : Frag} {p : Program} {loose : List Str} {mean : ExcName → Option Value} {mg mb : Str → Option Value}
    {name qual : Str} {params : Arguments} {body : List Stmt} {scope : Scope} {dV kV doc pm cdv ct oc : Value} {an od : Option Addr} {osl : Array (Option Value)} {f : Addr} {vs : List Value}
    {Q E : Value → Shared → Prop} {tub : Addr} {o : Obj} (htub : s.heap.get? tub = some o)
    (X : K.In (s.heap.hide tub)) (T : Top p loose mean mg mb (s.heap.hide tub))
    (ho : K.lookup f = some ⟨oc, od, .func (fnOf name qual params body scope dV kV doc pm an cdv ct), osl⟩) (hcd : codeIn K cdv qual = true) (hroom : A.depth < recursionLimit)
    (hbind : bindArgs (fnOf name qual params body scope dV kV doc pm an cdv ct) ⟨vs, []⟩ = pure ((params.args.map (·.arg)).zip vs)) (hloc : ∀ y ∈ (params.args.map (·.arg)).zip vs, scope.names.lookup y.1 = some .local)
    (h : ∀ L' h₁, Fr (s.heap.hide tub) L' h₁ (fun y => ((params.args.map (·.arg)).zip vs).reverse.lookup y) → News (s.heap.hide tub) L' h₁ [(tub, o)] → K.In (s.heap.hide tub) → Top p loose mean mg mb (s.heap.hide tub) →
      wpAny (model prog w) (A.deeper (envOf qual scope L' f cdv)) (execs body (envOf qual scope L' f cdv))
        (fun fl s' => Q (match fl with | .ret v => v | _ => .none) s') (fun _ _ => False)
        { s with heap := h₁, toks := s.toks + ((params.args.map (·.arg)).zip vs).length })
    (hco : scope.isCoroutine = false) (hgen : scope.isGenerator = false) (hk : scope.kind = .function)
    (hcell : ∀ x ∈ scope.names, x.2 ≠ .cell) : wpAny (model prog w) A (call (.ref f) vs) Q E s := by
  have up : Grow (s.heap.hide tub) s.heap := fun b o e => Heap.of_hide e
  refine wpAny_call (codeAny_call_def (fd := fnOf name qual params body scope dV kV doc pm an cdv ct) (body := body) (binds := (params.args.map (·.arg)).zip vs) hroom (up _ _ (X _ _ ho)) rfl (T.nolimit.keeps up) (codeRec_of (X.keeps up) hcd) rfl (BindsTo.of_eq hbind) hcell hloc (fun h₁ hns hk₁ => ?_) hco hgen hk)
  refine wpAny_mono (h s.heap.objs.size h₁ ⟨hns, fun b o e => hk₁ _ _ (up _ _ e), Nat.le_of_eq (Heap.hide_size _ _)⟩ (fun p hp => ?_) X T) (fun _ _ x => x) fun _ _ x => x.elim
  rw [List.mem_singleton.mp hp]
  exact ⟨hk₁ _ _ htub, Nat.ne_of_lt (Heap.lt_size htub), Heap.hide_self _ _⟩
end Mine
local macro_rules | `(tactic| walk_at "M enterH") => `(tactic| (k_dflt (refine' enterH ?kh ?kX ?kT ?k6 ?k7 ?k8 ?k9 ?kB ?_ ?c2 ?c3 ?c4 ?c5; (case kh => assumption); (case kX => assumption); (case kT => assumption); (case k6 => k_is); (case k7 => k_is); (case k8 => ktr_room); (case k9 => exact rfl); (case c5 => decide); (case kB => exact locs rfl); (case c2 => exact rfl); (case c3 => exact rfl); (case c4 => exact rfl)); (intro L' h' F' N' X' T'); (simp only [List.map_cons, List.map_nil, List.zip_cons_cons, List.zip_nil_left, List.zip_nil_right, List.reverse_cons, List.reverse_nil, List.nil_append, List.cons_append] at F'); (try dsimp only)))
namespace Mine
section
variable {w : World} {mean : ExcName → Option Value} {mg mb : Str → Option Value} {la lb a b l tub : Addr} {vs us : List Value} {ns ms : List Int} {n k c : Int} {t1 t2 tc : Tok} {nn : Nat}
  {d dp un : Nat} {fr : Option (List Env)} {gd : Option (List Code)} {s : Shared} {Q E : Value → Shared → Prop}
theorem sift_in (htub : s.heap.get? tub = some (listOf #[.int c tc, .ref l] nn)) (X : (hd.heap_39 w.params).In (s.heap.hide tub)) (T : Tp mean mg mb (s.heap.hide tub)) (hl : (s.heap.hide tub).IsList l us.toArray) (hi : IntsAre us ms)
    (hms : ∀ x ∈ ms, 0 ≤ x) (hlen : ms.length ≤ 63) (hc : 0 ≤ c) (hc2 : c ≤ 10) (hk : 0 < k) (hk2 : k ≤ 64) (hdp : dp + 2 < recursionLimit) (hu : un + 30 < cLine)
    (ret : ∀ v t tc' nn' h' tk', 0 ≤ v → v < k → Grow (s.heap.hide tub) h' → h'.get? tub = some (listOf #[.int (c + 1) tc', .ref l] nn') → Q (.int v t) { s with heap := h', toks := tk' }) :
    wpAny (model PR w) (At dp un fr gd) (call (.ref 192) [.ref tub, .int k t1]) Q E s := by
  k_with_none
  walk_at "M enterH"
  k_steps
  all_goals dsimp only
  all_goals (rename News _ _ _ _ => N9)
  all_goals exact ret _ _ _ _ _ _ (fmod_lo _ hk) (fmod_hi _ hk) (Fr.keep (by assumption)) (N9 _ (by k_mem)).1
theorem sift_use {h₀ : Heap} {L : Addr} {m : Str → Option Value} {news : List (Addr × Obj)} {g : Obj → List (Addr × Obj)} {nl : Nat}
    (F : Fr h₀ L s.heap m) (X : (hd.heap_39 w.params).In h₀) (T : Tp mean mg mb h₀) (N : News h₀ L s.heap news) (U : UpdF tub (listOf #[.int c tc, .ref l] nn) news g) (hl : (l, listOf us.toArray nl) ∈ news) (hne : @Ne Nat l tub) (hi : IntsAre us ms)
    (H : (∀ x ∈ ms, 0 ≤ x) ∧ ms.length ≤ 63 ∧ 0 ≤ c ∧ c ≤ 10 ∧ 0 < k ∧ k ≤ 64) (hdp : dp + 2 < recursionLimit) (hu : un + 30 < cLine)
    (ret : ∀ v t tc' nn' h' tk', 0 ≤ v → v < k → Fr h₀ L h' m → News h₀ L h' (g (listOf #[.int (c + 1) tc', .ref l] nn')) → Q (.int v t) { s with heap := h', toks := tk' }) :
    wpAny (model PR w) (At dp un fr gd) (call (.ref 192) [.ref tub, .int k t1]) Q E s := by
  obtain ⟨hms, hlen, hc, hc2, hk, hk2⟩ := H
  obtain ⟨own, rest, rfl, hg, h1, h2⟩ := U.split
  have htub := N (tub, listOf #[.int c tc, .ref l] nn) (List.mem_append_right _ (.head _))
  have st : Grow h₀ (s.heap.hide tub) := fun b o e => (Heap.hide_ne _ (fun q => by have h3 := htub.2.2; rw [q] at e; rw [h3] at e; cases e)).trans (F.keep _ _ e)
  have hln := N _ hl
  have hlh : (s.heap.hide tub).IsList l us.toArray := ⟨_, (Heap.hide_ne _ hne).trans hln.1, rfl, _, rfl⟩
  refine sift_in htub.1 (X.keeps st) (T.keeps st) hlh hi hms hlen hc hc2 hk hk2 hdp hu fun v t tc' nn' h' tk' hv hv2 hgr hto => ?_
  obtain ⟨oL, es, ep, hL, r⟩ := F.ns
  refine ret v t tc' nn' h' tk' hv hv2 ⟨⟨oL, es, ep, hgr _ _ ((Heap.hide_ne _ (Ne.symm htub.2.1)).trans hL), r⟩, fun b o e => hgr _ _ (st _ _ e), F.above⟩ ?_
  rw [hg]
  intro p hp
  rcases List.mem_append.mp hp with q | q
  · have z := N p (List.mem_append_left _ q)
    exact ⟨hgr _ _ ((Heap.hide_ne _ (h1 p q)).trans z.1), z.2⟩
  · rcases List.mem_cons.mp q with rfl | q
    · exact ⟨hto, htub.2⟩
    · have z := N p (List.mem_append_right _ (.tail _ q))
      exact ⟨hgr _ _ ((Heap.hide_ne _ (h2 p q)).trans z.1), z.2⟩
end
end Mine
local macro_rules | `(tactic| walk_at "call ref") => `(tactic| (k_here; k_dflt (refine' sift_use ?F ?X ?T ?N ?U ?hl ?hne ?hi ?H ?dd ?uu ?_; (case F => k_asm); (case X => assumption); (case T => assumption); (case N => k_asm); (case U => k_updF); (case hl => k_mem); (case hne => k_ne); (case hi => walk_at "M ints"); (case H => walk_at "M sift"); (case dd => ktr_room); (case uu => ktr_units)); (intro v' t' tc' nn' h' tk' hv' hv2' F' N'); (try dsimp only at N'); (try k_sweep)))
namespace Mine
section
variable {prog : Program} {w : World} {A : Around} {E : Value → Shared → Prop} {s : Shared}
theorem reads_sg {h : Heap} {a la : Addr} {vs : List Value} {ns : List Int} (ha : IsTup h a #[.bool false, .ref la]) (hl : h.IsList la vs.toArray) (hi : IntsAre vs ns) : Reads h (.ref a) (.tuple [.bool false, .list (ns.map PyData.int)]) [la] := by
  obtain ⟨o, ho, hc, n, hd⟩ := ha
  exact Reads.tuple ho hc hd (ReadsAll.cons (Reads.bool false) (ReadsAll.cons (reads_of_ints hl hi) ReadsAll.nil))
theorem shaped_sg (ns : List Int) : SeqAt.shaped (.tuple [.bool false, .list (ns.map PyData.int)]) = true := by
  have h1 := PySem.W.depthAll_ints ns
  show (PyData.canLay0 (.tuple [.bool false, .list (ns.map PyData.int)]) && decide (PyData.depth (.tuple [.bool false, .list (ns.map PyData.int)]) ≤ 64)) = true
  rw [Bool.and_eq_true]
  refine ⟨by simp [PyData.canLay0, PyData.canLayAll0, canLayAll0_ints ns], decide_eq_true ?_⟩
  simp only [PyData.depth, PyData.depthAll]
  omega
theorem eqv_sg (ns ms : List Int) : PyData.eqv (.tuple [.bool false, .list (ns.map PyData.int)]) (.tuple [.bool false, .list (ms.map PyData.int)]) = decide (ns = ms) := by
  simp [PyData.eqv, PyData.eqvAll, ked_eqvAll]
theorem sg_eq {a la b lb : Addr} {vs us : List Value} {ns ms : List Int} {Q : Value → Shared → Prop} (ha : PreS a la vs s.heap) (hb : PreS b lb us s.heap) (hi : IntsAre vs ns) (hj : IntsAre us ms) (hu : A.units + 64 < cLine)
    (h : Q (.bool (decide (ns = ms))) s) : wpAny (model prog w) A (compareOp .Eq (.ref a) (.ref b)) Q E s :=
  eq_dataH (reads_sg ha.1 ha.2 hi) (reads_sg hb.1 hb.2 hj) (shaped_sg ns) (shaped_sg ms) hu (by rw [eqv_sg]; exact h)
theorem sg_ne {a la b lb : Addr} {vs us : List Value} {ns ms : List Int} {Q : Value → Shared → Prop} (ha : PreS a la vs s.heap) (hb : PreS b lb us s.heap) (hi : IntsAre vs ns) (hj : IntsAre us ms) (hu : A.units + 64 < cLine)
    (hE : ns = ms) (h : Q (.bool false) s) : wpAny (model prog w) A (compareOp .NotEq (.ref a) (.ref b)) Q E s :=
  ne_dataH (reads_sg ha.1 ha.2 hi) (reads_sg hb.1 hb.2 hj) (shaped_sg ns) (shaped_sg ms) hu (by rw [eqv_sg, decide_eq_true hE]; exact h)
end

section
variable {prog : Program} {w : World} {A : Around} {E : Value → Shared → Prop} {s : Shared} {env : Env} {h₀ : Heap} {x : Str} {body : List Stmt} {Q : Flow → Shared → Prop}
theorem off1 {a : Addr} {own l : List (Addr × Obj)} {adr : List Addr} (h : NeAll a l) (hs : ∀ p ∈ own, p ∈ l) (k : OwnOff own adr) : OwnOff own (a :: adr) := by
  have key : ∀ {l : List (Addr × Obj)}, NeAll a l → ∀ p ∈ l, p.1 ≠ a := by
    intro l
    induction l with
    | nil => intro _ p hp; cases hp
    | cons q r ih =>
      intro h p hp
      rcases List.mem_cons.mp hp with rfl | hp
      · exact h.1
      · exact ih h.2 p hp
  intro p hp b hb
  rcases List.mem_cons.mp hb with rfl | hb
  · exact key h p (hs p hp)
  · exact k p hp b hb
theorem off_drop {own : List (Addr × Obj)} {adr : List Addr} (k : Nat) (h : OwnOff own adr) : OwnOff own (adr.drop k) := fun p hp b hb => h p hp b (List.mem_of_mem_drop hb)
theorem off_sub {own : List (Addr × Obj)} {adr adr' : List Addr} (k : OwnOff own adr) (hs : ∀ b ∈ adr', b ∈ adr) : OwnOff own adr' := fun p hp b hb => k p hp b (hs b hb)
/-- a loop's state: the ledger, the names it keeps, what holds -/
def RlSt {σ : Type} (Led : σ → List (Addr × Obj)) (ps : σ → List (Str × Value)) (Facts : σ → Prop) (x : Str) (stored : List Str) (m₀ : Str → Option Value) (P : Nat → σ → Prop) (i : Nat) (m : Str → Option Value) (nx : List (Addr × Obj)) : Prop :=
  ∃ c : σ, nx = Led c ∧ Facts c ∧ (∀ p ∈ ps c, m p.1 = some p.2) ∧ (∀ z, z ≠ x → (∀ p ∈ ps c, z ≠ p.1) → stored.contains z = false → m z = m₀ z) ∧ P i c
def RlEnd {σ : Type} (h₀ : Heap) (L : Addr) (Led : σ → List (Addr × Obj)) (ps : σ → List (Str × Value)) (Facts : σ → Prop) (x : Str) (stored : List Str) (m₀ : Str → Option Value) (P : Nat → σ → Prop) (i : Nat) (own : List (Addr × Obj)) (s s₂ : Shared) : Prop :=
  InvEndG h₀ L (fun m nx => RlSt Led ps Facts x stored m₀ P i m nx) own s s₂
def RlPost {σ : Type} (h₀ : Heap) (L : Addr) (Led : σ → List (Addr × Obj)) (ps : σ → List (Str × Value)) (Facts : σ → Prop) (x : Str) (stored : List Str) (m₀ : Str → Option Value) (P : Nat → σ → Prop) (i : Nat) (own : List (Addr × Obj)) (s : Shared) (Q : Flow → Shared → Prop) (f : Flow) (s₂ : Shared) : Prop :=
  match f with
  | .ret v => Q (.ret v) s₂
  | .brk => Q .next s₂
  | _ => RlEnd h₀ L Led ps Facts x stored m₀ P i own s s₂
theorem rl_end {σ : Type} {Led : σ → List (Addr × Obj)} {ps : σ → List (Str × Value)} {Facts : σ → Prop} {stored : List Str} {m₀ : Str → Option Value} {P : Nat → σ → Prop} {i : Nat} (c : σ) {L : Addr} {m' : Str → Option Value} {own news' : List (Addr × Obj)} {s₁ : Shared} {h' : Heap} {tk : Nat}
    (F : Fr h₀ L h' m') (N : News h₀ L h' news') (hn : ∀ p ∈ Led c, p ∈ news') (ho : ∀ p ∈ own, p ∈ news') (hoff : OwnOff own ((Led c).map (·.1))) (hf : Facts c) (hk : ∀ p ∈ ps c, m' p.1 = some p.2)
    (hr : ∀ z, z ≠ x → (∀ p ∈ ps c, z ≠ p.1) → stored.contains z = false → m' z = m₀ z) (hp : P i c) : RlEnd h₀ L Led ps Facts x stored m₀ P i own s₁ { s₁ with heap := h', toks := tk } :=
  InvEndG.intro F N ⟨c, rfl, hf, hk, hr, hp⟩ hoff hn ho
theorem range_loop {σ : Type} {r : Addr} {b₀ : Int} {t₀ u₀ v₀ : Tok} {n : Nat} {m₀ : Str → Option Value} {news : List (Addr × Obj)} (Led : σ → List (Addr × Obj)) (ps : σ → List (Str × Value)) (Facts : σ → Prop) (stored : List Str) (P : Nat → σ → Prop) (c₀ : σ)
    (hh : A.handled = none) (hr : IsRange s.heap r 0 b₀ 1 t₀ u₀ v₀) (hsmall : Builtin.Range.small 0 b₀ 1 = true) (hsz : Builtin.Range.rangeSize 0 b₀ 1 = (n : Int)) (F : Fr h₀ env.locals s.heap m₀) (N : News h₀ env.locals s.heap news) (hn : ∀ p ∈ Led c₀, p ∈ news) (hf : Facts c₀) (hk : ∀ p ∈ ps c₀, m₀ p.1 = some p.2) (hp : P 0 c₀)
    (turn : ∀ (c : σ) (i : Nat) t (u : Str → Option Value) h tk own, i < n → OwnOff own ((Led c).map (·.1)) → Facts c → P i c →
      Fr h₀ env.locals h (fun y => if y = x then some (.int (i : Int) t) else kstB (fun z => if stored.contains z then u z else m₀ z) (ps c) y) → News h₀ env.locals h (Led c ++ own) →
      ∀ R : Flow → Shared → Prop, (∀ v s₂, Q (.ret v) s₂ → R (.ret v) s₂) → (∀ s₂, Q .next s₂ → R .brk s₂) → (∀ s₂, RlEnd h₀ env.locals Led ps Facts x stored m₀ P (i + 1) own { s with heap := h, toks := tk } s₂ → R .next s₂) →
      wpAny (model prog w) A (execs body env) R E { s with heap := h, toks := tk })
    (done : ∀ (c : σ) (u : Str → Option Value) h tk, Facts c → P n c → Fr h₀ env.locals h (fun y => if y = x then u y else kstB (fun z => if stored.contains z then u z else m₀ z) (ps c) y) → News h₀ env.locals h (Led c) → Q .next { s with heap := h, toks := tk }) :
    wpAny (model prog w) A (pyIter (.ref r)) (fun it s₂ => LoopAtV prog w A h₀ env x body Q E it s₂) E s := by
  refine wpAny_pyIter_range hr hsmall ?_
  have W : Walks prog w A s.heap.objs.size [s.heap.objs.size] [s.heap.objs.size] n (fun i v => i < n ∧ ∃ t, v = .int (0 + i * 1) t)
      (fun i h => IsRangeIter h s.heap.objs.size (0 + (i : Nat) * 1) ((n : Int) - (i : Nat)) 1) := (Walks.range hh _ 0 1 n).bound
  refine kdr_loop (fun i m nx => RlSt Led ps Facts x stored m₀ P i m nx) W (fun _ h => h) (fun _ h => h) ?_ ?_ ?_ ?_ (by show IsRangeIter _ _ _ _ _; rw [hsz]; simpa using Heap.get?_push_size _ rfl) (F.push _) (fun p hp => ⟨Heap.get?_push_of_some _ (N p (hn p hp)).1, (N p (hn p hp)).2⟩) ⟨c₀, rfl, hf, hk, fun _ _ _ _ => rfl, hp⟩ ?_ ?_
  · intro i h hi b hb
    rw [List.mem_singleton.mp hb]
    exact ⟨_, hi⟩
  · intro hm
    exact absurd F.ns.lt ((List.mem_singleton.mp hm) ▸ Nat.lt_irrefl _)
  · intro b hb
    rw [List.mem_singleton.mp hb]
    exact next_is_new F
  · intro p hp hI
    exact absurd (Heap.lt_size (N p (hn p hp)).1) ((List.mem_singleton.mp hI) ▸ Nat.lt_irrefl _)
  · rintro i v m₁ nx h tk own hi ⟨_, t, rfl⟩ hoff ⟨c, rfl, hf', h1, h2, hp'⟩ F₁ N₁
    have e1 : (0 : Int) + (i : Int) * 1 = (i : Int) := by omega
    rw [e1] at F₁
    refine wpAny_mono (turn c i t m₁ h tk own hi hoff hf' hp' (kst_fr h1 h2 F₁) N₁ (RlPost h₀ env.locals Led ps Facts x stored m₀ P (i + 1) own { s with heap := h, toks := tk } Q) (fun _ _ q => q) (fun _ q => q) (fun _ q => q)) (fun f s₂ p => ?_) fun _ _ e => e
    cases f with
    | ret v => exact p
    | brk => exact p
    | next => exact p
    | cont => exact p
  · rintro m₁ nx h tk ⟨c, rfl, hf', h1, h2, hp'⟩ F₁ N₁
    exact done c m₁ h tk hf' hp' (kst_frOut h1 h2 F₁) N₁
end
end Mine
local macro_rules | `(tactic| walk_at "compareOp Eq ref ref") => `(tactic| (k_here; (with_reducible show wpAny _ _ (compareOp CmpOp.Eq (Value.ref _) (Value.ref _)) _ _ _); k_dflt (refine' sg_eq ?k1 ?k2 ?k3 ?k4 ?k5 ?_; (case k1 => walk_at "M pre"); (case k2 => walk_at "M pre"); (case k3 => assumption); (case k4 => assumption); (case k5 => ktr_units))))
local macro_rules | `(tactic| walk_at "compareOp NotEq ref ref") => `(tactic| (k_here; (with_reducible show wpAny _ _ (compareOp CmpOp.NotEq (Value.ref _) (Value.ref _)) _ _ _); k_dflt (refine' sg_ne ?k1 ?k2 ?k3 ?k4 ?k5 ?kE ?_; (case k1 => walk_at "M pre"); (case k2 => walk_at "M pre"); (case k3 => assumption); (case k4 => assumption); (case k5 => ktr_units); (case kE => first | exact rfl | assumption))))
local macro_rules | `(tactic| walk_at "RlPost") => `(tactic| (dsimp only [RlPost]))
namespace Mine
theorem bx {x y : Int} (hx : 0 ≤ x) (hy : 0 ≤ y) : Builtin.bitXor x y = ((x.toNat ^^^ y.toNat : Nat) : Int) := by
  have key : ∀ n : Nat, ∀ x y : Int, 0 ≤ x → 0 ≤ y → x.toNat + y.toNat ≤ n → Builtin.bitXor x y = ((x.toNat ^^^ y.toNat : Nat) : Int) := by
    intro n
    induction n with
    | zero =>
      intro x y hx hy h
      have e1 : x = 0 := by omega
      have e2 : y = 0 := by omega
      subst e1 e2
      decide
    | succ n ih =>
      intro x y hx hy h
      by_cases h0 : x.toNat + y.toNat ≤ n
      · exact ih x y hx hy h0
      · have e1 : x.fdiv 2 = x / 2 := Int.fdiv_eq_ediv_of_nonneg _ (by decide)
        have e2 : y.fdiv 2 = y / 2 := Int.fdiv_eq_ediv_of_nonneg _ (by decide)
        have e3 : x.fmod 2 = x % 2 := Int.fmod_eq_emod_of_nonneg _ (by decide)
        have e4 : y.fmod 2 = y % 2 := Int.fmod_eq_emod_of_nonneg _ (by decide)
        rw [xor_half hx hy, e1, e2, e3, e4, ih (x / 2) (y / 2) (by omega) (by omega) (by omega)]
        have h1 : (x / 2).toNat = x.toNat / 2 := by omega
        have h2 : (y / 2).toNat = y.toNat / 2 := by omega
        have h3 : (x.toNat ^^^ y.toNat) / 2 = x.toNat / 2 ^^^ y.toNat / 2 := Nat.xor_div_two
        have h4 := @Nat.xor_mod_two_eq_one x.toNat y.toNat
        rw [h1, h2, ← h3]
        split <;> omega
  exact key _ x y hx hy (Nat.le_refl _)
/-- the step over natural numbers -/
def nx (x t : Nat) : Nat := if x % 2 = 1 then x / 2 ^^^ t else x / 2
theorem next_nat {x t : Int} (hx : 0 ≤ x) (ht : 0 ≤ t) : nextZ x t = (nx x.toNat t.toNat : Nat) := by
  have e1 : x.fdiv 2 = x / 2 := Int.fdiv_eq_ediv_of_nonneg _ (by decide)
  have e3 : x.fmod 2 = x % 2 := Int.fmod_eq_emod_of_nonneg _ (by decide)
  unfold nextZ nx
  rw [e1, e3]
  have h1 : (x / 2).toNat = x.toNat / 2 := by omega
  by_cases h : x % 2 = 1
  · rw [if_pos h, if_pos (by omega), bx (by omega) ht, h1]
  · rw [if_neg h, if_neg (by omega)]
    omega
theorem nx_xor (x y t : Nat) : nx (x ^^^ y) t = nx x t ^^^ nx y t := by
  unfold nx
  have h3 : (x ^^^ y) / 2 = x / 2 ^^^ y / 2 := Nat.xor_div_two
  have h4 := @Nat.xor_mod_two_eq_one x y
  rw [h3]
  by_cases hx : x % 2 = 1 <;> by_cases hy : y % 2 = 1
  · rw [if_neg (by omega), if_pos hx, if_pos hy, Nat.xor_assoc, Nat.xor_comm t, Nat.xor_assoc, Nat.xor_self, Nat.xor_zero]
  · rw [if_pos (by omega), if_pos hx, if_neg hy, Nat.xor_assoc, Nat.xor_assoc, Nat.xor_comm t]
  · rw [if_pos (by omega), if_neg hx, if_pos hy, Nat.xor_assoc]
  · rw [if_neg (by omega), if_neg hx, if_neg hy]
theorem next_xor {x y t : Int} (hx : 0 ≤ x) (hy : 0 ≤ y) (ht : 0 ≤ t) : nextZ (Builtin.bitXor x y) t = Builtin.bitXor (nextZ x t) (nextZ y t) := by
  rw [next_nat (xor_lo hx hy) ht, bx hx hy, next_nat hx ht, next_nat hy ht, bx (by omega) (by omega)]
  simp only [Int.toNat_natCast]
  rw [nx_xor]
theorem xor_hi {x y n : Int} (hx : 0 ≤ x) (hy : 0 ≤ y) (h1 : x < 2 ^ n.toNat) (h2 : y < 2 ^ n.toNat) : Builtin.bitXor x y < 2 ^ n.toNat := by
  rw [bx hx hy]
  have c : ((2 ^ n.toNat : Nat) : Int) = (2 : Int) ^ n.toNat := kbt_cast _
  have : x.toNat ^^^ y.toNat < 2 ^ n.toNat := Nat.xor_lt_two_pow (by omega) (by omega)
  omega
/-- the register behind i steps -/
def orb (t x : Int) : Nat → Int
  | 0 => x
  | i + 1 => nextZ (orb t x i) t
theorem next_lo {x t : Int} (hx : 0 ≤ x) (ht : 0 ≤ t) : 0 ≤ nextZ x t := by rw [next_nat hx ht]; omega
theorem next_hi {x t n : Int} (hx : 0 ≤ x) (ht : 0 ≤ t) (h1 : x < 2 ^ n.toNat) (h2 : t < 2 ^ n.toNat) : nextZ x t < 2 ^ n.toNat := by
  have e1 : x.fdiv 2 = x / 2 := Int.fdiv_eq_ediv_of_nonneg _ (by decide)
  unfold nextZ
  split
  · exact xor_hi (by omega) ht (by omega) h2
  · omega
theorem orb_range {x t n : Int} (hx : 0 ≤ x) (ht : 0 ≤ t) (h1 : x < 2 ^ n.toNat) (h2 : t < 2 ^ n.toNat) : ∀ i, 0 ≤ orb t x i ∧ orb t x i < 2 ^ n.toNat
  | 0 => ⟨hx, h1⟩
  | i + 1 => ⟨next_lo (orb_range hx ht h1 h2 i).1 ht, next_hi (orb_range hx ht h1 h2 i).1 ht (orb_range hx ht h1 h2 i).2 h2⟩
/-- back over natural numbers -/
theorem back_fin : ∀ n : Fin 4, ∀ t : Fin 16, ∀ x : Fin 32, (t : Nat) < 2 ^ (n.val + 1) → (x : Nat) < 2 ^ (n.val + 2) →
    backZ (nextZ ((x : Nat) : Int) ((2 ^ (n.val + 1) + t.val : Nat) : Int)) ((2 ^ (n.val + 1) + t.val : Nat) : Int) ((n.val + 2 : Nat) : Int) = ((x : Nat) : Int) := by decide +kernel
theorem back_cond : ∀ n : Fin 4, ∀ t : Fin 16, ∀ x : Fin 32, (t : Nat) < 2 ^ (n.val + 1) → (x : Nat) < 2 ^ (n.val + 2) →
    ((((x : Nat) : Int).fdiv (2 ^ (((n.val + 2 : Nat) : Int) - 1).toNat)).fmod 2 = 0 → ((x : Nat) : Int) < 16) ∧
    ((((x : Nat) : Int).fdiv (2 ^ (((n.val + 2 : Nat) : Int) - 1).toNat)).fmod 2 ≠ 0 → Builtin.bitXor ((x : Nat) : Int) ((2 ^ (n.val + 1) + t.val : Nat) : Int) < 16) := by decide +kernel
def hits (t x : Int) : Nat → Int → Bool
  | 0, _ => false
  | f + 1, y => nextZ y t == x || hits t x f (nextZ y t)
theorem hits_orb {t x : Int} : ∀ (f i : Nat), hits t x f (orb t x i) = true → ∃ p, i < p ∧ p ≤ i + f ∧ orb t x p = x
  | 0, _, h => by cases h
  | f + 1, i, h => by
    simp only [hits, Bool.or_eq_true, beq_iff_eq] at h
    rcases h with h | h
    · exact ⟨i + 1, by omega, by omega, h⟩
    · obtain ⟨p, h1, h2, h3⟩ := hits_orb f (i + 1) h
      exact ⟨p, by omega, by omega, h3⟩
theorem period_fin : ∀ n : Fin 4, ∀ t : Fin 16, ∀ x : Fin 32, (t : Nat) < 2 ^ (n.val + 1) → (x : Nat) < 2 ^ (n.val + 2) → 0 < (x : Nat) →
    hits ((2 ^ (n.val + 1) + t.val : Nat) : Int) ((x : Nat) : Int) (2 ^ (n.val + 2) - 1) ((x : Nat) : Int) = true := by decide +kernel
theorem byNTX {P : Int → Int → Int → Prop} (h : ∀ n : Fin 4, ∀ t : Fin 16, ∀ x : Fin 32, (t : Nat) < 2 ^ (n.val + 1) → (x : Nat) < 2 ^ (n.val + 2) → P ((n.val + 2 : Nat) : Int) ((2 ^ (n.val + 1) + t.val : Nat) : Int) ((x : Nat) : Int))
    {n t x : Int} (h1 : 2 ≤ n) (h2 : n ≤ 5) (ht : 2 ^ (n - 1).toNat ≤ t) (ht2 : t < 2 ^ n.toNat) (hx : 0 ≤ x) (hx2 : x < 2 ^ n.toNat) : P n t x := by
  obtain ⟨N, rfl⟩ : ∃ N : Nat, n = ((N + 2 : Nat) : Int) := ⟨n.toNat - 2, by omega⟩
  have hN : N < 4 := by omega
  have e1 : (((N + 2 : Nat) : Int) - 1).toNat = N + 1 := by omega
  have e2 : (((N + 2 : Nat) : Int)).toNat = N + 2 := by omega
  rw [e1, ← kbt_cast] at ht
  rw [e2, ← kbt_cast] at ht2 hx2
  have e3 : 2 ^ (N + 2) = 2 * 2 ^ (N + 1) := by rw [Nat.pow_succ]; omega
  have e4 : 2 ^ (N + 1) ≤ 2 ^ 4 := Nat.pow_le_pow_right (by decide) (by omega)
  have r := h ⟨N, hN⟩ ⟨t.toNat - 2 ^ (N + 1), by omega⟩ ⟨x.toNat, by omega⟩ (by show t.toNat - 2 ^ (N + 1) < 2 ^ (N + 1); omega) (by show x.toNat < 2 ^ (N + 2); omega)
  have e5 : ((2 ^ (N + 1) + (t.toNat - 2 ^ (N + 1)) : Nat) : Int) = t := by omega
  have e6 : ((x.toNat : Nat) : Int) = x := by omega
  simp only [e5, e6] at r
  exact r
section
variable {n t x : Int} (h1 : 2 ≤ n) (h2 : n ≤ 5) (ht : 2 ^ (n - 1).toNat ≤ t) (ht2 : t < 2 ^ n.toNat) (hx : 0 ≤ x) (hx2 : x < 2 ^ n.toNat)
include h1 h2 ht ht2 hx hx2
theorem back_next : backZ (nextZ x t) t n = x := byNTX (P := fun n t x => backZ (nextZ x t) t n = x) back_fin h1 h2 ht ht2 hx hx2
theorem back_may : ((x.fdiv (2 ^ (n - 1).toNat)).fmod 2 = 0 → x < 16) ∧ ((x.fdiv (2 ^ (n - 1).toNat)).fmod 2 ≠ 0 → Builtin.bitXor x t < 16) :=
  byNTX (P := fun n t x => ((x.fdiv (2 ^ (n - 1).toNat)).fmod 2 = 0 → x < 16) ∧ ((x.fdiv (2 ^ (n - 1).toNat)).fmod 2 ≠ 0 → Builtin.bitXor x t < 16)) back_cond h1 h2 ht ht2 hx hx2
theorem period (h0 : 0 < x) : ∃ p : Nat, 0 < p ∧ (p : Int) < 2 ^ n.toNat ∧ orb t x p = x := by
  have r := byNTX (P := fun n t x => 0 < x → hits t x (2 ^ n.toNat - 1) x = true) (fun n t x a b c => by
    have e2 : (((n.val + 2 : Nat) : Int)).toNat = n.val + 2 := by omega
    rw [e2]
    exact period_fin n t x a b (by omega)) h1 h2 ht ht2 hx hx2 h0
  obtain ⟨p, p1, p2, p3⟩ := hits_orb _ 0 r
  have hp : 0 < 2 ^ n.toNat := Nat.pow_pos (by decide)
  have c : ((2 ^ n.toNat : Nat) : Int) = (2 : Int) ^ n.toNat := kbt_cast _
  exact ⟨p, p1, by omega, p3⟩
end
end Mine
local macro_rules | `(tactic| walk_at "call ref") => `(tactic| (k_extra "stop call"; with_reducible refine halt ?_))
local macro_rules | `(tactic| walk_at "M sift") => `(tactic| (refine ⟨by assumption, by omega, by omega, by omega, by omega, by omega⟩))
namespace Mine
theorem pow_facts {n : Int} (h1 : 2 ≤ n) (h2 : n ≤ 5) : 2 ≤ (2 : Int) ^ (n - 1).toNat ∧ (2 : Int) ^ (n - 1).toNat ≤ 16 ∧ (2 : Int) ^ n.toNat = 2 * 2 ^ (n - 1).toNat :=
  byK (P := fun n => 2 ≤ (2 : Int) ^ (n - 1).toNat ∧ (2 : Int) ^ (n - 1).toNat ≤ 16 ∧ (2 : Int) ^ n.toNat = 2 * 2 ^ (n - 1).toNat) (by decide +kernel) h1 h2
structure LS2 where
  X : Int
  ax : Addr
  lx : Addr
  vx : List Value
  nx : Nat
  kx : Nat
structure LSt where
  X : Int
  Y : Int
  tX : Nat
  tY : Nat
  ax : Addr
  lx : Addr
  ay : Addr
  ly : Addr
  az : Addr
  lz : Addr
  vx : List Value
  vy : List Value
  vz : List Value
  nx : Nat
  kx : Nat
  ny : Nat
  ky : Nat
  nz : Nat
  kz : Nat
section
variable {w : World} {mean : ExcName → Option Value} {mg mb : Str → Option Value} {la lb a b : Addr} {vs us : List Value} {ns ms : List Int} {n k : Int} {t1 t2 : Tok}
set_option maxHeartbeats 4000000 in
theorem c_law (hi : IntsAre vs ns) (H : ns.length ≤ 63) :
    Ct w mean mg mb 14 239 [.ref la] (fun h => h.IsList la vs.toArray) (fun _ v _ => v = .bool true) := by
  intro dp un fr gd s Q E hdp hu X T hl hret
  try dsimp only at hl hret
  k_with_none
  k_with "stop call" => skip
  walk_at "M enter"
  k_steps
  all_goals (try unfold Halt)
  have hms : ∀ x ∈ List.map (fun k' : Int => if k' < 0 then -k' else k') (List.take 5 ns), 0 ≤ x := by
    intro x hx
    obtain ⟨y, _, rfl⟩ := List.mem_map.mp hx
    split <;> omega
  have hmsl : (List.map (fun k' : Int => if k' < 0 then -k' else k') (List.take 5 ns)).length ≤ 5 := by
    rw [List.length_map, List.length_take]
    omega
  generalize hMS : List.map (fun k' : Int => if k' < 0 then -k' else k') (List.take 5 ns) = MS at *
  k_with_none
  walk_at "call ref"
  rename_i v1 tt1 tc1 nn1 hh1 tk1 hv1 hv1' F1 N1
  k_with "stop call" => skip
  k_steps
  all_goals (try unfold Halt)
  k_with_none
  walk_at "call ref"
  rename_i v2 tt2 tc2 nn2 hh2 tk2 hv2 hv2' F2 N2
  k_with "stop call" => skip
  k_steps
  all_goals (try unfold Halt)
  generalize hkw : 2 + v1 = kw at *
  generalize hn : 2 + v2 = nw at *
  have hkw2 : 2 ≤ kw := by omega
  have hkw5 : kw ≤ 5 := by omega
  have hn2 : 2 ≤ nw := by omega
  have hn5 : nw ≤ 5 := by omega
  obtain ⟨hp1, hp2, hp3⟩ := pow_facts hn2 hn5
  obtain ⟨LM, HL⟩ : ∃ LM, LmOk kw LM := ⟨lm kw, lm_ok hkw2 hkw5⟩
  have HLs := HL.base
  k_with_none
  walk_at "call ref"
  rename_i v3 tt3 tc3 nn3 hh3 tk3 hv3 hv3' F3 N3
  k_with "stop call" => skip
  k_steps
  all_goals (try unfold Halt)
  k_with_none
  walk_at "call ref"
  rename_i v4 tt4 tc4 nn4 hh4 tk4 hv4 hv4' F4 N4
  k_with "stop call" => skip
  k_steps
  all_goals (try unfold Halt)
  k_with_none
  walk_at "call ref"
  rename_i v5 tt5 tc5 nn5 hh5 tk5 hv5 hv5' F5 N5
  k_with "stop call" => skip
  k_steps
  all_goals (try unfold Halt)
  generalize htp : 2 ^ (nw - 1).toNat + v3 = tp at *
  generalize hx0 : 1 + v4 = x0 at *
  have ht1 : 0 ≤ tp := by omega
  have ht2 : tp < 32 := by omega
  have hx1 : 0 ≤ x0 := by omega
  have hx2 : x0 < 32 := by omega
  have hy1 : 0 ≤ v5 := by omega
  have hy2 : v5 < 32 := by omega
  have htl : 2 ^ (nw - 1).toNat ≤ tp := by omega
  have htn : tp < 2 ^ nw.toNat := by omega
  have hxn : x0 < 2 ^ nw.toNat := by omega
  have hyn : v5 < 2 ^ nw.toNat := by omega
  have lt1 := HL.lb tp ht1 ht2
  have lx1 := HL.lb x0 hx1 hx2
  have ly1 := HL.lb v5 hy1 hy2
  k_with_none
  walk_at "call ref"
  rename_i aT lT uT nT kT h6 tk6 hiT F6 N6 ne6 ne6'
  k_with "stop call" => skip
  k_steps
  all_goals (try unfold Halt)
  k_with_none
  walk_at "call ref"
  rename_i aX lX uX nX kX h7 tk7 hiX F7 N7 ne7 ne7'
  k_with "stop call" => skip
  k_steps
  all_goals (try unfold Halt)
  k_with_none
  walk_at "call ref"
  rename_i aY lY uY nY kY h8 tk8 hiY F8 N8 ne8 ne8'
  k_with "stop call" => skip
  k_steps
  all_goals (try unfold Halt)
  k_with_none
  walk_at "call ref"
  rename_i aZ lZ uZ nZ kZ h9 tk9 hiZ F9 N9 ne9 ne9'
  k_steps
  all_goals (try unfold Halt)
  (with_reducible rename IsRange _ _ _ _ _ _ _ _ => rg0); (with_reducible rename Fr _ _ _ _ => F0); (with_reducible rename News _ _ _ _ => N0)
  have hsmall : Builtin.Range.small 0 (2 ^ nw.toNat) 1 = true := small_one (by omega) (by omega) (by omega) (by omega)
  have hrs : Builtin.Range.rangeSize 0 (2 ^ nw.toNat) 1 = (((2 ^ nw.toNat : Int) - 0).toNat : Int) := rangeSize_nat _ _
  have hxo0 := HL.xor x0 v5 hx1 hx2 hy1 hy2
  rw [hxo0] at hiZ
  refine range_loop (σ := LSt) (fun c => [(c.ax, tupOf #[.bool false, .ref c.lx] c.kx), (c.lx, listOf (List.toArray c.vx) c.nx), (c.ay, tupOf #[.bool false, .ref c.ly] c.ky), (c.ly, listOf (List.toArray c.vy) c.ny), (c.az, tupOf #[.bool false, .ref c.lz] c.kz), (c.lz, listOf (List.toArray c.vz) c.nz),
      (aX, tupOf #[.bool false, .ref lX] kX), (lX, listOf (List.toArray uX) nX), (aT, tupOf #[.bool false, .ref lT] kT), (lT, listOf (List.toArray uT) nT)])
    (fun c => [(Str.ofString "x", .ref c.ax), (Str.ofString "y", .ref c.ay), (Str.ofString "z", .ref c.az), (Str.ofString "number", .int c.X c.tX), (Str.ofString "other", .int c.Y c.tY)])
    (fun c => IntsAre c.vx (LM c.X) ∧ IntsAre c.vy (LM c.Y) ∧ IntsAre c.vz (LM (Builtin.bitXor c.X c.Y)))
    [Str.ofString "later"]
    (fun i c => c.X = orb tp x0 i ∧ c.Y = orb tp v5 i ∧ ∀ j, 1 ≤ j → j ≤ i → orb tp x0 j ≠ x0)
    ⟨x0, v5, tk4, tt5, aX, lX, aY, lY, aZ, lZ, uX, uY, uZ, nX, kX, nY, kY, nZ, kZ⟩ rfl rg0 hsmall hrs F0 N0 (by (try dsimp only); k_allIn) ⟨hiX, hiY, hiZ⟩ (by kst_all) ⟨rfl, rfl, fun j h1 h2 => absurd h2 (by omega)⟩ ?_ ?_
  · intro c i t u h tk own hin hoff hf hp F N R hRr hRb hRn
    obtain ⟨X, Y, tX, tY, ax, lx, ay, ly, az, lz, vx, vy, vz, nx1, kx1, ny1, ky1, nz1, kz1⟩ := c
    dsimp only at hoff hf hp F N ⊢
    obtain ⟨f1, f2, f3⟩ := hf
    obtain ⟨hXi, hYi, hne⟩ := hp
    clear rg0 F0 N0
    simp only [List.cons_append, List.nil_append] at N
    simp only [List.map_cons, List.map_nil] at hoff
    have oX := hXi ▸ orb_range hx1 ht1 hxn htn i
    have oY := hYi ▸ orb_range hy1 ht1 hyn htn i
    have oZ1 := xor_lo oX.1 oY.1
    have oZ2 := xor_hi oX.1 oY.1 oX.2 oY.2
    have X1 := next_lo oX.1 ht1
    have X2 := next_hi oX.1 ht1 oX.2 htn
    have Y1 := next_lo oY.1 ht1
    have Y2 := next_hi oY.1 ht1 oY.2 htn
    have Z1 := next_lo oZ1 ht1
    have Z2 := next_hi oZ1 ht1 oZ2 htn
    have g1 : LM (backZ (nextZ X tp) tp nw) = LM X := congrArg LM (back_next hn2 hn5 htl htn oX.1 oX.2)
    have gz := next_xor oX.1 oY.1 ht1
    have gx := HL.xor _ _ X1 (by omega) Y1 (by omega)
    have g3 : LM (nextZ (Builtin.bitXor X Y) tp) = LM (Builtin.bitXor (nextZ X tp) (nextZ Y tp)) := congrArg LM gz
    have g2 : LM (nextZ (Builtin.bitXor X Y) tp) = sxorZ (LM (nextZ X tp)) (LM (nextZ Y tp)) := g3.trans gx.symm
    have g4 : (List.map ones (sxorZ (LM (nextZ X tp)) (LM (nextZ Y tp)))).sum = (List.map ones (LM (nextZ (Builtin.bitXor X Y) tp))).sum := by rw [g2]
    obtain ⟨m1, m2⟩ := back_may hn2 hn5 htl htn X1 X2
    have l1 := (HL.lb _ X1 (by omega)).2
    have l2 := (HL.lb _ Y1 (by omega)).2
    have l3 := (HL.lb _ Z1 (by omega)).2
    have l4 := (HL.lb _ oX.1 (by omega)).2
    have l5 := (HL.lb _ oY.1 (by omega)).2
    have l6 := (HL.lb _ oZ1 (by omega)).2
    obtain ⟨oX1, oX2⟩ := oX
    obtain ⟨oY1, oY2⟩ := oY
    k_steps
    all_goals (try unfold Halt)
    · exfalso; first | exact absurd g4 (by assumption) | contradiction
    · dsimp only
      refine hRb _ ?_
      k_steps
      all_goals (try unfold Halt)
      any_goals (exfalso; omega)
      (with_reducible rename IsRange _ _ _ _ _ _ _ _ => rg1); (with_reducible rename Fr _ _ _ _ => Fa); (with_reducible rename News _ _ _ _ => Na)
      have hsm2 : Builtin.Range.small 0 ((i : Int) + 1) 1 = true := small_one (by omega) (by omega) (by omega) (by omega)
      have hrs2 : Builtin.Range.rangeSize 0 ((i : Int) + 1) 1 = ((i + 1 : Nat) : Int) := by
        rw [rangeSize_nat]
        omega
      have hX0 : nextZ X tp = x0 := HL.inj _ _ X1 (by omega) hx1 hx2 (by with_reducible assumption)
      refine' range_loop (σ := LS2) (fun c => [(c.ax, tupOf #[.bool false, .ref c.lx] c.kx), (c.lx, listOf (List.toArray c.vx) c.nx), (aX, tupOf #[.bool false, .ref lX] kX), (lX, listOf (List.toArray uX) nX), (aT, tupOf #[.bool false, .ref lT] kT), (lT, listOf (List.toArray uT) nT)])
        (fun c => [(Str.ofString "x", .ref c.ax)])
        (fun c => IntsAre c.vx (LM c.X))
        []
        (fun j c => c.X = orb tp x0 (i + 1 - j))
        ⟨nextZ X tp, _, _, _, _, _⟩ rfl rg1 hsm2 hrs2 Fa Na ?hn ?hf ?hk ?hp ?turn ?done
      case hk => kst_all
      case hn => (try dsimp only); k_allIn
      case hf => (try dsimp only); assumption
      case hp =>
        show nextZ X tp = nextZ (orb tp x0 i) tp
        rw [hXi]
      case turn =>
        intro c j t u h tk own hin hoff hf hp F N R' hRr' _ hRn'
        obtain ⟨W, ax2, lx2, vx2, nx2, kx2⟩ := c
        dsimp only at hoff hf hp F N ⊢
        clear rg1 Fa Na
        simp only [List.cons_append, List.nil_append] at N
        simp only [List.map_cons, List.map_nil] at hoff
        have ej : i + 1 - j = (i - j) + 1 := by omega
        rw [ej] at hp
        have oV := orb_range hx1 ht1 hxn htn (i - j)
        have hW : W = nextZ (orb tp x0 (i - j)) tp := hp
        have W1 := next_lo oV.1 ht1
        have W2 := next_hi oV.1 ht1 oV.2 htn
        rw [← hW] at W1 W2
        have gb := back_next hn2 hn5 htl htn oV.1 oV.2
        rw [← hW] at gb
        obtain ⟨m3, m4⟩ := back_may hn2 hn5 htl htn W1 W2
        have gc : LM (backZ W tp nw) = LM x0 ↔ (j : Int) = (i : Int) + 1 - 1 := by
          rw [gb]
          constructor
          · intro e
            have e' := HL.inj _ _ oV.1 (by omega) hx1 hx2 e
            by_cases hji : j = i
            · omega
            · exact absurd e' (hne _ (by omega) (by omega))
          · intro e
            have e' : i - j = 0 := by omega
            rw [e']
            rfl
        have gd : (decide (LM (backZ W tp nw) = LM x0) != ((j : Int) == (i : Int) + 1 - 1)) = false := by
          by_cases hc : (j : Int) = (i : Int) + 1 - 1
          · have hc' := gc.mpr hc
            rw [decide_eq_true hc', hc]
            simp
          · have hc' : ¬ LM (backZ W tp nw) = LM x0 := fun e => hc (gc.mp e)
            rw [decide_eq_false hc']
            simpa using hc
        k_steps
        all_goals (try unfold Halt)
        · refine' hRn' _ (rl_end ⟨orb tp x0 (i - j), _, _, _, _, _⟩ ?F ?N ?hn ?ho ?hoff ?hf ?hk ?hr ?hp)
          case F => assumption
          case N => assumption
          case hk => kst_all
          case hn => (try dsimp only); k_allIn
          case ho => intro p hp; k_ownIn
          case hoff =>
            (try dsimp only [List.map_cons, List.map_nil])
            exact off1 (by assumption) (by intro p hp; k_ownIn) (off1 (by assumption) (by intro p hp; k_ownIn) (off_drop 2 hoff))
          case hf => (try dsimp only); rw [← gb]; assumption
          case hr =>
            intro z h1 h2 h3
            simp only [List.forall_mem_cons, List.not_mem_nil, false_implies, implies_true, and_true, ne_eq] at h2
            simp [kstB, h1, h2]
          case hp =>
            show orb tp x0 (i - j) = orb tp x0 (i + 1 - (j + 1))
            have e5 : i + 1 - (j + 1) = i - j := by omega
            rw [e5]
      case done =>
        intro c u h tk hf hp F N
        k_steps
        all_goals dsimp only
        exact hret _ _ _ (Fr.keep (by assumption)) rfl
    · refine' hRn _ (rl_end ⟨nextZ X tp, nextZ Y tp, _, _, _, _, _, _, _, _, _, _, _, _, _, _, _, _, _⟩ ?F ?N ?hn ?ho ?hoff ?hf ?hk ?hr ?hp)
      case F => assumption
      case N => assumption
      case hk => kst_all
      case hn => (try dsimp only); k_allIn
      case ho => intro p hp; k_ownIn
      case hoff =>
        (try dsimp only [List.map_cons, List.map_nil])
        exact off1 (by assumption) (by intro p hp; k_ownIn) (off1 (by assumption) (by intro p hp; k_ownIn) (off1 (by assumption) (by intro p hp; k_ownIn) (off1 (by assumption) (by intro p hp; k_ownIn) (off1 (by assumption) (by intro p hp; k_ownIn) (off1 (by assumption) (by intro p hp; k_ownIn)
          (off_drop 6 hoff))))))
      case hf => exact ⟨by assumption, by assumption, by rw [← g3]; assumption⟩
      case hr =>
        intro z h1 h2 h3
        simp only [List.forall_mem_cons, List.not_mem_nil, false_implies, implies_true, and_true, ne_eq] at h2
        simp only [List.contains_cons, List.contains_nil, Bool.or_false, beq_eq_false_iff_ne, ne_eq] at h3
        simp [kstB, h1, h2, h3]
      case hp =>
        refine ⟨?_, ?_, fun j a b => ?_⟩
        · show nextZ X tp = nextZ (orb tp x0 i) tp
          rw [hXi]
        · show nextZ Y tp = nextZ (orb tp v5 i) tp
          rw [hYi]
        · by_cases hj : j = i + 1
          · subst hj
            intro e
            have e' : nextZ X tp = x0 := by rw [hXi]; exact e
            exact absurd (congrArg LM e') (by assumption)
          · exact hne j a (by omega)
  · intro c u h tk hf hp F N
    exfalso
    obtain ⟨p, p1, p2, p3⟩ := period hn2 hn5 htl htn hx1 hxn (by omega)
    exact hp.2.2 p p1 (by omega) p3
end
end Mine
set_option maxHeartbeats 4000000 in
theorem PySem.Challenge.cw_tk0045_01_holds : PySem.Challenge.rw_tk0045_01.Holds := by
  refine Mine.hd ?_
  k_fill
  intro w s₀ s₁ mg mb G Y fa o pm cd doc dV kV ho hd' hcd hD hmg hg args vals as hpre hlay hrd hwl hlo
  have KX := kIn_of Y
  have X := (Ground.X G).1
  have V := (Ground.X G).2
  refine Ground.open G ?_
  intro T B D TE TW
  clear ho hd' hcd hD
  have h1 := mg_of KX T.g (n := Str.ofString "law") (v := .ref 239) (by k_is)
  have h2 := Option.some.inj (hmg.symm.trans h1)
  have h3 : fa = 239 := by injection h2
  clear hmg h1 h2
  subst h3
  wrow_args hpre hlay hrd hwl hlo
  refine Mine.c_law (by assumption) (by omega) _ _ _ _ _ _ _ (by decide) (by decide) KX T (by assumption) ?_
  intro v h' tk' hgr hv
  subst hv
  refine GoodW.toG ⟨.inl ⟨.bool true, .bool true, [], rfl, raisesW_false allW_false_nil, .bool true, ?_, unshared_nil⟩, hgr, rfl, hg⟩
  exact postW_of rfl (w_eq_bool (w_res rfl) w_lit) rfl
