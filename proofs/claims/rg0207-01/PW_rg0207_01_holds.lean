import PyProof.Rows.All
import Wide.All
import OpenK.AllK
import Wide.FinOn
import PyProof.Rows.WhileInv
import Lean
import PySem.Challenge.RW_rg0207_01
open PySem PySem.W PyProof.Rows
set_option linter.unusedSimpArgs false
set_option linter.unusedVariables false
set_option Elab.async false
set_option maxRecDepth 100000
set_option maxHeartbeats 8000000
section
namespace Mine
noncomputable abbrev rr : RowW := OpenRow.toRowW (OpenLaw.row PySem.Challenge.rw_rg0207_01)
noncomputable abbrev pr : Program := RowW.prog rr
noncomputable abbrev vw : Program := view pr [1, 2, 4, 5, 6, 7, 8, 9, 10, 11, 12, 13, 14, 15, 16, 17, 19, 20, 21, 22, 24, 25, 26, 28, 29, 30, 31, 32, 33, 34, 35, 36, 37]
noncomputable abbrev lo : List Str := [Str.ofString "SIMPLE", Str.ofString "shrink"]
noncomputable abbrev topAt (w : World) (os : OsState) : Option Shared := topRun treeTable pr w (boot_heap w.params).objs.size ((boot_heap w.params).nsMap mainGlobals "__annotations__") 3574 ⟨boot_heap w.params, Array.mk [], boot_drawn, boot_toks, os⟩ (topStub pr)
theorem left_of {q : Program} {loose : List Str} {Xt : Shared → Bool} {α : Type} {Yf : Shared → α} {Ya : World → α}
   (boot : ∀ w : World, (fencedOpening treeTable pr w 3574).map (fun s => (s.heap, s.gens, s.drawn, s.toks)) = some (boot_heap w.params, Array.mk [], boot_drawn, boot_toks))
   (hi : ∀ w : World, (boot_heap w.params).isNs mainGlobals = true)
   (h1 : ∀ w os, (topAt w os).map Yf = some (Ya w))
   (h2 : ∀ w os, (topAt w os).map (fun s₁ => staticsOk (importedModules pr.main.body) (boot_heap w.params) s₁.heap && namesBound pr s₁.heap && gensDone s₁ && laidKept (boot_heap w.params) s₁.heap) = some true)
   (h3 : ∀ w os, (topAt w os).map (fun s => openSeen q loose (importedModules pr.main.body) Xt true s) = some (openGood q loose)) : LeftO pr q loose Xt Yf Ya 3574 := by
  intro w
  obtain ⟨⟨hp, gn, dr, tk, os⟩, a, b⟩ := Option.map_eq_some_iff.mp (boot w)
  simp only [Prod.mk.injEq] at b
  obtain ⟨rfl, rfl, rfl, rfl⟩ := b
  obtain ⟨s₁, e, b1⟩ := Option.map_eq_some_iff.mp (h1 w os)
  have b2 := h2 w os
  have b3 := h3 w os
  rw [e] at b2 b3
  have b2' := Option.some.inj b2
  have b3' := Option.some.inj b3
  unfold openEnds
  rw [a, Option.bind_some]
  have hz : (({ heap := boot_heap w.params, gens := Array.mk [], drawn := boot_drawn, toks := boot_toks, os := os } : Shared).heap.isNs mainGlobals && ({ heap := boot_heap w.params, gens := Array.mk [], drawn := boot_drawn, toks := boot_toks, os := os } : Shared).gens.size == 0) = true := Bool.and_eq_true_iff.mpr ⟨hi w, rfl⟩
  unfold topFrom
  rw [hz]
  show Option.map _ ((topAt w os).bind _) = _
  rw [e, Option.bind_some]
  have b4 : (match staticsOk (importedModules pr.main.body) (boot_heap w.params) s₁.heap && namesBound pr s₁.heap && gensDone s₁ && laidKept (boot_heap w.params) s₁.heap with | true => some s₁ | false => none) = some s₁ := by rw [show (staticsOk (importedModules pr.main.body) (boot_heap w.params) s₁.heap && namesBound pr s₁.heap && gensDone s₁ && laidKept (boot_heap w.params) s₁.heap) = true from b2']
  exact (congrArg (Option.map fun s => (openSeen q loose (importedModules pr.main.body) Xt true s, Yf s)) b4).trans (congrArg some (Prod.ext b3' b1))
local macro_rules | `(tactic| o_head $H:term) => `(tactic| (refine holds_open (q := Mine.vw) (loose := Mine.lo) (Xt := fun s => xlAt Mine.vw [] s && recOk (RowW.records Mine.rr) s) (XP := XL Mine.vw []) (Yf := Hook.obs $H) (Ya := Hook.val $H) (YP := Hook.says $H) (N := 3574) ?hl (Hook.of $H) (Hook.keeps $H) (fun s e => xl_of s (Bool.and_eq_true_iff.mp e).1) XL.keeps (by rfl) (by rfl) (by rfl) (fun s e => recFacts_of (Bool.and_eq_true_iff.mp e).2) (by rfl) (by first | assumption | decide +kernel) (by decide +kernel) ⟨rfl, rfl, rfl, rfl, rfl, by decide +kernel⟩ ?hw ?hc
                                                            case hl => (refine Mine.left_of (boot_open (p := Mine.pr) (N := 3574) (by kernel_rfl) (by decide +kernel) (fun s => by kernel_rfl)) (fun w => by kernel_rfl) (fun w os => by unfold Mine.topAt; rw [PySem.W.Fast.te14082659384304107361, PySem.W.Fast.te14364793385576792824]; kernel_rfl) (fun w os => by unfold Mine.topAt; rw [PySem.W.Fast.te14082659384304107361, PySem.W.Fast.te14364793385576792824]; kernel_rfl) (fun w os => by unfold Mine.topAt; rw [PySem.W.Fast.te14082659384304107361, PySem.W.Fast.te14364793385576792824, PySem.W.Fast.te4187177175401517315]; kernel_rfl))))
theorem said1 : OpenLaw.wellSaid PySem.Challenge.rw_rg0207_01 = true := by kernel_rfl
local macro_rules | `(tactic| o_law) => `(tactic| refine holds_law Mine.said1 fun said => ?_)
open_top hd for PySem.Challenge.rw_rg0207_01
end Mine
end
section
open PySem PySem.W PySem.Calls PySem.Spec PyProof.Rows
namespace Mine

/-- the ledger of known objects, none of the base's -/
def Led (h₀ h : Heap) (news : List (Addr × Obj)) : Prop := ∀ p ∈ news, h.get? p.1 = some p.2 ∧ h₀.get? p.1 = none

/-- all but W stands -/
def Own (W : List Addr) (h h' : Heap) : Prop := ∀ b o, h.get? b = some o → b ∉ W → h'.get? b = some o

abbrev ctx (dp : Nat) (fr : Option (List Env)) (gd : Option (List Code)) (un : Nat) : Around := { handled := none, depth := dp, frames := fr, guards := gd, units := un }

section
variable {prog : Program} {w : World} {A : Around} {s : Shared} {h₀ : Heap} {news : List (Addr × Obj)} {K : Frag} {p : Program} {loose : List Str} {mean : ExcName → Option Value} {mg mb : Str → Option Value}
  {R : Result → Shared → Prop} {name qual : Str} {params : Arguments} {body : List Stmt} {scope : Scope} {dV kV doc pm cdv ct oc : Value} {an od : Option Addr} {osl : Array (Option Value)} {f : Addr} {args : Args} {binds : List (Str × Value)}

theorem code_in (X : K.In h₀) (T : Top p loose mean mg mb h₀) (st : h₀.StaysIn s.heap) (N : Led h₀ s.heap news)
    (ho : K.lookup f = some ⟨oc, od, .func (fnOf name qual params body scope dV kV doc pm an cdv ct), osl⟩) (hcd : codeIn K cdv qual = true) (hroom : A.depth < recursionLimit)
    (hbind : BindsTo s (fnOf name qual params body scope dV kV doc pm an cdv ct) args binds) (hloc : ∀ y ∈ binds, scope.names.lookup y.1 = some .local)
    (h : ∀ g L h₁, g = hideAll s.heap (news.map (·.1)) → Fr g L h₁ (fun y => binds.reverse.lookup y) → News g L h₁ news → K.In g → Top p loose mean mg mb g → s.heap.objs.size ≤ L → (∀ p ∈ news, p.1 < L) →
      wpAny (model prog w) (A.deeper (envOf qual scope L f cdv)) (execs body (envOf qual scope L f cdv))
        (fun fl s' => R (.ok (.ret (match fl with | .ret v => v | _ => .none))) s') (fun _ _ => False)
        { s with heap := h₁, toks := s.toks + binds.length })
    (hco : scope.isCoroutine = false) (hgen : scope.isGenerator = false) (hk : scope.kind = .function)
    (hcell : ∀ x ∈ scope.names, x.2 ≠ .cell) : codeAny (model prog w) A (.call (.ref f) args) R s := by
  have XX : K.In s.heap := X.keeps st
  have nm : ∀ b o, h₀.get? b = some o → b ∉ news.map (·.1) := fun b o e q => by
    obtain ⟨p, hp, rfl⟩ := List.mem_map.mp q
    rw [(N p hp).2] at e; cases e
  have st' : h₀.StaysIn (hideAll s.heap (news.map (·.1))) := fun b o e => hideAll_get _ (st b o e) (nm b o e)
  refine codeAny_call_def (fd := fnOf name qual params body scope dV kV doc pm an cdv ct) (body := body) (binds := binds) hroom (XX _ _ ho) rfl (T.nolimit.keeps st) (codeRec_of XX hcd) rfl hbind hcell hloc (fun h₁ hns hk₁ => ?_) hco hgen hk
  refine wpAny_mono (h _ s.heap.objs.size h₁ rfl ⟨hns, fun b o e => hk₁ b o (of_hideAll _ e), Nat.le_of_eq (hideAll_size _ _)⟩ (fun p hp => ⟨hk₁ _ _ (N p hp).1, Nat.ne_of_lt (Heap.lt_size (N p hp).1), hideAll_none _ (List.mem_map_of_mem hp)⟩) (X.keeps st') (T.keeps st') (Nat.le_refl _) (fun p hp => Heap.lt_size (N p hp).1)) (fun _ _ x => x) (fun _ _ x => x.elim)
end
end Mine
namespace Mine
section
variable {prog : Program} {w : World} {A : Around} {E : Value → Shared → Prop} {s : Shared} {h₀ : Heap} {L d : Addr} {m : Str → Option Value} {news : List (Addr × Obj)} {gg : Obj → List (Addr × Obj)} {o : Obj}
abbrev sK (prog : Program) (w : World) : KeyKind prog w Str := PySem.strKind prog w
abbrev FlaskO (prog : Program) (w : World) (o : Obj) (c : Addr) (k : Int) (tk : Tok) : Prop := o.IsDictOf (sK prog w) [(Str.ofString "cells", .ref c), (Str.ofString "at", .int k tk)]

theorem my_get {kvs : List (Str × Value)} {x : Str} {t : Tok} {v : Value} {value slice : PySem.Expr} {Q : Value → Shared → Prop} (N : News h₀ L s.heap news) (hm : (d, o) ∈ news) (hd : o.IsDictOf (sK prog w) kvs)
    (hv : valueAt kvs x = some v) (h : Q v { s with toks := s.toks + 1 })
    (hs : subscripted slice false (.ref d) (.str x t) = operate [.ref d, .str x t] (getItem (.ref d) (.str x t)) := by with_unfolding_all rfl) :
    wpAny (model prog w) A (subscriptTail value slice (.ref d) (.str x t)) Q E s :=
  have D : s.heap.DictOf (sK prog w) d kvs := Heap.dictOf_iff.mpr ⟨o, (N _ hm).1, hd⟩
  tail_any D.typeIs slot_dict_getitem.lookup (wpAny_getItem_of (strKind_is prog w x t) D.mapOf hv h) hs

theorem my_set {kvs kvs' : List (Str × Value)} {x : Str} {t : Tok} {v : Value} {Q : Unit → Shared → Prop} (F : Fr h₀ L s.heap m) (N : News h₀ L s.heap news) (U : UpdF d o news gg) (hd : o.IsDictOf (sK prog w) kvs)
    (e : stored kvs x v = kvs') (hz : kvs.length ≤ 100) (h : ∀ h' o', Fr h₀ L h' m → News h₀ L h' (gg o') → o'.IsDictOf (sK prog w) kvs' → Q () { s with heap := h', toks := s.toks + 1 }) :
    wpAny (model prog w) A (setItem (.ref d) (.str x t) v) Q E s := by
  obtain ⟨pre, post, rfl, hg, a, b⟩ := U.split
  have hm := N (d, o) (List.mem_append_right _ (.head _))
  refine wpAny_setItem_pairs (hsz := by rw [sizeLine_eq]; omega) (strKind_is prog w x t) (Heap.dictOf_iff.mpr ⟨o, hm.1, hd⟩) fun h' hmm hs => ?_
  obtain ⟨o', ho', hd'⟩ := Heap.dictOf_iff.mp hmm
  exact h h' o' (F.change hs hm.2.1 hm.2.2) (hg o' ▸ N.setIn a b hs ho') (e ▸ hd')

theorem flask_set {c : Addr} {k k' : Int} {tk tk' t : Tok} {Q : Unit → Shared → Prop} (F : Fr h₀ L s.heap m) (N : News h₀ L s.heap news) (U : UpdF d o news gg) (hd : FlaskO prog w o c k tk)
    (h : ∀ h' o', Fr h₀ L h' m → News h₀ L h' (gg o') → FlaskO prog w o' c k' tk' → Q () { s with heap := h', toks := s.toks + 1 }) :
    wpAny (model prog w) A (setItem (.ref d) (.str (Str.ofString "at") t) (.int k' tk')) Q E s :=
  my_set F N U hd (by simp [stored, show ¬ (Str.ofString "cells" = Str.ofString "at") from by decide]) (by simp) h
end
end Mine

namespace Mine
section
variable {h₀ g h h' : Heap} {L : Addr} {m : Str → Option Value} {news : List (Addr × Obj)} {W : List Addr}
theorem own_of (hg : g = hideAll h W) (F : Fr g L h' m) : Own W h h' := fun b o e n => F.keep b o (by rw [hg]; exact hideAll_get _ e n)
theorem Own.refl : Own W h h := fun _ _ e _ => e
theorem Own.trans {h'' : Heap} (a : Own W h h') (b : Own W h' h'') : Own W h h'' := fun x o e n => b x o (a x o e n) n
theorem Own.more {W' : List Addr} (a : Own W h h') (s : ∀ x ∈ W, x ∈ W') : Own W' h h' := fun x o e n => a x o e fun q => n (s x q)
theorem own_fr (F : Fr g L h m) (x : Own W h h') (hW : ∀ b ∈ W, g.get? b = none ∧ b ≠ L) : Fr g L h' m :=
  ⟨F.ns.at' fun o e => x L o e fun q => (hW L q).2 rfl, fun b o e => x b o (F.keep b o e) fun q => (by rw [(hW b q).1] at e; cases e), F.above⟩
theorem own_news (N : News g L h news) (x : Own W h h') (n : ∀ p ∈ news, p.1 ∉ W) : News g L h' news := fun p hp => ⟨x _ _ (N p hp).1 (n p hp), (N p hp).2⟩
/-- a call that changes nothing -/
theorem own0 (F : Fr g L h m) (N : News g L h news) (x : Own [] h h') : Fr g L h' m ∧ News g L h' news :=
  ⟨own_fr F x (fun _ q => nomatch q), own_news N x fun _ _ q => nomatch q⟩
theorem own1 {a : Addr} {o o' : Obj} {gg : Obj → List (Addr × Obj)} (F : Fr g L h m) (N : News g L h news) (U : UpdF a o news gg) (x : Own [a] h h') (e : h'.get? a = some o') : Fr g L h' m ∧ News g L h' (gg o') := by
  obtain ⟨pre, post, rfl, hg, h1, h2⟩ := U.split
  have hm := N (a, o) (List.mem_append_right _ (.head _))
  refine ⟨own_fr F x (fun b q => by rw [List.mem_singleton.mp q]; exact ⟨hm.2.2, hm.2.1⟩), ?_⟩
  rw [hg]
  intro p hp
  rcases List.mem_append.mp hp with q | q
  · exact ⟨x _ _ (N p (List.mem_append_left _ q)).1 (by simpa using h1 p q), (N p (List.mem_append_left _ q)).2⟩
  · rcases List.mem_cons.mp q with rfl | q
    · exact ⟨e, hm.2⟩
    · exact ⟨x _ _ (N p (List.mem_append_right _ (.tail _ q))).1 (by simpa using h2 p q), (N p (List.mem_append_right _ (.tail _ q))).2⟩
theorem fresh1 {r : Addr} {o : Obj} (F : Fr g L h m) (n : h.get? r = none) (N : News g L h' news) (e : h'.get? r = some o) : News g L h' ((r, o) :: news) := by
  intro p hp
  rcases List.mem_cons.mp hp with rfl | hp
  · refine ⟨e, fun q => ?_, ?_⟩
    · obtain ⟨_, _, _, hL, _⟩ := F.ns
      rw [show r = L from q, hL] at n; cases n
    · cases q : g.get? r with
      | none => rfl
      | some o => rw [F.keep _ _ q] at n; cases n
  · exact N p hp
theorem fresh_ne (N : News g L h news) {r : Addr} (n : h.get? r = none) : ∀ p ∈ news, p.1 ≠ r := fun p hp q => by
  have := (N p hp).1; rw [q, n] at this; cases this
theorem fresh_of {r : Addr} (hg : g = hideAll h W) (n : g.get? r = none) (hW : r ∉ W) : h.get? r = none := by
  cases q : h.get? r with
  | none => rfl
  | some o => rw [hg, hideAll_get _ q hW] at n; cases n
def AllNe (d : Nat) : List (Addr × Obj) → Prop
  | [] => True
  | p :: r => @Ne Nat p.1 d ∧ AllNe d r
theorem allNe_of {d : Addr} : ∀ {l : List (Addr × Obj)}, (∀ p ∈ l, p.1 ≠ d) → AllNe d l
  | [], _ => trivial
  | p :: _, h => ⟨h p (.head _), allNe_of fun q hq => h q (.tail _ hq)⟩
theorem Own.size (x : Own W h h') {b : Addr} {o : Obj} (e : h.get? b = some o) (n : b ∉ W) : b < h'.objs.size := Heap.lt_size (x b o e n)
theorem isList_own {l : Addr} {its : Array Value} (x : Own W h h') (hl : h.IsList l its) (n : l ∉ W) : h'.IsList l its := let ⟨o, e, r⟩ := hl; ⟨o, x l o e n, r⟩
theorem isList_base {l : Addr} {its : Array Value} (hg : g = hideAll h W) (hl : h.IsList l its) (n : l ∉ W) : g.IsList l its := let ⟨o, e, r⟩ := hl; ⟨o, by rw [hg]; exact hideAll_get _ e n, r⟩
/-- one address, two kinds: apart -/
theorem apart {a b : Addr} {o o' : Obj} (e : h.get? a = some o) (e' : h.get? b = some o') (n : o.cls ≠ o'.cls) : a ≠ b := fun q => by
  rw [q, e'] at e; exact n (by rw [Option.some.inj e])
theorem led1 {a : Addr} {o : Obj} (e : h.get? a = some o) (e0 : h₀.get? a = none) (n : Led h₀ h news) : Led h₀ h ((a, o) :: news) := fun p hp => by
  rcases List.mem_cons.mp hp with rfl | hp
  · exact ⟨e, e0⟩
  · exact n p hp
theorem led0 : Led h₀ h [] := fun _ hp => nomatch hp
end
theorem FlaskO.cls {prog : Program} {w : World} {o : Obj} {c : Addr} {k : Int} {tk : Tok} (h : FlaskO prog w o c k tk) : o.cls = .type "dict" := let ⟨_, _, hd, _⟩ := h; hd.1
end Mine

namespace Mine
section
variable {prog : Program} {w : World} {A : Around} {E : Value → Shared → Prop} {s : Shared} {h₀ : Heap} {L d : Addr} {m : Str → Option Value} {news : List (Addr × Obj)}
abbrev tupOf (its : Array Value) (n : Nat) : Obj := { cls := .type "tuple", data := .seq its n }
theorem my_newTuple {vs : List Value} {Q : Value → Shared → Prop} (F : Fr h₀ L s.heap m) (N : News h₀ L s.heap news)
    (h : ∀ l' h', Fr h₀ L h' m → News h₀ L h' ((l', tupOf vs.toArray 0) :: news) → (∀ p ∈ news, p.1 < l') → Q (.ref l') { s with heap := h' }) (hsz : vs.length ≤ sizeLine := by size_fits) :
    wpAny (model prog w) A (newTuple vs) Q E s := newTuple_N F N (fun h' F' N' => h _ h' F' N' fun p hp => Heap.lt_size (N p hp).1) hsz
end
end Mine
namespace Mine
section
variable {prog : Program} {w : World} {A : Around} {s : Shared} {h₀ : Heap} {news : List (Addr × Obj)} {K : Frag} {p : Program} {loose : List Str} {mean : ExcName → Option Value} {mg mb : Str → Option Value}
  {R : Result → Shared → Prop} {name qual : Str} {params : Arguments} {body : List Stmt} {scope : Scope} {dV kV doc pm cdv ct oc : Value} {an od : Option Addr} {osl : Array (Option Value)} {f : Addr} {args : Args} {binds : List (Str × Value)}

theorem code_inC (X : K.In h₀) (T : Top p loose mean mg mb h₀) (st : h₀.StaysIn s.heap) (N : Led h₀ s.heap news)
    (ho : K.lookup f = some ⟨oc, od, .func (fnOf name qual params body scope dV kV doc pm an cdv ct), osl⟩) (hcd : codeIn K cdv qual = true) (hroom : A.depth < recursionLimit)
    (hbind : BindsTo s (fnOf name qual params body scope dV kV doc pm an cdv ct) args binds) (hkind : (binds.all fun y => scope.names.lookup y.1 == some .local || scope.names.lookup y.1 == some .cell) = true)
    (hnd : ((cellsFrom 0 scope.names []).map (·.1)).Nodup)
    (h : ∀ g L h₁ tk cells, g = hideAll s.heap (news.map (·.1)) → Fr g L h₁ (bindL (envOfC qual scope L f cdv).kindOf binds fun _ => none) → News g L h₁ (cells ++ news) →
      CellsAre (bindC (envOfC qual scope L f cdv).kindOf binds fun _ => none) (cellsFrom (L + 1) scope.names []) cells → K.In g → Top p loose mean mg mb g → s.heap.objs.size ≤ L → (∀ p ∈ news, p.1 < L) →
      wpAny (model prog w) (A.deeper (envOfC qual scope L f cdv)) (execs body (envOfC qual scope L f cdv))
        (fun fl s' => R (.ok (.ret (match fl with | .ret v => v | _ => .none))) s') (fun _ _ => False)
        { s with heap := h₁, toks := tk })
    (hco : scope.isCoroutine = false) (hgen : scope.isGenerator = false) (hk : scope.kind = .function) : codeAny (model prog w) A (.call (.ref f) args) R s := by
  have XX : K.In s.heap := X.keeps st
  have nm : ∀ b o, h₀.get? b = some o → b ∉ news.map (·.1) := fun b o e q => by
    obtain ⟨p, hp, rfl⟩ := List.mem_map.mp q
    rw [(N p hp).2] at e; cases e
  have st' : h₀.StaysIn (hideAll s.heap (news.map (·.1))) := fun b o e => hideAll_get _ (st b o e) (nm b o e)
  refine codeAny_call_function hroom (XX _ _ ho) rfl hco hgen rfl (codeRec_of XX hcd) (hbind _ _ _ _ ?_)
  refine wpAny_newFunctionEnv_cells hk (kindsX hkind _) fun env' he s' x => ?_
  subst he
  refine ⟨(T.nolimit.keeps st).keeps x.toInCall.keep, codeAny_func ?_⟩
  obtain ⟨h₁, tk, rfl, _⟩ := x.done
  have hk₁ := x.toInCall.keep
  obtain ⟨cells, NC, Y⟩ := Cl.news (h₀ := s.heap) (Nat.le_refl _) fun n c hm => ⟨x.cell n c (lookup_of_mem_nodup (cellsFrom_names scope.names 0 (s.heap.objs.size + 1) [] [] rfl ▸ hnd) hm), x.above n c hm⟩
  refine wpAny_mono (h _ s.heap.objs.size h₁ tk cells rfl ⟨x.toInCall.ns, fun b o e => hk₁ b o (of_hideAll _ e), Nat.le_of_eq (hideAll_size _ _)⟩ (fun p hp => ?_) Y (X.keeps st') (T.keeps st') (Nat.le_refl _) (fun p hp => Heap.lt_size (N p hp).1)) (fun _ _ x => x) (fun _ _ x => x.elim)
  rcases List.mem_append.mp hp with hp | hp
  · refine ⟨(NC p hp).1, (NC p hp).2.1, ?_⟩
    cases q : (hideAll s.heap (news.map (·.1))).get? p.1 with
    | none => rfl
    | some o => have := of_hideAll _ q; rw [(NC p hp).2.2] at this; cases this
  · exact ⟨hk₁ _ _ (N p hp).1, Nat.ne_of_lt (Heap.lt_size (N p hp).1), hideAll_none _ (List.mem_map_of_mem hp)⟩
end
end Mine
namespace Mine
section
variable {prog : Program} {w : World} {A : Around} {s : Shared} {h₀ : Heap} {news : List (Addr × Obj)} {K : Frag} {p : Program} {loose : List Str} {mean : ExcName → Option Value} {mg mb : Str → Option Value}
  {R : Result → Shared → Prop} {name qual : Str} {params : Arguments} {body : List Stmt} {scope : Scope} {cl : List (Str × Addr)} {dV kV doc pm cdv ct : Value} {an : Option Addr} {fo : Obj} {f : Addr} {args : Args} {binds : List (Str × Value)}
theorem code_inX (X : K.In h₀) (T : Top p loose mean mg mb h₀) (st : h₀.StaysIn s.heap) (N : Led h₀ s.heap news)
    (ho : s.heap.get? f = some fo) (hd : fo.data = .func (fnX name qual params body scope cl dV kV doc pm an cdv ct)) (hcd : s.heap.CodeRec cdv qual) (hroom : A.depth < recursionLimit)
    (hbind : BindsTo s (fnX name qual params body scope cl dV kV doc pm an cdv ct) args binds) (hloc : ∀ y ∈ binds, scope.names.lookup y.1 = some .local)
    (h : ∀ g L h₁, g = hideAll s.heap (news.map (·.1)) → Fr g L h₁ (fun y => binds.reverse.lookup y) → News g L h₁ news → K.In g → Top p loose mean mg mb g → s.heap.objs.size ≤ L → (∀ p ∈ news, p.1 < L) →
      wpAny (model prog w) (A.deeper (envX qual scope L f cdv cl)) (execs body (envX qual scope L f cdv cl))
        (fun fl s' => R (.ok (.ret (match fl with | .ret v => v | _ => .none))) s') (fun _ _ => False)
        { s with heap := h₁, toks := s.toks + binds.length })
    (hco : scope.isCoroutine = false) (hgen : scope.isGenerator = false) (hk : scope.kind = .function)
    (hcell : ∀ x ∈ scope.names, x.2 ≠ .cell) : codeAny (model prog w) A (.call (.ref f) args) R s := by
  have nm : ∀ b o, h₀.get? b = some o → b ∉ news.map (·.1) := fun b o e q => by
    obtain ⟨p, hp, rfl⟩ := List.mem_map.mp q
    rw [(N p hp).2] at e; cases e
  have st' : h₀.StaysIn (hideAll s.heap (news.map (·.1))) := fun b o e => hideAll_get _ (st b o e) (nm b o e)
  refine codeAny_call_def (fd := fnX name qual params body scope cl dV kV doc pm an cdv ct) (body := body) (binds := binds) hroom ho hd (T.nolimit.keeps st) hcd rfl hbind hcell hloc (fun h₁ hns hk₁ => ?_) hco hgen hk
  refine wpAny_mono (h _ s.heap.objs.size h₁ rfl ⟨hns, fun b o e => hk₁ b o (of_hideAll _ e), Nat.le_of_eq (hideAll_size _ _)⟩ (fun p hp => ⟨hk₁ _ _ (N p hp).1, Nat.ne_of_lt (Heap.lt_size (N p hp).1), hideAll_none _ (List.mem_map_of_mem hp)⟩) (X.keeps st') (T.keeps st') (Nat.le_refl _) (fun p hp => Heap.lt_size (N p hp).1)) (fun _ _ x => x) (fun _ _ x => x.elim)
end
theorem own_less {h h' : Heap} {a : Addr} {W : List Addr} (x : Own (a :: W) h h') (k : ∀ o, h.get? a = some o → h'.get? a = some o) : Own W h h' := fun b o e n => by
  by_cases q : b = a
  · subst q; exact k o e
  · exact x b o e fun m => (List.mem_cons.mp m).elim q n
end Mine
namespace Mine
section
variable {M : Model} {A : Around} {E : Value → Shared → Prop} {s : Shared} {h₀ : Heap} {L a c : Addr} {m : Str → Option Value} {cn : Str} {cs : Scope} {ccd : Value} {cl : List (Str × Addr)} {x : Str} {pos : Pos} {v : Value} {Q : Value → Shared → Prop} {o : Obj}
/-- a free name, its cell in the base -/
theorem name_free (F : Fr h₀ L s.heap m) (hc : cl.lookup x = some c) (ho : h₀.get? c = some o) (hd : o.data = .cell (some v)) (h : Q v s)
    (hk : cs.kind = .function := by rfl) (hx : (envX cn cs L a ccd cl).kindOf x = some .free := by rfl) (hb : (x == ("__debug__" : Str)) = false := by decide) (hn : (x == ("__classdict__" : Str)) = false := by decide) :
    wpAny M A (eval (.Name x pos) (envX cn cs L a ccd cl)) Q E s := wpAny_Name (wpAny_loadName_free hk hx hc ⟨o, F.keep _ _ ho, hd⟩ h hn) hb
end
theorem led_ne {h : Heap} {a b : Addr} {o o' : Obj} (e : h.get? a = some o) (e' : h.get? b = some o') (n : o ≠ o') : a ≠ b := fun q => by
  rw [q, e'] at e; exact n (Option.some.inj e).symm
theorem base_get {g h : Heap} {W : List Addr} {a : Addr} {o : Obj} (hg : g = hideAll h W) (e : h.get? a = some o) (n : a ∉ W) : g.get? a = some o := by rw [hg]; exact hideAll_get _ e n
end Mine

namespace Mine
section
variable {prog : Program} {w : World} {A : Around} {E : Value → Shared → Prop} {s : Shared} {h₀ : Heap} {L : Addr} {m : Str → Option Value} {news : List (Addr × Obj)}
theorem my_addL {l b : Addr} {vs ws : List Value} {ns ms : List Int} {Q : Value → Shared → Prop} (F : Fr h₀ L s.heap m) (N : News h₀ L s.heap news) (hl : s.heap.IsList l vs.toArray) (hb : s.heap.IsList b ws.toArray)
    (hi : IntsAre vs ns) (hj : IntsAre ws ms)
    (h : ∀ D h', Fr h₀ L h' m → News h₀ L h' ((D, W.listOf (vs ++ ws).toArray 0) :: news) → (∀ p ∈ news, p.1 < D) → IntsAre (vs ++ ws) (ns ++ ms) → Q (.ref D) { s with heap := h' })
    (hsz : ns.length + ms.length ≤ sizeLine) : wpAny (model prog w) A (binaryOp .Add (.ref l) (.ref b)) Q E s :=
  add_lists_ints (hsz := hsz) F N hl hb hi hj fun h' F' N' hI => h _ h' F' N' (fun p hp => Heap.lt_size (N p hp).1) hI
end
end Mine

namespace Mine
theorem room1 {a b c j a' n : Nat} (h : a + b < n) (e : a' = a + j) (k : Nat.ble (j + c) b = true) : a' + c < n := by
  have := Nat.le_of_ble_eq_true k; omega
theorem room0 {a b c a' n : Nat} (h : a + b < n) (e : a' = a) (k : Nat.ble c b = true) : a' + c < n := by
  have := Nat.le_of_ble_eq_true k; omega
end Mine
end
section
open PySem PySem.W PySem.Calls PySem.Spec PyProof.Rows
namespace Mine
section
variable {prog : Program} {w : World} {A : Around} {E : Value → Shared → Prop} {s : Shared} {h₀ : Heap} {env : Env}

def LoopEnd (h₀ : Heap) (L I : Addr) (oI : Obj) (Jn : (Str → Option Value) → List (Addr × Obj) → Prop) (s₁ : Shared) (Q : Flow → Shared → Prop) (f : Flow) (s₂ : Shared) : Prop :=
  match f with
  | .next | .cont => ∃ h' tk m₂ news₂, s₂ = { s₁ with heap := h', toks := tk } ∧ Fr h₀ L h' m₂ ∧ News h₀ L h' ((I, oI) :: news₂) ∧ (∀ p ∈ news₂, p.1 ≠ I) ∧ Jn m₂ news₂
  | .ret r => Q (.ret r) s₂
  | .brk => False
theorem LoopEnd.next {L I : Addr} {oI : Obj} {Jn : (Str → Option Value) → List (Addr × Obj) → Prop} {s₁ : Shared} {Q : Flow → Shared → Prop} {h' : Heap} {tk : Nat} {m₂ : Str → Option Value} (news₂ : List (Addr × Obj))
    (F : Fr h₀ L h' m₂) (N : News h₀ L h' ((I, oI) :: news₂)) (n : ∀ p ∈ news₂, p.1 ≠ I) (j : Jn m₂ news₂) : LoopEnd h₀ L I oI Jn s₁ Q .next { s₁ with heap := h', toks := tk } := ⟨h', tk, m₂, news₂, rfl, F, N, n, j⟩

theorem my_loop {R : Result → Shared → Prop} {Q : Flow → Shared → Prop} {x : Str} {px : Pos} {body : List Stmt} {I : Addr} {fp : List Addr} {n : Nat} {P : Nat → Value → Prop} {St : Nat → Heap → Prop} {m : Str → Option Value} {news : List (Addr × Obj)}
    (W : Walks prog w A I fp [I] n P St) (hx : env.kindOf x = some .local) (hp : (env.scope.kind == .class || (env.scope.kind == .module && env.locals != env.globals)) = false)
    (hLf : env.locals ∉ fp) (hI : h₀.get? I = none) (hst : St 0 s.heap) (F : Fr h₀ env.locals s.heap m) (N : News h₀ env.locals s.heap news) (nI : ∀ p ∈ news, p.1 ≠ I)
    (J : Nat → (Str → Option Value) → List (Addr × Obj) → Prop) (h0 : J 0 m news)
    (hfp : ∀ b ∈ fp, b ≠ I → (∃ o, h₀.get? b = some o) ∨ ∃ o, ∀ i m₁ n₁, J i m₁ n₁ → (b, o) ∈ n₁) (hIo : ∀ i h, St i h → ∃ o, h.get? I = some o)
    (step : ∀ i v m₁ news₁ h₁ tk₁ oI, i < n → P i v → J i m₁ news₁ → Fr h₀ env.locals h₁ (fun y => if y = x then some v else m₁ y) → News h₀ env.locals h₁ ((I, oI) :: news₁) → (∀ p ∈ news₁, p.1 ≠ I) →
      wpAny (model prog w) A (execs body env) (LoopEnd h₀ env.locals I oI (J (i + 1)) { s with heap := h₁, toks := tk₁ } Q) (fun _ _ => False) { s with heap := h₁, toks := tk₁ })
    (hR : ∀ h' tk m' news', Fr h₀ env.locals h' m' → News h₀ env.locals h' news' → J n m' news' → R (.ok .next) { s with heap := h', toks := tk })
    (hQ : ∀ v s', Q (.ret v) s' → R (.ok (.ret v)) s') :
    codeAny (model prog w) A (.forLoop (.Name x px) (.ref I) body [] env) R s := by
  refine codeAny_forLoop
    (fun k s' => ∃ h' tk m' news' i, s' = { s with heap := h', toks := tk } ∧ St i h' ∧ Fr h₀ env.locals h' m' ∧ News h₀ env.locals h' news' ∧ (∀ p ∈ news', p.1 ≠ I) ∧ J i m' news' ∧ i ≤ n ∧ k = n + 1 - i) ?_ (n + 1)
    ⟨s.heap, s.toks, m, news, 0, rfl, hst, F, N, nI, h0, Nat.zero_le _, rfl⟩
  rintro k s' ⟨h', tk, m', news', i, rfl, hst', F', N', nI', hJ, hi, rfl⟩
  have hIm : I ∈ fp := W.sub I (List.mem_singleton.mpr rfl)
  have hLI : env.locals ≠ I := fun q => hLf (q ▸ hIm)
  have next : ∀ h₁ : Heap, (∀ b o, b ∉ [I] → h'.get? b = some o → h₁.get? b = some o) → Fr h₀ env.locals h₁ m' ∧ News h₀ env.locals h₁ news' := fun h₁ hk₁ =>
    ⟨⟨F'.ns.at' fun o e => hk₁ _ o (by simpa using hLI) e, fun b o e => hk₁ b o (fun q => by rw [List.mem_singleton.mp q, hI] at e; cases e) (F'.keep b o e), F'.above⟩, fun p hp => ⟨hk₁ _ _ (by simpa using nI' p hp) (N' p hp).1, (N' p hp).2⟩⟩
  by_cases hlt : i < n
  · refine W.item i _ _ _ hlt hst' fun v h₁ tk₁ hP hst₁ hk₁ => ?_
    obtain ⟨F₁, N₁⟩ := next h₁ hk₁
    obtain ⟨oI, hoI⟩ := hIo _ _ hst₁
    refine wpAny_assign_Name (wpAny_storeName_local hx F₁.ns (fun h₂ hn₂ hs₂ => ?_) hp)
    have F₂ := F₁.set hn₂ hs₂
    have hoI₂ : h₂.get? I = some oI := (hs₂.2 I (Ne.symm hLI)).trans hoI
    have NI : News h₀ env.locals h₂ ((I, oI) :: news') := fun p hp => by
      rcases List.mem_cons.mp hp with rfl | hp
      · exact ⟨hoI₂, Ne.symm hLI, hI⟩
      · exact N₁.set hs₂ p hp
    refine wpAny_mono (step i v m' news' h₂ _ oI hlt hP hJ F₂ NI nI') (fun f s₃ h₃ => ?_) fun _ _ e => e.elim
    have fin : (∃ h' tk m₂ news₂, s₃ = { s with heap := h', toks := tk } ∧ Fr h₀ env.locals h' m₂ ∧ News h₀ env.locals h' ((I, oI) :: news₂) ∧ (∀ p ∈ news₂, p.1 ≠ I) ∧ J (i + 1) m₂ news₂) →
        ∃ k', k' < n + 1 - i ∧ ∃ h' tk m' news' i, s₃ = { s with heap := h', toks := tk } ∧ St i h' ∧ Fr h₀ env.locals h' m' ∧ News h₀ env.locals h' news' ∧ (∀ p ∈ news', p.1 ≠ I) ∧ J i m' news' ∧ i ≤ n ∧ k' = n + 1 - i := by
      rintro ⟨h₃', tk₃, m₂, news₂, rfl, F₃, N₃, n₃, hJ₃⟩
      refine ⟨n + 1 - (i + 1), by omega, h₃', tk₃, m₂, news₂, i + 1, rfl, ?_, F₃, fun p hp => N₃ p (.tail _ hp), n₃, hJ₃, hlt, rfl⟩
      refine W.frame _ _ _ hst₁ fun b hb o e => ?_
      by_cases q : b = I
      · subst q; rw [hoI] at e; rw [← e]; exact (N₃ _ (.head _)).1
      · rcases hfp b hb q with ⟨o', e'⟩ | ⟨o', e'⟩
        · have := F₁.keep b o' e'; rw [e] at this; rw [this]; exact F₃.keep b o' e'
        · have := (N₁ _ (e' _ _ _ hJ)).1; rw [e] at this; rw [this]; exact (N₃ _ (.tail _ (e' _ _ _ hJ₃))).1
    cases f with
    | next => exact fin h₃
    | cont => exact fin h₃
    | brk => exact h₃.elim
    | ret v => exact hQ _ _ h₃
  · have : i = n := by omega
    subst this
    refine W.done _ _ _ hst' fun h₁ tk₁ hk₁ => ?_
    obtain ⟨F₁, N₁⟩ := next h₁ hk₁
    exact wpAny_execs_nil (hR _ _ _ _ F₁ N₁ hJ)

/-- what is asked at the iterable -/
def MyIter (prog : Program) (w : World) (A : Around) (env : Env) (x : Str) (px : Pos) (body : List Stmt) (Q : Flow → Shared → Prop) (xv : Value) (s₁ : Shared) : Prop :=
  wpAny (model prog w) A (pyIter xv) (fun it s₂ => codeAny (model prog w) A (.forLoop (.Name x px) it body [] env) (fun r s' => match r with | .ok f => Q f s' | .error _ => False) s₂) (fun _ _ => False) s₁
theorem my_For {x : Str} {px pos : Pos} {iter : Expr} {body : List Stmt} {Q : Flow → Shared → Prop}
    (h : wpAny (model prog w) A (eval iter env) (MyIter prog w A env x px body Q) E s)
    (hs : ∀ x, foldedSetIterable iter env x = pure x := by intro _; rfl) : wpAny (model prog w) A (exec (.For (.Name x px) iter body [] pos) env) Q E s :=
  wpAny_For (wpAny_mono h (fun _ _ h₁ => wpAny_mono h₁ (fun _ _ h₂ => codeAny_mono h₂ fun r s' q => by cases r with | ok f => exact q | error e => exact q.elim) fun _ _ e => e.elim) fun _ _ e => e) hs

theorem MyIter.range {x : Str} {px : Pos} {body : List Stmt} {Q : Flow → Shared → Prop} {r : Addr} {a b : Int} {t u v : Tok} {n : Nat} {m : Str → Option Value} {news : List (Addr × Obj)}
    (hh : A.handled = none) (hx : env.kindOf x = some .local) (hp : (env.scope.kind == .class || (env.scope.kind == .module && env.locals != env.globals)) = false)
    (F : Fr h₀ env.locals s.heap m) (N : News h₀ env.locals s.heap news) (hr : IsRange s.heap r a b 1 t u v) (hsm : Builtin.Range.small a b 1 = true) (hn : Builtin.Range.rangeSize a b 1 = ((n : Nat) : Int))
    (J : Nat → (Str → Option Value) → List (Addr × Obj) → Prop) (h0 : J 0 m news)
    (step : ∀ i t m₁ news₁ h₁ tk₁ I oI, i < n → J i m₁ news₁ → Fr h₀ env.locals h₁ (fun y => if y = x then some (.int (a + (i : Int)) t) else m₁ y) → News h₀ env.locals h₁ ((I, oI) :: news₁) → (∀ p ∈ news₁, p.1 ≠ I) → (∀ p ∈ news, p.1 < I) →
      wpAny (model prog w) A (execs body env) (LoopEnd h₀ env.locals I oI (J (i + 1)) { s with heap := h₁, toks := tk₁ } Q) (fun _ _ => False) { s with heap := h₁, toks := tk₁ })
    (hR : ∀ h' tk m' news', Fr h₀ env.locals h' m' → News h₀ env.locals h' news' → J n m' news' → Q .next { s with heap := h', toks := tk }) :
    MyIter prog w A env x px body Q (.ref r) s := by
  refine wpAny_pyIter_range hr hsm ?_
  have up : ∀ z o, s.heap.get? z = some o → (s.heap.push { cls := .type "range_iterator", data := .fields #[rawInt a, rawInt (Builtin.Range.rangeSize a b 1), rawInt 1] }).get? z = some o := fun z o e => Heap.get?_push_of_some _ e
  refine my_loop (LCg.range_walks hh a n) hx hp (fun q => ?_) (next_is_new F) ?_ (F.keeps up) (N.grown up) (fun p hp => Nat.ne_of_lt (Heap.lt_size (N p hp).1)) J h0 (fun b hb n => absurd (List.mem_singleton.mp hb) n) (fun i h st => ⟨_, st⟩)
    (fun i v m₁ news₁ h₁ tk₁ oI hi hP hJ F₁ N₁ n₁ => ?_) hR fun _ _ q => q
  · exact Nat.ne_of_lt F.ns.lt (List.mem_singleton.mp q)
  · show IsRangeIter _ _ _ _ _
    rw [hn]; simpa using Heap.get?_push_size _ rfl
  · obtain ⟨t, rfl⟩ := hP
    exact step i t m₁ news₁ h₁ tk₁ _ oI hi hJ F₁ N₁ n₁ fun p hp => Heap.lt_size (N p hp).1

theorem MyIter.list {x : Str} {px : Pos} {body : List Stmt} {Q : Flow → Shared → Prop} {l : Addr} {its : Array Value} {m : Str → Option Value} {news : List (Addr × Obj)}
    (hh : A.handled = none) (hx : env.kindOf x = some .local) (hp : (env.scope.kind == .class || (env.scope.kind == .module && env.locals != env.globals)) = false)
    (F : Fr h₀ env.locals s.heap m) (N : News h₀ env.locals s.heap news) (hl : s.heap.IsList l its)
    (J : Nat → (Str → Option Value) → List (Addr × Obj) → Prop) (h0 : J 0 m news)
    (hfp : (∃ o, h₀.get? l = some o) ∨ ∃ o, ∀ i m₁ n₁, J i m₁ n₁ → (l, o) ∈ n₁) (hlL : l ≠ env.locals)
    (step : ∀ i v m₁ news₁ h₁ tk₁ I oI, its[i]? = some v → J i m₁ news₁ → Fr h₀ env.locals h₁ (fun y => if y = x then some v else m₁ y) → News h₀ env.locals h₁ ((I, oI) :: news₁) → (∀ p ∈ news₁, p.1 ≠ I) → (∀ p ∈ news, p.1 < I) →
      wpAny (model prog w) A (execs body env) (LoopEnd h₀ env.locals I oI (J (i + 1)) { s with heap := h₁, toks := tk₁ } Q) (fun _ _ => False) { s with heap := h₁, toks := tk₁ })
    (hR : ∀ h' tk m' news', Fr h₀ env.locals h' m' → News h₀ env.locals h' news' → J its.size m' news' → Q .next { s with heap := h', toks := tk }) :
    MyIter prog w A env x px body Q (.ref l) s := by
  have hlt : l < s.heap.objs.size := by obtain ⟨_, e, _⟩ := hl; exact Heap.lt_size e
  refine wpAny_pyIter_list hl ?_
  have up : ∀ b o, s.heap.get? b = some o → (s.heap.push { cls := .type "list_iterator", data := .fields #[.ref l, .int 0 0] }).get? b = some o := fun b o e => Heap.get?_push_of_some _ e
  refine my_loop (Walks.list hh s.heap.objs.size l (Nat.ne_of_lt hlt) its) hx hp (fun q => ?_) (next_is_new F) ⟨⟨_, Heap.get?_push_size _ rfl, rfl, rfl⟩, hl.push _⟩ (F.keeps up) (N.grown up) (fun p hp => Nat.ne_of_lt (Heap.lt_size (N p hp).1)) J h0 (fun b hb n => ?_) (fun i h st => by obtain ⟨o, e, _⟩ := st.1; exact ⟨o, e⟩)
    (fun i v m₁ news₁ h₁ tk₁ oI hi hP hJ F₁ N₁ n₁ => step i v m₁ news₁ h₁ tk₁ _ oI hP hJ F₁ N₁ n₁ fun p hp => Heap.lt_size (N p hp).1) hR fun _ _ q => q
  · rcases List.mem_cons.mp q with q | q
    · exact Nat.ne_of_lt F.ns.lt q
    · exact hlL (List.mem_singleton.mp q).symm
  · rcases List.mem_cons.mp hb with q | q
    · exact absurd q n
    · rw [List.mem_singleton.mp q]; exact hfp

theorem pin {m : Str → Option Value} {x : Str} {v : Value} (h : m x = some v) : m = fun y => if y = x then some v else m y := by
  funext y; by_cases e : y = x
  · rw [if_pos e, e, h]
  · rw [if_neg e]

def MyWhile (prog : Program) (w : World) (A : Around) (env : Env) (test : Expr) (body : List Stmt) (pos : Pos) (Q : Flow → Shared → Prop) (s : Shared) : Prop :=
  wpAny (model prog w) A (exec (.While test body [] pos) env) Q (fun _ _ => False) s
theorem my_While {test : Expr} {body : List Stmt} {pos : Pos} {Q : Flow → Shared → Prop} (h : MyWhile prog w A env test body pos Q s) : wpAny (model prog w) A (exec (.While test body [] pos) env) Q E s :=
  wpAny_mono h (fun _ _ q => q) fun _ _ e => e.elim
theorem MyWhile.inv {L : Addr} {test : Expr} {body : List Stmt} {pos : Pos} {Q : Flow → Shared → Prop} {m : Str → Option Value} {news : List (Addr × Obj)} (J : Nat → (Str → Option Value) → List (Addr × Obj) → Prop) {n₀ : Nat}
    (F : Fr h₀ L s.heap m) (N : News h₀ L s.heap news) (hJ : J n₀ m news)
    (turn : ∀ n m₁ news₁ h₁ tk₁, Fr h₀ L h₁ m₁ → News h₀ L h₁ news₁ → J n m₁ news₁ →
      wpAny (model prog w) A (isTrue test env (eval test env)) (fun b s₂ =>
        if b = true then wpAny (model prog w) A (execs body env) (WhileStep h₀ L s J n) (fun _ _ => False) s₂ else Q .next s₂) (fun _ _ => False) { s with heap := h₁, toks := tk₁ }) :
    MyWhile prog w A env test body pos Q s := While_inv J F N hJ turn PassesOwn.never
end
end Mine
end
section
open PySem PySem.W PySem.Calls PySem.Spec PyProof.Rows
namespace Mine
theorem ints_erase : ∀ {vs : List Value} {ns : List Int}, IntsAre vs ns → ∀ k, IntsAre (vs.eraseIdx k) (ns.eraseIdx k)
  | _, _, .nil, _ => .nil
  | _, _, .cons n t h, 0 => h
  | _, _, .cons n t h, k + 1 => .cons n t (ints_erase h k)
theorem rsize {v : Int} (h : 0 ≤ v) : Builtin.Range.rangeSize 0 v 1 = ((v.toNat : Nat) : Int) := by rw [rangeSize_nat]; simp
theorem rsmall {v : Int} (h : 0 ≤ v) (h' : v < 1000000) : Builtin.Range.small 0 v 1 = true := small_one (by decide) (by decide) (by omega) (by omega)
theorem perm_erase : ∀ (l : List Int) (i : Nat), i < l.length → (l.getD i 0 :: l.eraseIdx i).Perm l
  | [], _, h => absurd h (Nat.not_lt_zero _)
  | x :: l, 0, _ => .refl _
  | x :: l, i + 1, h => (List.Perm.swap _ _ _).trans ((perm_erase l i (Nat.lt_of_succ_lt_succ h)).cons x)
theorem perm_take {l f : List Int} {i : Nat} (h : i < l.length) : (l.eraseIdx i ++ (f ++ [l.getD i 0])).Perm (l ++ f) := by
  have e := perm_erase l i h
  have : (l.eraseIdx i ++ (f ++ [l.getD i 0])).Perm (l.getD i 0 :: (l.eraseIdx i ++ f)) := by
    rw [← List.append_assoc]; exact List.perm_append_comm.trans (.refl _)
  exact this.trans (List.Perm.append_right f e)
theorem ints_snoc {vs : List Value} {ns : List Int} (h : IntsAre vs ns) (n : Int) (t : Tok) : IntsAre (vs ++ [.int n t]) (ns ++ [n]) := IntsAre.append h (.cons n t .nil)
theorem News.cut {h₀ h : Heap} {L : Addr} {a b : List (Addr × Obj)} (N : News h₀ L h b) (s : ∀ p ∈ a, p ∈ b) : News h₀ L h a := fun p hp => N p (s p hp)

section
variable {prog : Program} {w : World} {A : Around} {E : Value → Shared → Prop} {s : Shared} {h₀ h : Heap} {L D : Addr} {m : Str → Option Value} {news pre post : List (Addr × Obj)} {gg : Obj → List (Addr × Obj)} {n : Nat}

theorem my_pop {vs : List Value} {ns : List Int} {i : Int} {u : Tok} {Q : Value → Shared → Prop} (F : Fr h₀ L s.heap m) (N : News h₀ L s.heap news) (U : UpdF D (W.listOf vs.toArray n) news gg) (hi : IntsAre vs ns) (h0 : 0 ≤ i) (h1 : i < ns.length) (hz : ns.length ≤ 1000)
    (h : ∀ h' t, Fr h₀ L h' m → News h₀ L h' (gg (W.listOf (vs.eraseIdx i.toNat).toArray (n + 1))) → Q (.int (ns.getD i.toNat 0) t) { s with heap := h' }) : wpAny (model prog w) A (call (.builtin "list.pop") [.ref D, .int i u]) Q E s := by
  obtain ⟨pre, post, rfl, hg, a, b⟩ := U.split
  have z := N (D, W.listOf vs.toArray n) (List.mem_append.mpr (.inr (.head _)))
  have hl := hi.length
  have hlt : i.toNat < vs.length := by omega
  obtain ⟨t, ht⟩ := hi.int_at i.toNat vs[i.toNat] (by simp [hlt])
  refine call_meets PySem.F.slot_list_pop ⟨_, z.1, rfl⟩ PySem.F.entry_list_pop (PySem.F.args_list_pop_2 _ _) (PySem.MeetsSeq.list_pop_at D _ n i u i.toNat vs[i.toNat] ?_ ?_ ?_ ?_) ⟨z.1, ?_⟩
  · simp only [Builtin.List.listFitsIndex, Bool.and_eq_true, decide_eq_true_eq]; omega
  · have e : ¬ i < 0 := by omega
    simp only [seqIndex?, List.size_toArray, if_neg e]
    rw [if_pos (by simp only [Bool.and_eq_true, decide_eq_true_eq]; omega)]
  · simp [hlt]
  · rw [List.size_toArray, sizeLine_eq]; omega
  · rw [ht]
    refine h _ t (F.change (Heap.SameBut.update ..) z.2.1 z.2.2) ?_
    rw [hg]
    refine kl_turn _ N a b ?_ ?_
    · unfold Array.eraseIdxIfInBounds
      rw [dif_pos (by simpa using hlt)]
      apply Array.toList_inj.mp
      rw [Array.toList_eraseIdx]
    · rw [List.size_toArray, List.size_toArray, List.length_eraseIdx, if_pos hlt]; omega
end
end Mine
end
section
open PySem PySem.W PySem.Calls PySem.Spec PyProof.Rows PyProof.Rows.LCg PyProof.Rows.LCt
namespace Mine
section
variable {prog : Program} {w : World} {A : Around} {s : Shared} {h₀ : Heap} {L : Addr} {m : Str → Option Value} {env : Env} {ct elt : Expr} {x : Str} {scope : Scope} {cl : List (Str × Addr)} {S : List (Addr × Obj) → Prop} {P : Nat → Value → Prop} {Fin : List Value → List (Addr × Obj) → Prop}

theorem CompEnd.mono {s₁ : Shared} {I C D : Addr} {oI oC oD : Obj} {r r' : Value → List (Addr × Obj) → Prop} {y : Value} {s₂ : Shared} (h : CompEnd h₀ L m s₁ I oI C oC D oD S r y s₂) (k : ∀ y n, r y n → r' y n) : CompEnd h₀ L m s₁ I oI C oC D oD S r' y s₂ :=
  let ⟨h', tk, nw, e, F, N, o, hS, hr⟩ := h; ⟨h', tk, nw, e, F, N, o, hS, k _ _ hr⟩

theorem restT_ind {n : Nat} (J : Nat → List Value → List (Addr × Obj) → Prop) (fin : ∀ ys news, J n ys news → Fin ys news)
    (turn : ∀ i ys news v I oI C oC D m₂ h tk (E' : Value → Shared → Prop), i < n → J i ys news → P i v → NsObj oC m₂ → m₂ x = some v → Fr h₀ L h m → News h₀ L h ((I, oI) :: (C, oC) :: (D, lst ys) :: news) → Off3 I C D news → ((@Ne Nat I C) ∧ (@Ne Nat I D) ∧ (@Ne Nat C D)) →
      wpAny (model prog w) A (isTrue ct (compEnvC scope cl C env) (eval ct (compEnvC scope cl C env))) (fun ok s' => if ok = true then
        wpAny (model prog w) A (eval elt (compEnvC scope cl C env)) (CompEnd h₀ L m { s with heap := h, toks := tk } I oI C oC D (lst ys) S (fun y news' => J (i + 1) (ys ++ [y]) news')) E' s'
        else CompEnd h₀ L m { s with heap := h, toks := tk } I oI C oC D (lst ys) S (fun _ news' => J (i + 1) ys news') Value.none s') E' { s with heap := h, toks := tk }) :
    ∀ k i ys news, i + k = n → J i ys news → CompRestT prog w A h₀ L m env ct elt x scope cl s S P Fin k i ys news
  | 0, i, ys, news, e, j => by
    have : i = n := by omega
    subst this; exact fin _ _ j
  | k + 1, i, ys, news, e, j => by
    refine CompRestT.succ fun v I oI C oC D m₂ h tk E' hP hC hx F N off ne => ?_
    refine wpAny_mono (turn i ys news v I oI C oC D m₂ h tk E' (by omega) j hP hC hx F N off ne) (fun ok s' z => ?_) fun _ _ e => e
    cases ok with
    | true =>
      simp only [if_true] at z ⊢
      exact wpAny_mono z (fun y s'' q => CompEnd.mono q fun y n j' => restT_ind J fin turn k (i + 1) _ _ (by omega) j') fun _ _ e => e
    | false =>
      simp only [Bool.false_eq_true, if_false] at z ⊢
      exact CompEnd.mono z fun y n j' => restT_ind J fin turn k (i + 1) _ _ (by omega) j'

theorem restU_ind {n : Nat} (J : Nat → List Value → List (Addr × Obj) → Prop) (fin : ∀ ys news, J n ys news → Fin ys news)
    (turn : ∀ i ys news v I oI C oC D m₂ h tk (E' : Value → Shared → Prop), i < n → J i ys news → P i v → NsObj oC m₂ → m₂ x = some v → Fr h₀ L h m → News h₀ L h ((I, oI) :: (C, oC) :: (D, lst ys) :: news) → Off3 I C D news → ((@Ne Nat I C) ∧ (@Ne Nat I D) ∧ (@Ne Nat C D)) →
      wpAny (model prog w) A (eval elt (compEnvC scope cl C env)) (CompEnd h₀ L m { s with heap := h, toks := tk } I oI C oC D (lst ys) S (fun y news' => J (i + 1) (ys ++ [y]) news')) E' { s with heap := h, toks := tk }) :
    ∀ k i ys news, i + k = n → J i ys news → CompRest prog w A h₀ L m env elt x scope cl s S P Fin k i ys news
  | 0, i, ys, news, e, j => by
    have : i = n := by omega
    subst this; exact fin _ _ j
  | k + 1, i, ys, news, e, j => by
    refine CompRest.succ fun v I oI C oC D m₂ h tk E' hP hC hx F N off ne => ?_
    refine wpAny_mono (turn i ys news v I oI C oC D m₂ h tk E' (by omega) j hP hC hx F N off ne) (fun y s' z => ?_) fun _ _ e => e
    exact CompEnd.mono z fun y n j' => restU_ind J fin turn k (i + 1) _ _ (by omega) j'

/-- a test over ints that makes nothing; the element is the loop's own name -/
theorem filter_rest {px : Pos} {vs : List Value} {ns : List Int} {news : List (Addr × Obj)} (f : Int → Bool) (hi : IntsAre vs ns) (hS : S news)
    (hk : (compEnvC scope cl 0 env).scope.kind = .function) (hl : ∀ C, (compEnvC scope cl C env).kindOf x = some .local) (hd : (x == ("__debug__" : Str)) = false)
    (fin : ∀ ys, IntsAre ys (ns.filter f) → Fin ys news)
    (cond : ∀ (i : Nat) (n : Int) (t : Tok) (ys : List Value) I oI C oC D m₂ h tk (E' : Value → Shared → Prop), ns[i]? = some n → NsObj oC m₂ → m₂ x = some (.int n t) → Fr h₀ L h m → News h₀ L h ((I, oI) :: (C, oC) :: (D, lst ys) :: news) →
      wpAny (model prog w) A (isTrue ct (compEnvC scope cl C env) (eval ct (compEnvC scope cl C env))) (fun ok s' => ok = f n ∧ ∃ tk', s' = { s with heap := h, toks := tk' }) E' { s with heap := h, toks := tk }) :
    CompRestT prog w A h₀ L m env ct (.Name x px) x scope cl s S (fun i v => vs.toArray[i]? = some v) Fin vs.toArray.size 0 [] news := by
  have hlen := hi.length
  refine restT_ind (n := vs.toArray.size) (fun i ys nw => nw = news ∧ IntsAre ys ((ns.take i).filter f)) (fun ys nw j => ?_) (fun i ys nw v I oI C oC D m₂ h tk E' hlt j hP hC hx F N off ne => ?_) _ 0 [] news (by omega) ⟨rfl, by simpa using IntsAre.nil⟩
  · obtain ⟨rfl, j⟩ := j
    rw [List.take_of_length_le (by simp [hlen])] at j
    exact fin _ j
  · obtain ⟨rfl, j⟩ := j
    have hlt' : i < ns.length := by simpa [hlen] using hlt
    obtain ⟨n, t, rfl, hn⟩ := hi.at i v (by simpa using hP)
    have tk1 : (ns.take (i + 1)).filter f = (ns.take i).filter f ++ (if f n then [n] else []) := take_succ_filter f ns i n hn
    refine wpAny_mono (cond i n t ys I oI C oC D m₂ h tk E' hn hC hx F N) (fun ok s' z => ?_) fun _ _ e => e
    obtain ⟨rfl, tk', rfl⟩ := z
    cases q : f n with
    | true =>
      simp only [if_true]
      refine ldVarK (hC.ns (N (C, oC) (by simp)).1) hx ?_ hk (hl C) hd
      refine ⟨h, tk', nw, rfl, F, N, off, hS, rfl, ?_⟩
      rw [tk1, q]; exact ints_snoc j n t
    | false =>
      simp only [Bool.false_eq_true, if_false]
      refine ⟨h, tk', nw, rfl, F, N, off, hS, rfl, ?_⟩
      rw [tk1, q]; simpa using j

theorem filter_in {px : Pos} {vs us : List Value} {ns sm : List Int} {news : List (Addr × Obj)} (_hs : IntsAre us sm) (hi : IntsAre vs ns) (hS : S news)
    (hk : (compEnvC scope cl 0 env).scope.kind = .function) (hl : ∀ C, (compEnvC scope cl C env).kindOf x = some .local) (hd : (x == ("__debug__" : Str)) = false)
    (fin : ∀ ys, IntsAre ys (ns.filter fun x => sm.contains x) → Fin ys news)
    (cond : ∀ (i : Nat) (n : Int) (t : Tok) (ys : List Value) I oI C oC D m₂ h tk (E' : Value → Shared → Prop), ns[i]? = some n → NsObj oC m₂ → m₂ x = some (.int n t) → Fr h₀ L h m → News h₀ L h ((I, oI) :: (C, oC) :: (D, lst ys) :: news) →
      wpAny (model prog w) A (isTrue ct (compEnvC scope cl C env) (eval ct (compEnvC scope cl C env))) (fun ok s' => ok = (sm.any fun x => x == n) ∧ ∃ tk', s' = { s with heap := h, toks := tk' }) E' { s with heap := h, toks := tk }) :
    CompRestT prog w A h₀ L m env ct (.Name x px) x scope cl s S (fun i v => vs.toArray[i]? = some v) Fin vs.toArray.size 0 [] news :=
  filter_rest (fun x => sm.contains x) hi hS hk hl hd fin fun i n t ys I oI C oC D m₂ h tk E' a b c d e => wpAny_mono (cond i n t ys I oI C oC D m₂ h tk E' a b c d e) (fun ok s' ⟨q, r⟩ => ⟨q.trans (by rw [← List.any_beq]; congr 1; funext y; exact Bool.beq_comm), r⟩) fun _ _ e => e
end
end Mine
end
section
open PySem PySem.W PySem.Calls PySem.Spec PyProof.Rows
namespace Mine
theorem allNe_cons (d : Nat) (a : Addr) (o : Obj) (r : List (Addr × Obj)) : AllNe d ((a, o) :: r) = (@Ne Nat a d ∧ AllNe d r) := rfl
theorem allNe_nil (d : Nat) : AllNe d [] = True := rfl
theorem allLt_cons (d : Nat) (a : Addr) (o : Obj) (r : List (Addr × Obj)) : AllLt d ((a, o) :: r) = (@LT.lt Nat _ a d ∧ AllLt d r) := rfl
theorem allLt_nil (d : Nat) : AllLt d [] = True := rfl
end Mine
namespace Mine
theorem gentok {M : Model} {A : Around} {α : Type} {t : Sem α} {Q : α → Shared → Prop} {E : Value → Shared → Prop} {h : Heap} {g : Array GenState} {d : Drawn} {X : Nat} {o : OsState} (H : ∀ tk : Nat, wpAny M A t Q E { heap := h, gens := g, drawn := d, toks := tk, os := o }) : wpAny M A t Q E { heap := h, gens := g, drawn := d, toks := X, os := o } := H X
end Mine
namespace Mine
theorem pj1l {a1 a2 : Prop} (h : a1 ∧ a2) : a1 := h.1
theorem pj1r {a1 a2 : Prop} (h : a1 ∧ a2) : a2 := h.2
theorem pj2l {a1 a2 a3 : Prop} (h : a1 ∧ a2 ∧ a3) : a2 := h.2.1
theorem pj2r {a1 a2 a3 : Prop} (h : a1 ∧ a2 ∧ a3) : a3 := h.2.2
theorem pj3l {a1 a2 a3 a4 : Prop} (h : a1 ∧ a2 ∧ a3 ∧ a4) : a3 := h.2.2.1
theorem pj3r {a1 a2 a3 a4 : Prop} (h : a1 ∧ a2 ∧ a3 ∧ a4) : a4 := h.2.2.2
theorem pj4l {a1 a2 a3 a4 a5 : Prop} (h : a1 ∧ a2 ∧ a3 ∧ a4 ∧ a5) : a4 := h.2.2.2.1
theorem pj4r {a1 a2 a3 a4 a5 : Prop} (h : a1 ∧ a2 ∧ a3 ∧ a4 ∧ a5) : a5 := h.2.2.2.2
theorem pj5l {a1 a2 a3 a4 a5 a6 : Prop} (h : a1 ∧ a2 ∧ a3 ∧ a4 ∧ a5 ∧ a6) : a5 := h.2.2.2.2.1
theorem pj5r {a1 a2 a3 a4 a5 a6 : Prop} (h : a1 ∧ a2 ∧ a3 ∧ a4 ∧ a5 ∧ a6) : a6 := h.2.2.2.2.2
theorem pj6l {a1 a2 a3 a4 a5 a6 a7 : Prop} (h : a1 ∧ a2 ∧ a3 ∧ a4 ∧ a5 ∧ a6 ∧ a7) : a6 := h.2.2.2.2.2.1
theorem pj6r {a1 a2 a3 a4 a5 a6 a7 : Prop} (h : a1 ∧ a2 ∧ a3 ∧ a4 ∧ a5 ∧ a6 ∧ a7) : a7 := h.2.2.2.2.2.2
theorem pj7l {a1 a2 a3 a4 a5 a6 a7 a8 : Prop} (h : a1 ∧ a2 ∧ a3 ∧ a4 ∧ a5 ∧ a6 ∧ a7 ∧ a8) : a7 := h.2.2.2.2.2.2.1
theorem pj7r {a1 a2 a3 a4 a5 a6 a7 a8 : Prop} (h : a1 ∧ a2 ∧ a3 ∧ a4 ∧ a5 ∧ a6 ∧ a7 ∧ a8) : a8 := h.2.2.2.2.2.2.2
theorem pj8l {a1 a2 a3 a4 a5 a6 a7 a8 a9 : Prop} (h : a1 ∧ a2 ∧ a3 ∧ a4 ∧ a5 ∧ a6 ∧ a7 ∧ a8 ∧ a9) : a8 := h.2.2.2.2.2.2.2.1
theorem pj8r {a1 a2 a3 a4 a5 a6 a7 a8 a9 : Prop} (h : a1 ∧ a2 ∧ a3 ∧ a4 ∧ a5 ∧ a6 ∧ a7 ∧ a8 ∧ a9) : a9 := h.2.2.2.2.2.2.2.2
theorem pj9l {a1 a2 a3 a4 a5 a6 a7 a8 a9 a10 : Prop} (h : a1 ∧ a2 ∧ a3 ∧ a4 ∧ a5 ∧ a6 ∧ a7 ∧ a8 ∧ a9 ∧ a10) : a9 := h.2.2.2.2.2.2.2.2.1
theorem pj9r {a1 a2 a3 a4 a5 a6 a7 a8 a9 a10 : Prop} (h : a1 ∧ a2 ∧ a3 ∧ a4 ∧ a5 ∧ a6 ∧ a7 ∧ a8 ∧ a9 ∧ a10) : a10 := h.2.2.2.2.2.2.2.2.2
theorem pj10l {a1 a2 a3 a4 a5 a6 a7 a8 a9 a10 a11 : Prop} (h : a1 ∧ a2 ∧ a3 ∧ a4 ∧ a5 ∧ a6 ∧ a7 ∧ a8 ∧ a9 ∧ a10 ∧ a11) : a10 := h.2.2.2.2.2.2.2.2.2.1
theorem pj10r {a1 a2 a3 a4 a5 a6 a7 a8 a9 a10 a11 : Prop} (h : a1 ∧ a2 ∧ a3 ∧ a4 ∧ a5 ∧ a6 ∧ a7 ∧ a8 ∧ a9 ∧ a10 ∧ a11) : a11 := h.2.2.2.2.2.2.2.2.2.2
theorem pj11l {a1 a2 a3 a4 a5 a6 a7 a8 a9 a10 a11 a12 : Prop} (h : a1 ∧ a2 ∧ a3 ∧ a4 ∧ a5 ∧ a6 ∧ a7 ∧ a8 ∧ a9 ∧ a10 ∧ a11 ∧ a12) : a11 := h.2.2.2.2.2.2.2.2.2.2.1
theorem pj11r {a1 a2 a3 a4 a5 a6 a7 a8 a9 a10 a11 a12 : Prop} (h : a1 ∧ a2 ∧ a3 ∧ a4 ∧ a5 ∧ a6 ∧ a7 ∧ a8 ∧ a9 ∧ a10 ∧ a11 ∧ a12) : a12 := h.2.2.2.2.2.2.2.2.2.2.2
theorem pj12l {a1 a2 a3 a4 a5 a6 a7 a8 a9 a10 a11 a12 a13 : Prop} (h : a1 ∧ a2 ∧ a3 ∧ a4 ∧ a5 ∧ a6 ∧ a7 ∧ a8 ∧ a9 ∧ a10 ∧ a11 ∧ a12 ∧ a13) : a12 := h.2.2.2.2.2.2.2.2.2.2.2.1
theorem pj12r {a1 a2 a3 a4 a5 a6 a7 a8 a9 a10 a11 a12 a13 : Prop} (h : a1 ∧ a2 ∧ a3 ∧ a4 ∧ a5 ∧ a6 ∧ a7 ∧ a8 ∧ a9 ∧ a10 ∧ a11 ∧ a12 ∧ a13) : a13 := h.2.2.2.2.2.2.2.2.2.2.2.2
theorem pj13l {a1 a2 a3 a4 a5 a6 a7 a8 a9 a10 a11 a12 a13 a14 : Prop} (h : a1 ∧ a2 ∧ a3 ∧ a4 ∧ a5 ∧ a6 ∧ a7 ∧ a8 ∧ a9 ∧ a10 ∧ a11 ∧ a12 ∧ a13 ∧ a14) : a13 := h.2.2.2.2.2.2.2.2.2.2.2.2.1
theorem pj13r {a1 a2 a3 a4 a5 a6 a7 a8 a9 a10 a11 a12 a13 a14 : Prop} (h : a1 ∧ a2 ∧ a3 ∧ a4 ∧ a5 ∧ a6 ∧ a7 ∧ a8 ∧ a9 ∧ a10 ∧ a11 ∧ a12 ∧ a13 ∧ a14) : a14 := h.2.2.2.2.2.2.2.2.2.2.2.2.2
theorem pj14l {a1 a2 a3 a4 a5 a6 a7 a8 a9 a10 a11 a12 a13 a14 a15 : Prop} (h : a1 ∧ a2 ∧ a3 ∧ a4 ∧ a5 ∧ a6 ∧ a7 ∧ a8 ∧ a9 ∧ a10 ∧ a11 ∧ a12 ∧ a13 ∧ a14 ∧ a15) : a14 := h.2.2.2.2.2.2.2.2.2.2.2.2.2.1
theorem pj14r {a1 a2 a3 a4 a5 a6 a7 a8 a9 a10 a11 a12 a13 a14 a15 : Prop} (h : a1 ∧ a2 ∧ a3 ∧ a4 ∧ a5 ∧ a6 ∧ a7 ∧ a8 ∧ a9 ∧ a10 ∧ a11 ∧ a12 ∧ a13 ∧ a14 ∧ a15) : a15 := h.2.2.2.2.2.2.2.2.2.2.2.2.2.2
theorem pj15l {a1 a2 a3 a4 a5 a6 a7 a8 a9 a10 a11 a12 a13 a14 a15 a16 : Prop} (h : a1 ∧ a2 ∧ a3 ∧ a4 ∧ a5 ∧ a6 ∧ a7 ∧ a8 ∧ a9 ∧ a10 ∧ a11 ∧ a12 ∧ a13 ∧ a14 ∧ a15 ∧ a16) : a15 := h.2.2.2.2.2.2.2.2.2.2.2.2.2.2.1
theorem pj15r {a1 a2 a3 a4 a5 a6 a7 a8 a9 a10 a11 a12 a13 a14 a15 a16 : Prop} (h : a1 ∧ a2 ∧ a3 ∧ a4 ∧ a5 ∧ a6 ∧ a7 ∧ a8 ∧ a9 ∧ a10 ∧ a11 ∧ a12 ∧ a13 ∧ a14 ∧ a15 ∧ a16) : a16 := h.2.2.2.2.2.2.2.2.2.2.2.2.2.2.2
theorem pj16l {a1 a2 a3 a4 a5 a6 a7 a8 a9 a10 a11 a12 a13 a14 a15 a16 a17 : Prop} (h : a1 ∧ a2 ∧ a3 ∧ a4 ∧ a5 ∧ a6 ∧ a7 ∧ a8 ∧ a9 ∧ a10 ∧ a11 ∧ a12 ∧ a13 ∧ a14 ∧ a15 ∧ a16 ∧ a17) : a16 := h.2.2.2.2.2.2.2.2.2.2.2.2.2.2.2.1
theorem pj16r {a1 a2 a3 a4 a5 a6 a7 a8 a9 a10 a11 a12 a13 a14 a15 a16 a17 : Prop} (h : a1 ∧ a2 ∧ a3 ∧ a4 ∧ a5 ∧ a6 ∧ a7 ∧ a8 ∧ a9 ∧ a10 ∧ a11 ∧ a12 ∧ a13 ∧ a14 ∧ a15 ∧ a16 ∧ a17) : a17 := h.2.2.2.2.2.2.2.2.2.2.2.2.2.2.2.2
end Mine
namespace Mine
def AllLt2 (d : Nat) : List (Addr × Obj) → Prop
  | [] => True
  | [p] => @LT.lt Nat _ p.1 d
  | p :: q :: r => @LT.lt Nat _ p.1 d ∧ AllLt2 d (q :: r)
def AllNe2 (d : Nat) : List (Addr × Obj) → Prop
  | [] => True
  | [p] => @Ne Nat p.1 d
  | p :: q :: r => @Ne Nat p.1 d ∧ AllNe2 d (q :: r)
theorem toLt2 {d : Addr} : ∀ {l : List (Addr × Obj)}, (∀ p ∈ l, p.1 < d) → AllLt2 d l
  | [], _ => trivial
  | [p], h => h p (.head _)
  | p :: q :: r, h => ⟨h p (.head _), toLt2 (l := q :: r) fun x hx => h x (.tail _ hx)⟩
theorem toNe2 {d : Nat} : ∀ {l : List (Addr × Obj)}, AllNe d l → AllNe2 d l
  | [], _ => trivial
  | [_], h => h.1
  | _ :: q :: r, h => ⟨h.1, toNe2 (l := q :: r) h.2⟩
theorem lt2_cons (d : Nat) (a : Addr) (o : Obj) (q : Addr × Obj) (r : List (Addr × Obj)) : AllLt2 d ((a, o) :: q :: r) = (@LT.lt Nat _ a d ∧ AllLt2 d (q :: r)) := rfl
theorem lt2_one (d : Nat) (a : Addr) (o : Obj) : AllLt2 d [(a, o)] = (@LT.lt Nat _ a d) := rfl
theorem lt2_nil (d : Nat) : AllLt2 d [] = True := rfl
theorem lt2_head {d : Nat} {a : Addr} {o : Obj} {r : List (Addr × Obj)} (h : AllLt2 d ((a, o) :: r)) : @LT.lt Nat _ a d := by
  cases r with
  | nil => exact h
  | cons _ _ => exact h.1
theorem ne2_cons (d : Nat) (a : Addr) (o : Obj) (q : Addr × Obj) (r : List (Addr × Obj)) : AllNe2 d ((a, o) :: q :: r) = (@Ne Nat a d ∧ AllNe2 d (q :: r)) := rfl
theorem ne2_one (d : Nat) (a : Addr) (o : Obj) : AllNe2 d [(a, o)] = (@Ne Nat a d) := rfl
theorem ne2_nil (d : Nat) : AllNe2 d [] = True := rfl
end Mine
namespace Mine
theorem neOr {a b : Nat} (h : a < b ∨ b < a ∨ a ≠ b) : @Ne Nat a b := h.elim Nat.ne_of_lt fun h => h.elim Nat.ne_of_gt id
end Mine
end
namespace Mine
open PySem.Calls PySem.Spec
local macro_rules | `(tactic| size_fits) => `(tactic| exact Nat.le_of_ble_eq_true rfl)
local macro_rules | `(tactic| k_lt $h:ident) => `(tactic| (replace $h:ident := Mine.toLt2 $h; dsimp only [↓Mine.lt2_cons, ↓Mine.lt2_one, ↓Mine.lt2_nil] at $h:ident))
local macro_rules | `(tactic| walk_at $s:str) => `(tactic| k_extra $s)
local macro_rules | `(tactic| units_room) => `(tactic| k_extra "my_room")
local macro_rules | `(tactic| k_ne) => `(tactic| k_extra "my_ne")
section
theorem lines_Swig : True := by
  w_top off
  k_with_none
  (k_with "my_pj" => (with_reducible first | assumption | exact Mine.pj1l (by assumption) | exact Mine.pj1r (by assumption) | exact Mine.pj2l (by assumption) | exact Mine.pj2r (by assumption) | exact Mine.pj3l (by assumption) | exact Mine.pj3r (by assumption) | exact Mine.pj4l (by assumption) | exact Mine.pj4r (by assumption) | exact Mine.pj5l (by assumption) | exact Mine.pj5r (by assumption) | exact Mine.pj6l (by assumption) | exact Mine.pj6r (by assumption) | exact Mine.pj7l (by assumption) | exact Mine.pj7r (by assumption) | exact Mine.pj8l (by assumption) | exact Mine.pj8r (by assumption) | exact Mine.pj9l (by assumption) | exact Mine.pj9r (by assumption) | exact Mine.pj10l (by assumption) | exact Mine.pj10r (by assumption) | exact Mine.pj11l (by assumption) | exact Mine.pj11r (by assumption) | exact Mine.pj12l (by assumption) | exact Mine.pj12r (by assumption) | exact Mine.pj13l (by assumption) | exact Mine.pj13r (by assumption) | exact Mine.pj14l (by assumption) | exact Mine.pj14r (by assumption) | exact Mine.pj15l (by assumption) | exact Mine.pj15r (by assumption) | exact Mine.pj16l (by assumption) | exact Mine.pj16r (by assumption)))
  (k_with "my_ne" => (refine neN ?_; (try dsimp only); first | with_reducible assumption | exact Ne.symm (by with_reducible assumption) | (refine Mine.neOr ?_; simp only [*, true_or, or_true, ne_eq, not_false_eq_true]; done) | (refine Ne.symm (Mine.neOr ?_); simp only [*, true_or, or_true, ne_eq, not_false_eq_true]; done) | omega))
  (k_with "my_room" => first | exact room1 (by with_reducible assumption) rfl rfl | exact room0 (by with_reducible assumption) rfl rfl | ((simp only [Around.deeper, Around.in1, recursionLimit, cLine] at *); omega))
  (k_with "subscriptTail" => (k_here; (with_reducible show wpAny _ _ (subscriptTail _ _ (Value.ref _) (Value.str _ _)) _ _ _); k_dflt (refine my_get (by k_asm) (by k_mem) (by assumption) (by exact rfl) ?_ (by with_unfolding_all rfl); k_whole)))
  (k_with "setItem ref str" => (k_here; k_dflt (refine flask_set (by k_asm) (by k_asm) (by k_updF) (by assumption) ?_; k_whole); intro h' o' F' N' hd'; (try k_sweep)))
  (k_with "my_in" => ((case k6 => k_is); (case k7 => k_is); (case k8 => first | exact Nat.lt_of_le_of_lt (Nat.le_add_right _ _) (by with_reducible assumption) | (simp only [recursionLimit] at *; omega)); (case k9 => exact BindsTo.of_eq rfl); (case c5 => decide); (case kB => exact locs rfl); (case c2 => exact rfl); (case c3 => exact rfl); (case c4 => exact rfl)))
  trivial
section
variable {prog : Program} {w : World} {h₀ : Heap} {p : Program} {loose : List Str} {mean : ExcName → Option Value} {mg mb : Str → Option Value}

theorem swig {A : Around} {s : Shared} {fl c : Addr} {fo : Obj} {k : Int} {tk : Tok} {vs : List Value} {ns : List Int} {m : Int} {tm : Tok} {Q E : Value → Shared → Prop}
   (X : (hd.heap_1 w.params).In h₀) (T : Top p loose mean mg mb h₀) (st : h₀.StaysIn s.heap) (hh : A.handled = none) (hd : A.depth + 5 < recursionLimit) (hu : A.units + 20 < cLine)
   (hfl : s.heap.get? fl = some fo) (hfo : FlaskO prog w fo c k tk) (hfl0 : h₀.get? fl = none) (hc : s.heap.IsList c vs.toArray) (hi : IntsAre vs ns) (hlen : ns.length ≤ 60) (h0 : 0 ≤ k) (hk : k ≤ 1000) (hm : 0 < m) (hm' : m ≤ 100)
   (hret : ∀ h' tk' v tv fo' ti, Own [fl] s.heap h' → h'.get? fl = some fo' → FlaskO prog w fo' c (k + 1) ti → 0 ≤ v → v < m → Q (.int v tv) { s with heap := h', toks := tk' }) :
   wpAny (model prog w) A (call (.ref 216) [.ref fl, .int m tm]) Q E s := by
  have hfill : (fun (_ : OpenLaw) (_ : Params → Frag) => True) PySem.Challenge.rw_rg0207_01 Mine.hd.heap_1 := by k_fill; trivial
  clear hfill
  obtain ⟨_, dp, fr, gd, un⟩ := A
  obtain rfl : _ = none := hh
  refine wpAny_call ?_
  refine' code_in (news := [(fl, fo)]) X T st ?kN ?k6 ?k7 ?k8 ?k9 ?kB ?_ ?c2 ?c3 ?c4 ?c5
  case kN => exact led1 hfl hfl0 led0
  k_extra "my_in"
  intro g L h₁ hg F N X' T' lL lN
  have hc' : g.IsList c vs.toArray := isList_base hg hc (by obtain ⟨o, ho, hcl, _⟩ := hc; simpa using apart ho hfl (by rw [hcl, hfo.cls]; decide))
  dsimp only
  try k_fold
  k_steps
  all_goals (rename Fr _ _ _ _ => F'; rename News _ _ _ _ => N'; rename FlaskO _ _ _ _ _ _ => hfo'; exact hret _ _ _ _ _ _ (own_of hg F') (N' _ (.head _)).1 hfo' (Int.fmod_nonneg_of_pos _ hm) (Int.fmod_lt_of_pos _ hm))

theorem swig_K {A : Around} {s : Shared} {g : Heap} {L fl c : Addr} {m₀ : Str → Option Value} {news : List (Addr × Obj)} {gg : Obj → List (Addr × Obj)} {fo : Obj} {k : Int} {tk : Tok} {vs : List Value} {ns : List Int} {m : Int} {tm : Tok} {Q E : Value → Shared → Prop}
   (F : Fr g L s.heap m₀) (N : News g L s.heap news) (X : (hd.heap_1 w.params).In g) (T : Top p loose mean mg mb g) (U : UpdF fl fo news gg) (hfo : FlaskO prog w fo c k tk)
   (hh : A.handled = none) (hd : A.depth + 5 < recursionLimit) (hu : A.units + 20 < cLine)
   (hc : s.heap.IsList c vs.toArray) (hi : IntsAre vs ns) (hlen : ns.length ≤ 60) (h0 : 0 ≤ k) (hk : k ≤ 1000) (hm : 0 < m) (hm' : m ≤ 100)
   (hret : ∀ h' tk' v tv fo' ti, Fr g L h' m₀ → News g L h' (gg fo') → FlaskO prog w fo' c (k + 1) ti → 0 ≤ v → v < m → Q (.int v tv) { s with heap := h', toks := tk' }) :
   wpAny (model prog w) A (call (.ref 216) [.ref fl, .int m tm]) Q E s := by
  obtain ⟨pre, post, rfl, hg, h1, h2⟩ := id U.split
  have hm₁ := N (fl, fo) (List.mem_append_right _ (.head _))
  refine swig X T F.keep hh hd hu hm₁.1 hfo hm₁.2.2 hc hi hlen h0 hk hm hm' fun h' tk' v tv fo' ti x e hfo' a b => ?_
  obtain ⟨F', N'⟩ := own1 F N U x e
  exact hret h' tk' v tv fo' ti F' N' hfo' a b
end
end
section
theorem lines_Keys : True := by
  w_top off
  k_with_none
  (k_with "my_pj" => (with_reducible first | assumption | exact Mine.pj1l (by assumption) | exact Mine.pj1r (by assumption) | exact Mine.pj2l (by assumption) | exact Mine.pj2r (by assumption) | exact Mine.pj3l (by assumption) | exact Mine.pj3r (by assumption) | exact Mine.pj4l (by assumption) | exact Mine.pj4r (by assumption) | exact Mine.pj5l (by assumption) | exact Mine.pj5r (by assumption) | exact Mine.pj6l (by assumption) | exact Mine.pj6r (by assumption) | exact Mine.pj7l (by assumption) | exact Mine.pj7r (by assumption) | exact Mine.pj8l (by assumption) | exact Mine.pj8r (by assumption) | exact Mine.pj9l (by assumption) | exact Mine.pj9r (by assumption) | exact Mine.pj10l (by assumption) | exact Mine.pj10r (by assumption) | exact Mine.pj11l (by assumption) | exact Mine.pj11r (by assumption) | exact Mine.pj12l (by assumption) | exact Mine.pj12r (by assumption) | exact Mine.pj13l (by assumption) | exact Mine.pj13r (by assumption) | exact Mine.pj14l (by assumption) | exact Mine.pj14r (by assumption) | exact Mine.pj15l (by assumption) | exact Mine.pj15r (by assumption) | exact Mine.pj16l (by assumption) | exact Mine.pj16r (by assumption)))
  (k_with "my_ne" => (refine neN ?_; (try dsimp only); first | with_reducible assumption | exact Ne.symm (by with_reducible assumption) | (refine Mine.neOr ?_; simp only [*, true_or, or_true, ne_eq, not_false_eq_true]; done) | (refine Ne.symm (Mine.neOr ?_); simp only [*, true_or, or_true, ne_eq, not_false_eq_true]; done) | omega))
  (k_with "my_room" => first | exact room1 (by with_reducible assumption) rfl rfl | exact room0 (by with_reducible assumption) rfl rfl | ((simp only [Around.deeper, Around.in1, recursionLimit, cLine] at *); omega))
  (k_with "my_in" => ((case k6 => k_is); (case k7 => k_is); (case k8 => first | exact Nat.lt_of_le_of_lt (Nat.le_add_right _ _) (by with_reducible assumption) | (simp only [recursionLimit] at *; omega)); (case k9 => exact BindsTo.of_eq rfl); (case c5 => decide); (case kB => exact locs rfl); (case c2 => exact rfl); (case c3 => exact rfl); (case c4 => exact rfl)))
  (k_with "exec For Name Call cons nil" => (k_here; k_dflt (refine my_For ?_)))
  (k_with "call ref" => (k_here; (with_reducible show wpAny _ _ (call (Value.ref 216) _) _ _ _); k_dflt (refine swig_K (by k_asm) (by k_asm) (by k_asm) (by k_asm) (by k_updF) (by assumption) (by rfl) (by k_extra "my_room") (by k_extra "my_room") (by is_list) (by assumption) (by assumption) (by omega) (by omega) (by omega) (by omega) ?_; k_whole); intro h' tk' vK tvK fo' ti F' N' hfo' hv0 hv1; (try k_sweep)))
  (k_with "newTuple" => (k_here; k_dflt (refine my_newTuple (by k_asm) (by k_asm) ?_ (by size_fits); k_whole); intro l' h' F' N' l1; (try k_lt l1); (try k_sweep)))
  (k_with "call type:range" => (k_here; (with_reducible rename Fr _ _ _ _ => F'); (with_reducible rename News _ _ _ _ => N'); first | (with_unfolding_all refine range1_rows F' N' ?_; intro h' tk' t' u' v' R' F' N' k'; (try k_sweep)) | (with_unfolding_all refine range2_rows F' N' ?_; intro h' tk' t' u' v' R' F' N' k'; (try k_sweep))))
  (k_with "my_sub" => repeat' (first | exact List.forall_mem_nil _ | refine List.forall_mem_cons.mpr ⟨?_, ?_⟩ | k_mem))
  (k_with "call builtin:list.pop" => (k_here; k_dflt (refine my_pop (by k_asm) (by k_asm) (by k_updF) (by assumption) (by omega) (by omega) (by omega) ?_; k_whole); intro h' t' F' N'; (try k_sweep)))
  trivial
/-- between two turns -/
inductive KeysJ (prog : Program) (w : World) (fl c left found : Addr) (k : Int) (i : Nat) (m : Str → Option Value) : List (Addr × Obj) → Prop
  | intro {fo : Obj} {ti : Tok} {xs ys : List Value} {nl nf : Nat} {lefts founds : List Int} {k' : Int} (hF : FlaskO prog w fo c k' ti) (hk : k' = k + i) (hx : IntsAre xs lefts) (hy : IntsAre ys founds) (h1 : lefts.length + i = 7) (h2 : founds.length = i)
      (hp : (lefts ++ founds).Perm (rangeInts 1 1 7)) (m1 : m (Str.ofString "left") = some (.ref left)) (m2 : m (Str.ofString "found") = some (.ref found)) (m3 : m (Str.ofString "flask") = some (.ref fl)) :
      KeysJ prog w fl c left found k i m [(found, W.listOf ys.toArray nf), (left, W.listOf xs.toArray nl), (fl, fo)]
section
variable {prog : Program} {w : World} {h₀ : Heap} {p : Program} {loose : List Str} {mean : ExcName → Option Value} {mg mb : Str → Option Value}

theorem keys {A : Around} {s : Shared} {fl c : Addr} {fo : Obj} {k : Int} {tk : Tok} {vs : List Value} {ns : List Int} {m : Int} {tm : Tok} {Q E : Value → Shared → Prop}
   (X : (hd.heap_1 w.params).In h₀) (T : Top p loose mean mg mb h₀) (st : h₀.StaysIn s.heap) (hh : A.handled = none) (hd : A.depth + 10 < recursionLimit) (hu : A.units + 50 < cLine)
   (hfl : s.heap.get? fl = some fo) (hfo : FlaskO prog w fo c k tk) (hfl0 : h₀.get? fl = none) (hc : s.heap.IsList c vs.toArray) (hi : IntsAre vs ns) (hlen : ns.length ≤ 60) (h0 : 0 ≤ k) (hk : k ≤ 900) (hm : 0 ≤ m) (hm' : m ≤ 7)
   (hret : ∀ h' tk' r vs' n' founds fo' ti k', Own [fl] s.heap h' → h'.get? fl = some fo' → FlaskO prog w fo' c k' ti → k ≤ k' → k' ≤ k + 9 → s.heap.get? r = none → h'.get? r = some (W.listOf vs'.toArray n') → IntsAre vs' founds →
     founds.Nodup → (∀ x ∈ founds, 1 ≤ x ∧ x ≤ 7) → (founds.length : Int) ≤ m → Q (.ref r) { s with heap := h', toks := tk' }) :
   wpAny (model prog w) A (call (.ref 223) [.ref fl, .int m tm]) Q E s := by
  have hfill : (fun (_ : OpenLaw) (_ : Params → Frag) => True) PySem.Challenge.rw_rg0207_01 Mine.hd.heap_1 := by k_fill; trivial
  clear hfill
  obtain ⟨_, dp, fr, gd, un⟩ := A
  obtain rfl : _ = none := hh
  refine wpAny_call ?_
  refine' code_in (news := [(fl, fo)]) X T st ?kN ?k6 ?k7 ?k8 ?k9 ?kB ?_ ?c2 ?c3 ?c4 ?c5
  case kN => exact led1 hfl hfl0 led0
  k_extra "my_in"
  intro g L h₁ hg F N X' T' lL lN
  have hc' : g.IsList c vs.toArray := isList_base hg hc (by obtain ⟨o, ho, hcl, _⟩ := hc; simpa using apart ho hfl (by rw [hcl, hfo.cls]; decide))
  clear hc hfl st
  dsimp only
  try k_fold
  k_steps
  rename Fr _ _ _ _ => F'
  rename News _ _ _ _ => N'
  rename IsRange _ _ _ _ _ _ _ _ => R'
  rename CarriedAll _ _ => hC
  rename FlaskO _ _ _ _ _ _ => hF
  rename _ < m + 1 => hv1
  rename 0 ≤ (_ : Int) => hv0
  have hC' := IntsAre.ofCarried hC
  refine' MyIter.range (news := ?news) rfl rfl rfl F' ?N R' (rsmall hv0 ?hs) (rsize hv0) (KeysJ prog w fl c ?left ?found (k + 1)) (KeysJ.intro hF ?hk hC' (ys := []) .nil ?h1 ?h2 ?hp ?m1 ?m2 ?m3) ?step ?hR
  case m1 => with_unfolding_all rfl
  case m2 => with_unfolding_all rfl
  case m3 => with_unfolding_all rfl
  case N => exact News.cut N' (by k_extra "my_sub")
  case hk => simp
  case h1 => rfl
  case h2 => rfl
  case hp => rw [List.append_nil]; exact .refl _
  case hs => omega
  case step =>
    intro i t m₁ news₁ h₁ tk₁ I oI hi J₁ F₁ N₁ nI lI
    cases J₁ with
    | intro hF hk' hx hy h1 h2 hp m1 m2 m3 =>
    k_lt lI
    rw [pin m1, pin m2, pin m3] at F₁
    k_steps
    rename Fr _ _ _ _ => F'
    rename News _ _ _ _ => N'
    rename FlaskO _ _ _ _ _ _ => hF'
    simp only [List.push_toArray] at N'
    refine' LoopEnd.next (news₂ := ?news2) F' ?N2 ?n2 (KeysJ.intro hF' ?hk2 (ints_erase hx _) (ints_snoc hy _ _) ?h12 ?h22 ((perm_take ?hlt2).trans hp) ?m12 ?m22 ?m32)
    case m12 => with_unfolding_all rfl
    case m22 => with_unfolding_all rfl
    case m32 => with_unfolding_all rfl
    case N2 => exact News.cut N' (by k_extra "my_sub")
    case n2 => k_all
    case hk2 => rw [hk']; simp [Int.add_assoc]
    case h12 => rw [List.length_eraseIdx]; split <;> omega
    case h22 => simp [h2]
    case hlt2 => omega
  case hR =>
    intro h' tk' m' news' F₁ N₁ J₁
    cases J₁ with
    | intro hF hk' hx hy h1 h2 hp m1 m2 m3 =>
    rw [pin m1, pin m2, pin m3] at F₁
    k_steps
    rename Fr _ _ _ _ => F'
    rename News _ _ _ _ => N'
    dsimp only
    have nd := hp.nodup_iff.mpr (show (rangeInts 1 1 7).Nodup from by decide)
    exact hret _ _ _ _ _ _ _ _ _ (own_of hg F') (N' _ (.tail _ (.tail _ (.head _)))).1 hF (by omega) (by omega) (fresh_of hg (N' _ (.head _)).2.2 (by simp only [List.map_cons, List.map_nil, List.mem_singleton]; exact neN (by omega))) (N' _ (.head _)).1 hy
      (List.nodup_append.mp nd).2.1 (fun x hx => (show ∀ x ∈ rangeInts 1 1 7, 1 ≤ x ∧ x ≤ 7 from by decide) x (hp.mem_iff.mp (List.mem_append_right _ hx))) (by omega)

theorem keys_K {A : Around} {s : Shared} {g : Heap} {L fl c : Addr} {m₀ : Str → Option Value} {news : List (Addr × Obj)} {gg : Obj → List (Addr × Obj)} {fo : Obj} {k : Int} {tk : Tok} {vs : List Value} {ns : List Int} {m : Int} {tm : Tok} {Q E : Value → Shared → Prop}
   (F : Fr g L s.heap m₀) (N : News g L s.heap news) (X : (hd.heap_1 w.params).In g) (T : Top p loose mean mg mb g) (U : UpdF fl fo news gg) (hfo : FlaskO prog w fo c k tk)
   (hh : A.handled = none) (hd : A.depth + 10 < recursionLimit) (hu : A.units + 50 < cLine)
   (hc : s.heap.IsList c vs.toArray) (hi : IntsAre vs ns) (hlen : ns.length ≤ 60) (h0 : 0 ≤ k) (hk : k ≤ 900) (hm : 0 ≤ m) (hm' : m ≤ 7)
   (hret : ∀ h' tk' r vs' n' founds fo' ti k', Fr g L h' m₀ → News g L h' ((r, W.listOf vs'.toArray n') :: gg fo') → (∀ p ∈ gg fo', p.1 ≠ r) → FlaskO prog w fo' c k' ti → k ≤ k' → k' ≤ k + 9 → IntsAre vs' founds →
     founds.Nodup → (∀ x ∈ founds, 1 ≤ x ∧ x ≤ 7) → (founds.length : Int) ≤ m → Q (.ref r) { s with heap := h', toks := tk' }) :
   wpAny (model prog w) A (call (.ref 223) [.ref fl, .int m tm]) Q E s := by
  obtain ⟨pre, post, rfl, hg, h1, h2⟩ := id U.split
  have hm₁ := N (fl, fo) (List.mem_append_right _ (.head _))
  refine keys X T F.keep hh hd hu hm₁.1 hfo hm₁.2.2 hc hi hlen h0 hk hm hm' fun h' tk' r vs' n' founds fo' ti k' x e hfo' a b n er hv nd rg len => ?_
  obtain ⟨F', N'⟩ := own1 F N U x e
  refine hret h' tk' r vs' n' founds fo' ti k' F' (fresh1 F n N' er) (fun p hp q => ?_) hfo' a b hv nd rg len
  rw [hg] at hp
  rcases List.mem_append.mp hp with hp | hp
  · exact fresh_ne N n p (List.mem_append_left _ hp) q
  · rcases List.mem_cons.mp hp with rfl | hp
    · exact fresh_ne N n (fl, fo) (List.mem_append_right _ (.head _)) q
    · exact fresh_ne N n p (List.mem_append_right _ (.tail _ hp)) q
end
end
section
theorem lines_Named : True := by
  w_top off
  k_with_none
  (k_with "my_pj" => (with_reducible first | assumption | exact Mine.pj1l (by assumption) | exact Mine.pj1r (by assumption) | exact Mine.pj2l (by assumption) | exact Mine.pj2r (by assumption) | exact Mine.pj3l (by assumption) | exact Mine.pj3r (by assumption) | exact Mine.pj4l (by assumption) | exact Mine.pj4r (by assumption) | exact Mine.pj5l (by assumption) | exact Mine.pj5r (by assumption) | exact Mine.pj6l (by assumption) | exact Mine.pj6r (by assumption) | exact Mine.pj7l (by assumption) | exact Mine.pj7r (by assumption) | exact Mine.pj8l (by assumption) | exact Mine.pj8r (by assumption) | exact Mine.pj9l (by assumption) | exact Mine.pj9r (by assumption) | exact Mine.pj10l (by assumption) | exact Mine.pj10r (by assumption) | exact Mine.pj11l (by assumption) | exact Mine.pj11r (by assumption) | exact Mine.pj12l (by assumption) | exact Mine.pj12r (by assumption) | exact Mine.pj13l (by assumption) | exact Mine.pj13r (by assumption) | exact Mine.pj14l (by assumption) | exact Mine.pj14r (by assumption) | exact Mine.pj15l (by assumption) | exact Mine.pj15r (by assumption) | exact Mine.pj16l (by assumption) | exact Mine.pj16r (by assumption)))
  (k_with "my_ne" => (refine neN ?_; (try dsimp only); first | with_reducible assumption | exact Ne.symm (by with_reducible assumption) | (refine Mine.neOr ?_; simp only [*, true_or, or_true, ne_eq, not_false_eq_true]; done) | (refine Ne.symm (Mine.neOr ?_); simp only [*, true_or, or_true, ne_eq, not_false_eq_true]; done) | omega))
  (k_with "my_room" => first | exact room1 (by with_reducible assumption) rfl rfl | exact room0 (by with_reducible assumption) rfl rfl | ((simp only [Around.deeper, Around.in1, recursionLimit, cLine] at *); omega))
  (k_with "my_fill" => ((have hfill : (fun (_ : OpenLaw) (_ : Params → Frag) => True) PySem.Challenge.rw_rg0207_01 Mine.hd.heap_1 := by k_fill; trivial); clear hfill))
  (k_with "my_in" => ((case k6 => k_is); (case k7 => k_is); (case k8 => first | exact Nat.lt_of_le_of_lt (Nat.le_add_right _ _) (by with_reducible assumption) | (simp only [recursionLimit] at *; omega)); (case k9 => first | exact BindsTo.of_eq rfl | exact binds_K (Frag.In.keeps (by assumption) (by assumption)) rfl (by k_is) rfl rfl rfl); (case c5 => decide); (case kB => exact locs rfl); (case c2 => exact rfl); (case c3 => exact rfl); (case c4 => exact rfl)))
  (k_with "my_sub" => repeat' (first | exact List.forall_mem_nil _ | refine List.forall_mem_cons.mpr ⟨?_, ?_⟩ | k_mem))
  (k_with "exec For Name Call cons nil" => (k_here; k_dflt (refine my_For ?_)))
  (k_with "exec For Name Name cons nil" => (k_here; k_dflt (refine my_For ?_)))
  (k_with "newTuple" => (k_here; k_dflt (refine my_newTuple (by k_asm) (by k_asm) ?_ (by size_fits); k_whole); intro l' h' F' N' l1; (try k_lt l1); (try k_sweep)))
  (k_with "call type:range" => (k_here; (with_reducible rename Fr _ _ _ _ => F'); (with_reducible rename News _ _ _ _ => N'); first | (with_unfolding_all refine range1_rows F' N' ?_; intro h' tk' t' u' v' R' F' N' k'; (try k_sweep)) | (with_unfolding_all refine range2_rows F' N' ?_; intro h' tk' t' u' v' R' F' N' k'; (try k_sweep))))
  (k_with "my_inC" => ((case k6 => k_is); (case k7 => k_is); (case k8 => first | exact Nat.lt_of_le_of_lt (Nat.le_add_right _ _) (by with_reducible assumption) | (simp only [recursionLimit] at *; omega)); (case k9 => exact BindsTo.of_eq rfl); (case kB => exact rfl); (case kD => decide +kernel); (case c2 => exact rfl); (case c3 => exact rfl); (case c4 => exact rfl)))
  (k_with "eval Name" => (k_here; kc_free; k_dflt (refine name_free (by k_asm) (by rfl) (by assumption) (by assumption) ?_ (by rfl) (by rfl); k_whole)))
  (k_with "last call builtin:len" => (k_here; k_dflt (refine call_len_list (by is_list) (by ((try simp only [Array.size_push, List.size_toArray]); omega)) ?_; k_whole); (try simp only [Array.size_push])))
  (k_with "my_ints" => first | assumption | l_ints | l_intsW)
  (k_with "my_fit" => ((try simp only [sizeLine_eq, List.length_append, List.length_cons, List.length_nil, List.length_reverse, List.length_map, List.size_toArray, Array.size_push]); omega))
  (k_with "binaryOp Add ref ref" => (k_here; (with_reducible show wpAny _ _ (binaryOp _ (Value.ref _) (Value.ref _)) _ _ _); k_dflt (refine my_addL (by k_asm) (by k_asm) (by kmk_list) (by kmk_list) (by k_extra "my_ints") (by k_extra "my_ints") ?_ (by k_extra "my_fit"); k_whole); intro D' h' F' N' l1 hI'; (try k_lt l1); (try k_sweep)))
  (k_with "exec While Compare cons nil" => (k_here; k_dflt (refine my_While ?_)))
  (k_with "my_len" => ((try simp only [Around.deeper, Around.in1, recursionLimit, cLine, List.length_append, List.length_take, List.length_drop, List.length_cons, List.length_nil] at *); omega))
  (k_with "eval ListComp" => (k_here; first | (lct_look; k_dflt (refine LCt.ListComp_T (F₀ := by k_asm) (by with_unfolding_all rfl) (by decide) (by rfl) (by decide) (by rfl) ?_)) | k_dflt (refine LCg.ListComp_U (F₀ := by k_asm) (by with_unfolding_all rfl) (by decide) (by rfl) (by decide) (by rfl) ?_)))
  (k_with "exec Assign cons ListComp" => (k_here; first | (lct_look; k_dflt (refine LCt.Assign_ListComp_T (F₀ := by k_asm) (by rfl) (by with_unfolding_all rfl) (by with_unfolding_all rfl) (by decide) (by rfl) (by decide) (by rfl) (by rfl) (by rfl) ?_)) | k_dflt (refine LCg.Assign_ListComp_U (F₀ := by k_asm) (by rfl) (by with_unfolding_all rfl) (by with_unfolding_all rfl) (by decide) (by rfl) (by decide) (by rfl) (by rfl) (by rfl) ?_)))
  trivial
/-- hidden: a list of lists of ints -/
inductive RowsAt (h : Heap) : List Addr → List (List Int) → Prop
  | nil : RowsAt h [] []
  | cons {a : Addr} {as : List Addr} {vs : List Value} {ns : List Int} {H : List (List Int)} : h.IsList a vs.toArray → IntsAre vs ns → RowsAt h as H → RowsAt h (a :: as) (ns :: H)
def HidAt (h : Heap) (hid : Addr) (H : List (List Int)) : Prop := ∃ as : List Addr, h.IsList hid (as.map Value.ref).toArray ∧ RowsAt h as H
theorem List.any_beq'' (ns : List Int) (n : Int) : (!ns.any fun x => x == n) = !ns.contains n := by
  congr 1; rw [← List.any_beq]; congr 1; funext x; exact Bool.beq_comm
theorem RowsAt.length {h : Heap} {as : List Addr} {H : List (List Int)} (x : RowsAt h as H) : as.length = H.length := by induction x with | nil => rfl | cons _ _ _ ih => simp [ih]
theorem RowsAt.at {h : Heap} {as : List Addr} {H : List (List Int)} (x : RowsAt h as H) : ∀ (i : Nat) (a : Addr), as[i]? = some a → ∃ vs ns, H[i]? = some ns ∧ h.IsList a vs.toArray ∧ IntsAre vs ns := by
  induction x with
  | nil => intro i a e; simp at e
  | cons hl hi _ ih =>
    intro i a e
    cases i with
    | zero => simp at e; subst e; exact ⟨_, _, rfl, hl, hi⟩
    | succ i => simpa using ih i a (by simpa using e)
theorem RowsAt.keep {h h' : Heap} (k : ∀ b o, h.get? b = some o → h'.get? b = some o) {as : List Addr} {H : List (List Int)} (x : RowsAt h as H) : RowsAt h' as H := by
  induction x with
  | nil => exact .nil
  | cons hl hi _ ih => exact .cons (stays_list k hl) hi ih
theorem HidAt.keep {h h' : Heap} (k : ∀ b o, h.get? b = some o → h'.get? b = some o) {hid : Addr} {H : List (List Int)} (x : HidAt h hid H) : HidAt h' hid H := let ⟨as, hl, hR⟩ := x; ⟨as, stays_list k hl, hR.keep k⟩
theorem own_nil {h h' : Heap} (x : Own [] h h') : ∀ b o, h.get? b = some o → h'.get? b = some o := fun b o e => x b o e (by simp)
def sub (one keys : List Int) : Bool := one.all fun x => keys.contains x
def namedV (H : List (List Int)) (keys : List Int) : Option (List Int) := H.find? fun one => sub one keys
theorem named_at {H : List (List Int)} {ns f : List Int} : ∀ {i : Nat}, (∀ j f, j < i → H[j]? = some f → sub f ns = false) → H[i]? = some f → sub f ns = true → namedV H ns = some f := by
  induction H with
  | nil => intro i _ e; simp at e
  | cons x H ih =>
    intro i h e q
    cases i with
    | zero => simp at e; subst e; simp [namedV, q]
    | succ i =>
      have := ih (i := i) (fun j f hj hf => h (j + 1) f (by omega) (by simpa using hf)) (by simpa using e) q
      rw [namedV, List.find?_cons, h 0 x (by omega) rfl]; exact this
theorem named_no {H : List (List Int)} {ns : List Int} (h : ∀ (j : Nat) f, H[j]? = some f → sub f ns = false) : namedV H ns = none := by
  rw [namedV, List.find?_eq_none]
  intro f hf
  obtain ⟨j, hj⟩ := List.getElem?_of_mem hf
  rw [h j f hj]; simp
theorem sub_of_nil {one ns : List Int} (h : one.filter (fun x => !ns.contains x) = []) : sub one ns = true := by
  rw [sub, List.all_eq_true]; intro x hx
  have := List.filter_eq_nil_iff.mp h x hx
  simpa using this
theorem sub_not_nil {one ns : List Int} (h : ¬ one.filter (fun x => !ns.contains x) = []) : sub one ns = false := by
  cases q : sub one ns with
  | false => rfl
  | true => exact absurd (List.filter_eq_nil_iff.mpr fun x hx => by simpa using List.all_eq_true.mp q x hx) h
theorem isList_of_base {g h : Heap} {W : List Addr} {l : Addr} {its : Array Value} (hg : g = hideAll h W) (x : g.IsList l its) : h.IsList l its := let ⟨o, e, r⟩ := x; ⟨o, of_hideAll _ (hg ▸ e), r⟩
section
variable {prog : Program} {w : World} {h₀ : Heap} {p : Program} {loose : List Str} {mean : ExcName → Option Value} {mg mb : Str → Option Value}
def NamedOut (h : Heap) (H : List (List Int)) (keys : List Int) (r : Value) : Prop :=
  (r = .none ∧ namedV H keys = none) ∨ ∃ a vs f, r = .ref a ∧ namedV H keys = some f ∧ h.IsList a vs.toArray ∧ IntsAre vs f

theorem named {A : Around} {s : Shared} {hb : Heap} {hid kl : Addr} {H : List (List Int)} {vs : List Value} {ns : List Int} {Q E : Value → Shared → Prop}
   (X : (hd.heap_1 w.params).In h₀) (T : Top p loose mean mg mb h₀) (st : h₀.StaysIn s.heap) (hh : A.handled = none) (hd : A.depth + 10 < recursionLimit) (hu : A.units + 200 < cLine)
   (kb : ∀ b o, hb.get? b = some o → s.heap.get? b = some o) (hH : HidAt hb hid H) (hk : s.heap.IsList kl vs.toArray) (hi : IntsAre vs ns) (hHr : ∀ f ∈ H, f.length ≤ 100)
   (hret : ∀ h' tk' r, Own [] s.heap h' → NamedOut hb H ns r → Q r { s with heap := h', toks := tk' }) :
   wpAny (model prog w) A (call (.ref 228) [.ref hid, .ref kl]) Q E s := by
  k_extra "my_fill"
  obtain ⟨_, dp, fr, gd, un⟩ := A
  obtain rfl : _ = none := hh
  refine wpAny_call ?_
  refine' code_inC (news := []) X T st ?kN ?k6 ?k7 ?k8 ?k9 ?kB ?kD ?_ ?c2 ?c3 ?c4
  case kN => exact led0
  k_extra "my_inC"
  intro g L h₁ tk cells hg F N Y X' T' lL lN
  k_cells Y
  try simp only [List.cons_append, List.nil_append] at N
  obtain ⟨as, hl, hR⟩ := hH
  have hk' : g.IsList kl vs.toArray := isList_base hg hk (by simp)
  have hl' : g.IsList hid (as.map Value.ref).toArray := isList_base hg (stays_list kb hl) (by simp)
  have kg : ∀ b o, hb.get? b = some o → g.get? b = some o := fun b o e => base_get hg (kb b o e) (by simp)
  clear hl hk st
  dsimp only
  try k_fold
  k_steps
  rename Fr _ _ _ _ => F'
  rename News _ _ _ _ => N'
  refine' MyIter.list rfl rfl rfl F' N' (stays_list F'.keep hl') (fun i m n => n = _ ∧ ∀ j f, j < i → H[j]? = some f → sub f ns = false) ⟨rfl, ?h0⟩ (.inl ?hf) ?hL ?step ?hR
  case h0 => intro j f hj; omega
  case hf => obtain ⟨o, ho, _⟩ := hl'; exact ⟨o, ho⟩
  case hL => intro q; obtain ⟨o, ho, _⟩ := hl'; exact absurd (Heap.lt_size ho) (by have := F'.above; rw [q]; exact Nat.not_lt.mpr this)
  case step =>
    rintro i v m₁ _ h₂ tk₂ I oI hv ⟨rfl, hJ⟩ F₁ N₁ nI lI
    simp only [List.getElem?_toArray, List.getElem?_map, Option.map_eq_some_iff] at hv
    obtain ⟨a, ha, rfl⟩ := hv
    obtain ⟨vs₁, ns₁, hH, hlb, hia⟩ := hR.at i a ha
    have hla : g.IsList a vs₁.toArray := stays_list kg hlb
    k_lt lI
    have hrow : ns₁.length ≤ 100 := hHr ns₁ (List.mem_of_getElem? hH)
    k_steps
    rename Fr _ _ _ _ => F₂
    rename News _ _ _ _ => N₂
    refine LCt.CompSrcT.base rfl F₂ N₂ hla (by simp [hia.length, sizeLine_eq]; omega) fun g' => filter_rest (fun x => !ns.contains x) hia (Or.inl hla) rfl (fun _ => rfl) rfl (fun ys hy => ?fin) (fun i' n' t' ys I' oI' C oC D m₂ h₃ tk₃ E' hn hC hx F₃ N₃ => ?cond)
    case cond =>
      k_steps
      rw [List.any_beq'']
    case fin =>
      k_steps
      case _ =>
        rename News _ _ _ _ => N'
        rename Fr _ _ _ _ => F'
        rename _ = true => hT
        exact hret _ _ _ (own_of hg F') (.inr ⟨a, vs₁, ns₁, rfl, named_at hJ hH (sub_of_nil (of_decide_eq_true hT)), hlb, hia⟩)
      case _ =>
        rename News _ _ _ _ => N'
        rename Fr _ _ _ _ => F'
        rename _ = false => hT
        refine LoopEnd.next _ F' (News.cut N' (by k_extra "my_sub")) nI ⟨rfl, fun j f hj hf => ?_⟩
        by_cases q : j = i
        · subst q; rw [hH] at hf; cases hf; exact sub_not_nil (of_decide_eq_false hT)
        · exact hJ j f (by omega) hf
  case hR =>
    rintro h₂ tk₂ m₁ _ F₁ N₁ ⟨rfl, hJ⟩
    k_steps
    rename Fr _ _ _ _ => F'
    dsimp only
    refine hret _ _ _ (own_of hg F') (.inl ⟨rfl, named_no fun j f hf => hJ j f ?_ hf⟩)
    have := hR.length
    have := (List.getElem?_eq_some_iff.mp hf).1
    simp; omega

theorem named_len {H : List (List Int)} {ns f : List Int} {vs : List Value} (hHr : ∀ f ∈ H, f.length ≤ 100) (e : namedV H ns = some f) (hi : IntsAre vs f) : vs.toArray.size ≤ 100 := by
  rw [List.size_toArray, hi.length]; exact hHr f (List.mem_of_find?_eq_some e)
theorem named_len2 {H : List (List Int)} {ns f : List Int} (hHr : ∀ f ∈ H, f.length ≤ 100) (e : namedV H ns = some f) : f.length ≤ 100 := hHr f (List.mem_of_find?_eq_some e)
theorem named_K {A : Around} {s : Shared} {g : Heap} {L hid kl : Addr} {m₀ : Str → Option Value} {news : List (Addr × Obj)} {H : List (List Int)} {vs : List Value} {ns : List Int} {Q E : Value → Shared → Prop}
   (F : Fr g L s.heap m₀) (N : News g L s.heap news) (X : (hd.heap_1 w.params).In g) (T : Top p loose mean mg mb g) (hh : A.handled = none) (hd : A.depth + 10 < recursionLimit) (hu : A.units + 200 < cLine)
   (hH : HidAt g hid H) (hk : s.heap.IsList kl vs.toArray) (hi : IntsAre vs ns) (hHr : ∀ f ∈ H, f.length ≤ 100)
   (hret : ∀ h' tk' r, Fr g L h' m₀ → News g L h' news → NamedOut g H ns r → Q r { s with heap := h', toks := tk' }) :
   wpAny (model prog w) A (call (.ref 228) [.ref hid, .ref kl]) Q E s :=
  named X T F.keep hh hd hu F.keep hH hk hi hHr fun h' tk' r x o => let ⟨F', N'⟩ := own0 F N x; hret h' tk' r F' N' o
end
end
section
theorem lines_Asker : True := by
  w_top off
  k_with_none
  (k_with "my_pj" => (with_reducible first | assumption | exact Mine.pj1l (by assumption) | exact Mine.pj1r (by assumption) | exact Mine.pj2l (by assumption) | exact Mine.pj2r (by assumption) | exact Mine.pj3l (by assumption) | exact Mine.pj3r (by assumption) | exact Mine.pj4l (by assumption) | exact Mine.pj4r (by assumption) | exact Mine.pj5l (by assumption) | exact Mine.pj5r (by assumption) | exact Mine.pj6l (by assumption) | exact Mine.pj6r (by assumption) | exact Mine.pj7l (by assumption) | exact Mine.pj7r (by assumption) | exact Mine.pj8l (by assumption) | exact Mine.pj8r (by assumption) | exact Mine.pj9l (by assumption) | exact Mine.pj9r (by assumption) | exact Mine.pj10l (by assumption) | exact Mine.pj10r (by assumption) | exact Mine.pj11l (by assumption) | exact Mine.pj11r (by assumption) | exact Mine.pj12l (by assumption) | exact Mine.pj12r (by assumption) | exact Mine.pj13l (by assumption) | exact Mine.pj13r (by assumption) | exact Mine.pj14l (by assumption) | exact Mine.pj14r (by assumption) | exact Mine.pj15l (by assumption) | exact Mine.pj15r (by assumption) | exact Mine.pj16l (by assumption) | exact Mine.pj16r (by assumption)))
  (k_with "my_ne" => (refine neN ?_; (try dsimp only); first | with_reducible assumption | exact Ne.symm (by with_reducible assumption) | (refine Mine.neOr ?_; simp only [*, true_or, or_true, ne_eq, not_false_eq_true]; done) | (refine Ne.symm (Mine.neOr ?_); simp only [*, true_or, or_true, ne_eq, not_false_eq_true]; done) | omega))
  (k_with "my_room" => first | exact room1 (by with_reducible assumption) rfl rfl | exact room0 (by with_reducible assumption) rfl rfl | ((simp only [Around.deeper, Around.in1, recursionLimit, cLine] at *); omega))
  (k_with "my_fill" => ((have hfill : (fun (_ : OpenLaw) (_ : Params → Frag) => True) PySem.Challenge.rw_rg0207_01 Mine.hd.heap_1 := by k_fill; trivial); clear hfill))
  (k_with "my_in" => ((case k6 => k_is); (case k7 => k_is); (case k8 => first | exact Nat.lt_of_le_of_lt (Nat.le_add_right _ _) (by with_reducible assumption) | (simp only [recursionLimit] at *; omega)); (case k9 => first | exact BindsTo.of_eq rfl | exact binds_K (Frag.In.keeps (by assumption) (by assumption)) rfl (by k_is) rfl rfl rfl); (case c5 => decide); (case kB => exact locs rfl); (case c2 => exact rfl); (case c3 => exact rfl); (case c4 => exact rfl)))
  (k_with "my_sub" => repeat' (first | exact List.forall_mem_nil _ | refine List.forall_mem_cons.mpr ⟨?_, ?_⟩ | k_mem))
  (k_with "exec For Name Call cons nil" => (k_here; k_dflt (refine my_For ?_)))
  (k_with "exec For Name Name cons nil" => (k_here; k_dflt (refine my_For ?_)))
  (k_with "newTuple" => (k_here; k_dflt (refine my_newTuple (by k_asm) (by k_asm) ?_ (by size_fits); k_whole); intro l' h' F' N' l1; (try k_lt l1); (try k_sweep)))
  (k_with "call type:range" => (k_here; (with_reducible rename Fr _ _ _ _ => F'); (with_reducible rename News _ _ _ _ => N'); first | (with_unfolding_all refine range1_rows F' N' ?_; intro h' tk' t' u' v' R' F' N' k'; (try k_sweep)) | (with_unfolding_all refine range2_rows F' N' ?_; intro h' tk' t' u' v' R' F' N' k'; (try k_sweep))))
  (k_with "my_inC" => ((case k6 => k_is); (case k7 => k_is); (case k8 => first | exact Nat.lt_of_le_of_lt (Nat.le_add_right _ _) (by with_reducible assumption) | (simp only [recursionLimit] at *; omega)); (case k9 => exact BindsTo.of_eq rfl); (case kB => exact rfl); (case kD => decide +kernel); (case c2 => exact rfl); (case c3 => exact rfl); (case c4 => exact rfl)))
  (k_with "eval Name" => (k_here; kc_free; k_dflt (refine name_free (by k_asm) (by rfl) (by assumption) (by assumption) ?_ (by rfl) (by rfl); k_whole)))
  (k_with "last call builtin:len" => (k_here; k_dflt (refine call_len_list (by is_list) (by ((try simp only [Array.size_push, List.size_toArray]); omega)) ?_; k_whole); (try simp only [Array.size_push])))
  (k_with "my_ints" => first | assumption | l_ints | l_intsW)
  (k_with "my_fit" => ((try simp only [sizeLine_eq, List.length_append, List.length_cons, List.length_nil, List.length_reverse, List.length_map, List.size_toArray, Array.size_push]); omega))
  (k_with "binaryOp Add ref ref" => (k_here; (with_reducible show wpAny _ _ (binaryOp _ (Value.ref _) (Value.ref _)) _ _ _); k_dflt (refine my_addL (by k_asm) (by k_asm) (by kmk_list) (by kmk_list) (by k_extra "my_ints") (by k_extra "my_ints") ?_ (by k_extra "my_fit"); k_whole); intro D' h' F' N' l1 hI'; (try k_lt l1); (try k_sweep)))
  (k_with "exec While Compare cons nil" => (k_here; k_dflt (refine my_While ?_)))
  (k_with "my_len" => ((try simp only [Around.deeper, Around.in1, recursionLimit, cLine, List.length_append, List.length_take, List.length_drop, List.length_cons, List.length_nil] at *); omega))
  (k_with "eval ListComp" => (k_here; first | (lct_look; k_dflt (refine LCt.ListComp_T (F₀ := by k_asm) (by with_unfolding_all rfl) (by decide) (by rfl) (by decide) (by rfl) ?_)) | k_dflt (refine LCg.ListComp_U (F₀ := by k_asm) (by with_unfolding_all rfl) (by decide) (by rfl) (by decide) (by rfl) ?_)))
  (k_with "exec Assign cons ListComp" => (k_here; first | (lct_look; k_dflt (refine LCt.Assign_ListComp_T (F₀ := by k_asm) (by rfl) (by with_unfolding_all rfl) (by with_unfolding_all rfl) (by decide) (by rfl) (by decide) (by rfl) (by rfl) (by rfl) ?_)) | k_dflt (refine LCg.Assign_ListComp_U (F₀ := by k_asm) (by rfl) (by with_unfolding_all rfl) (by with_unfolding_all rfl) (by decide) (by rfl) (by decide) (by rfl) (by rfl) (by rfl) ?_)))
  trivial
/-- the inner def's parts, read off the written part -/
def askParts (K : Frag) : Option (Str × Arguments × List Stmt × Scope × Pos) := match K.lookup 235 with
  | some ⟨_, _, .func fd, _⟩ => (match fd.body with
    | .stmts (.FunctionDef name args body _ _ _ scope _ _ pos :: _) => some (name, args, body, scope, pos)
    | _ => none)
  | _ => none
theorem ask_have {α : Type} {a : Option α} {lit : α} {G : Prop} (el : a = some lit) (k : a = some lit → G) : G := k el
abbrev askQual : Str := Str.ofString "_law_asker" ++ ".<locals>." ++ Str.ofString "_law_ask"
/-- the table of _law_asker's code, once the inner code was made -/
def TabAt (w : World) (o : Obj) (c' : Addr) : Prop := ∃ (name : Str) (params : Arguments) (body : List Stmt) (scope : Scope) (pos : Pos), askParts (Mine.hd.heap_1 w.params) = some (name, params, body, scope, pos) ∧ o = tabObj #[rawInt pos.line, rawInt pos.col, .ref c']
/-- the asker's answer: a function over three cells -/
inductive AskFn (w : World) (h : Heap) (fn hid drk hrd : Addr) : Prop
  | intro {name : Str} {params : Arguments} {body : List Stmt} {scope : Scope} {pos : Pos} {c1 c2 c3 c' : Addr} {o1 o2 o3 : Obj} {doc pm ctv : Value} (e : askParts (Mine.hd.heap_1 w.params) = some (name, params, body, scope, pos))
      (hf : h.get? fn = some (fnMade name askQual params body scope [(Str.ofString "hidden", c1), (Str.ofString "heard", c3), (Str.ofString "dark", c2)] doc pm c' ctv)) (hr : h.CodeRec (.ref c') askQual)
      (h1 : h.get? c1 = some o1) (d1 : o1.data = .cell (some (.ref hid))) (h2 : h.get? c2 = some o2) (d2 : o2.data = .cell (some (.ref drk))) (h3 : h.get? c3 = some o3) (d3 : o3.data = .cell (some (.ref hrd))) : AskFn w h fn hid drk hrd
/-- a new asker: all that it is of, new but for its code -/
inductive AskNew (w : World) (h₁ h : Heap) (fn hid drk hrd c' : Addr) : Prop
  | intro {name : Str} {params : Arguments} {body : List Stmt} {scope : Scope} {pos : Pos} {c1 c2 c3 : Addr} {o1 o2 o3 : Obj} {doc pm ctv : Value} (e : askParts (Mine.hd.heap_1 w.params) = some (name, params, body, scope, pos))
      (hf : h.get? fn = some (fnMade name askQual params body scope [(Str.ofString "hidden", c1), (Str.ofString "heard", c3), (Str.ofString "dark", c2)] doc pm c' ctv)) (nf : h₁.get? fn = none)
      (h1 : h.get? c1 = some o1) (d1 : o1.data = .cell (some (.ref hid))) (n1 : h₁.get? c1 = none) (h2 : h.get? c2 = some o2) (d2 : o2.data = .cell (some (.ref drk))) (n2 : h₁.get? c2 = none) (h3 : h.get? c3 = some o3) (d3 : o3.data = .cell (some (.ref hrd))) (n3 : h₁.get? c3 = none) : AskNew w h₁ h fn hid drk hrd c'
theorem tab_ne {h : Heap} {c : Value} {i j : Int} {t : Tok} {c₀ : Addr} {o : Obj} {vs : Array Value} (ht : h.get? 230 = some (tabObj #[rawInt i, rawInt j, c])) (e : h.get? c₀ = some o) (hd : o.data = .fields vs) (hv : vs[1]? = some (.str askQual t)) : c₀ ≠ 230 := fun q => by
  rw [q, ht] at e
  cases e
  cases hd
  cases hv
theorem tab_apart {h : Heap} {v : Array Value} {a : Addr} {o : Obj} (ht : h.get? 230 = some (tabObj v)) (e : h.get? a = some o) (n : ∀ vs, o.data ≠ .fields vs) : a ≠ 230 := fun q => by
  rw [q, ht] at e; cases e; exact n _ rfl
theorem codeRec_newsF {g h : Heap} {L c : Addr} {news : List (Addr × Obj)} {o : Obj} {vs : Array Value} {t : Tok} {qual : Str} (N : News g L h news) (hm : (c, o) ∈ news) (hd : o.data = .fields vs) (hv : vs[1]? = some (.str qual t)) : h.CodeRec (.ref c) qual ∧ g.get? c = none ∧ h.get? c = some o :=
  ⟨codeRec_news N hm hd hv, (N _ hm).2.2, (N _ hm).1⟩
section
variable {prog : Program} {w : World} {h₀ : Heap} {p : Program} {loose : List Str} {mean : ExcName → Option Value} {mg mb : Str → Option Value}
theorem asker {A : Around} {s : Shared} {hid drk hrd : Addr} {to : Obj} {Q E : Value → Shared → Prop}
   (X : (hd.heap_1 w.params).In h₀) (T : Top p loose mean mg mb h₀) (C : CodeHd h₀ 234 230) (st : h₀.StaysIn s.heap) (hh : A.handled = none) (hd : A.depth + 10 < recursionLimit) (hu : A.units + 200 < cLine)
   (ht : s.heap.get? 230 = some to) (hto : to = tabObj #[] ∨ ∃ c', TabAt w to c' ∧ s.heap.CodeRec (.ref c') askQual) (ht0 : h₀.get? 230 = none)
   (hret : ∀ h' tk' r to' c', Own [230] s.heap h' → h'.get? 230 = some to' → TabAt w to' c' → h'.CodeRec (.ref c') askQual → ((to = tabObj #[] ∧ s.heap.get? c' = none) ∨ to' = to) → AskNew w s.heap h' r hid drk hrd c' → Q (.ref r) { s with heap := h', toks := tk' }) :
   wpAny (model prog w) A (call (.ref 235) [.ref hid, .ref drk, .ref hrd]) Q E s := by
  k_extra "my_fill"
  refine' ask_have (a := askParts (Mine.hd.heap_1 w.params)) ?el ?k
  case el => with_unfolding_all rfl
  intro e'
  obtain ⟨_, dp, fr, gd, un⟩ := A
  obtain rfl : _ = none := hh
  refine wpAny_call ?_
  refine' code_inC (news := [(230, to)]) X T st ?kN ?k6 ?k7 ?k8 ?k9 ?kB ?kD ?_ ?c2 ?c3 ?c4
  case kN => exact led1 ht ht0 led0
  k_extra "my_inC"
  intro g L h₁ tk cells hg F N Y X' T' lL lN
  obtain ⟨o1, o2, o3, rfl, d1, d2, d3⟩ := CellsAre.three Y
  replace d1 : o1.data = .cell (some (.ref hrd)) := d1.trans (by with_unfolding_all rfl)
  replace d2 : o2.data = .cell (some (.ref drk)) := d2.trans (by with_unfolding_all rfl)
  replace d3 : o3.data = .cell (some (.ref hid)) := d3.trans (by with_unfolding_all rfl)
  try simp only [List.cons_append, List.nil_append] at N
  dsimp only
  try k_fold
  k_lt lN
  have C' : CodeHd g 234 230 := C.keeps fun b o e => by rw [hg]; exact hideAll_get _ (st b o e) (by rw [List.map_cons, List.map_nil, List.mem_singleton]; intro q; rw [q, ht0] at e; cases e)
  have nw : ∀ {a : Addr}, g.get? a = none → a ≠ 230 → s.heap.get? a = none := fun e n => fresh_of hg e (by rw [List.map_cons, List.map_nil, List.mem_singleton]; exact n)
  rcases hto with hto | ⟨c₀', ⟨name₀, params₀, body₀, scope₀, pos₀, e₀, ho₀⟩, hr₀⟩
  · subst hto
    k_steps
    rename Fr _ _ _ _ => F'
    rename News _ _ _ _ => N'
    dsimp only
    have r1 := N' (230, _) (by k_mem)
    have rf := N' _ (.head _)
    rename (_ : Obj).data = .fields _ => hc1
    rename (_ : Array Value)[1]? = some _ => hc2
    obtain ⟨hr, hcg, hch⟩ := codeRec_newsF (qual := askQual) N' (by k_mem) hc1 hc2
    have x1 := N' (_, o1) (by k_mem)
    have x2 := N' (_, o2) (by k_mem)
    have x3 := N' (_, o3) (by k_mem)
    refine hret _ _ _ _ _ (own_of hg F') r1.1 ⟨_, _, _, _, _, e', rfl⟩ hr (.inl ⟨rfl, ?_⟩) (.intro e' rf.1 (nw rf.2.2 (tab_apart r1.1 rf.1 fun vs q => by cases q)) x3.1 d3 (nw x3.2.2 (tab_apart r1.1 x3.1 fun vs q => by rw [d3] at q; cases q)) x2.1 d2 (nw x2.2.2 (tab_apart r1.1 x2.1 fun vs q => by rw [d2] at q; cases q)) x1.1 d1 (nw x1.2.2 (tab_apart r1.1 x1.1 fun vs q => by rw [d1] at q; cases q)))
    exact nw hcg (tab_ne r1.1 hch hc1 hc2)
  · rw [e'] at e₀
    cases e₀
    subst ho₀
    have hr₀' := hr₀
    obtain ⟨c₀, oc₀, vs₀, t₀, q₀, hc₀, hd₀, hv₀⟩ := hr₀
    cases q₀
    k_steps
    rename Fr _ _ _ _ => F'
    rename News _ _ _ _ => N'
    dsimp only
    have r1 := N' (230, _) (by k_mem)
    have rf := N' _ (.head _)
    have hr : Heap.CodeRec _ (.ref _) askQual := ⟨_, _, _, _, rfl, own_of hg F' _ _ hc₀ (by rw [List.map_cons, List.map_nil, List.mem_singleton]; exact tab_ne ht hc₀ hd₀ hv₀), hd₀, hv₀⟩
    have x1 := N' (_, o1) (by k_mem)
    have x2 := N' (_, o2) (by k_mem)
    have x3 := N' (_, o3) (by k_mem)
    exact hret _ _ _ _ _ (own_of hg F') r1.1 ⟨_, _, _, _, _, e', rfl⟩ hr (.inr rfl) (.intro e' rf.1 (nw rf.2.2 (tab_apart r1.1 rf.1 fun vs q => by cases q)) x3.1 d3 (nw x3.2.2 (tab_apart r1.1 x3.1 fun vs q => by rw [d3] at q; cases q)) x2.1 d2 (nw x2.2.2 (tab_apart r1.1 x2.1 fun vs q => by rw [d2] at q; cases q)) x1.1 d1 (nw x1.2.2 (tab_apart r1.1 x1.1 fun vs q => by rw [d1] at q; cases q)))
end
end
section
theorem lines_Ask : True := by
  w_top off
  k_with_none
  (k_with "my_pj" => (with_reducible first | assumption | exact Mine.pj1l (by assumption) | exact Mine.pj1r (by assumption) | exact Mine.pj2l (by assumption) | exact Mine.pj2r (by assumption) | exact Mine.pj3l (by assumption) | exact Mine.pj3r (by assumption) | exact Mine.pj4l (by assumption) | exact Mine.pj4r (by assumption) | exact Mine.pj5l (by assumption) | exact Mine.pj5r (by assumption) | exact Mine.pj6l (by assumption) | exact Mine.pj6r (by assumption) | exact Mine.pj7l (by assumption) | exact Mine.pj7r (by assumption) | exact Mine.pj8l (by assumption) | exact Mine.pj8r (by assumption) | exact Mine.pj9l (by assumption) | exact Mine.pj9r (by assumption) | exact Mine.pj10l (by assumption) | exact Mine.pj10r (by assumption) | exact Mine.pj11l (by assumption) | exact Mine.pj11r (by assumption) | exact Mine.pj12l (by assumption) | exact Mine.pj12r (by assumption) | exact Mine.pj13l (by assumption) | exact Mine.pj13r (by assumption) | exact Mine.pj14l (by assumption) | exact Mine.pj14r (by assumption) | exact Mine.pj15l (by assumption) | exact Mine.pj15r (by assumption) | exact Mine.pj16l (by assumption) | exact Mine.pj16r (by assumption)))
  (k_with "my_ne" => (refine neN ?_; (try dsimp only); first | with_reducible assumption | exact Ne.symm (by with_reducible assumption) | (refine Mine.neOr ?_; simp only [*, true_or, or_true, ne_eq, not_false_eq_true]; done) | (refine Ne.symm (Mine.neOr ?_); simp only [*, true_or, or_true, ne_eq, not_false_eq_true]; done) | omega))
  (k_with "my_room" => first | exact room1 (by with_reducible assumption) rfl rfl | exact room0 (by with_reducible assumption) rfl rfl | ((simp only [Around.deeper, Around.in1, recursionLimit, cLine] at *); omega))
  (k_with "my_fill" => ((have hfill : (fun (_ : OpenLaw) (_ : Params → Frag) => True) PySem.Challenge.rw_rg0207_01 Mine.hd.heap_1 := by k_fill; trivial); clear hfill))
  (k_with "my_in" => ((case k6 => k_is); (case k7 => k_is); (case k8 => first | exact Nat.lt_of_le_of_lt (Nat.le_add_right _ _) (by with_reducible assumption) | (simp only [recursionLimit] at *; omega)); (case k9 => first | exact BindsTo.of_eq rfl | exact binds_K (Frag.In.keeps (by assumption) (by assumption)) rfl (by k_is) rfl rfl rfl); (case c5 => decide); (case kB => exact locs rfl); (case c2 => exact rfl); (case c3 => exact rfl); (case c4 => exact rfl)))
  (k_with "my_sub" => repeat' (first | exact List.forall_mem_nil _ | refine List.forall_mem_cons.mpr ⟨?_, ?_⟩ | k_mem))
  (k_with "exec For Name Call cons nil" => (k_here; k_dflt (refine my_For ?_)))
  (k_with "exec For Name Name cons nil" => (k_here; k_dflt (refine my_For ?_)))
  (k_with "newTuple" => (k_here; k_dflt (refine my_newTuple (by k_asm) (by k_asm) ?_ (by size_fits); k_whole); intro l' h' F' N' l1; (try k_lt l1); (try k_sweep)))
  (k_with "call type:range" => (k_here; (with_reducible rename Fr _ _ _ _ => F'); (with_reducible rename News _ _ _ _ => N'); first | (with_unfolding_all refine range1_rows F' N' ?_; intro h' tk' t' u' v' R' F' N' k'; (try k_sweep)) | (with_unfolding_all refine range2_rows F' N' ?_; intro h' tk' t' u' v' R' F' N' k'; (try k_sweep))))
  (k_with "my_inC" => ((case k6 => k_is); (case k7 => k_is); (case k8 => first | exact Nat.lt_of_le_of_lt (Nat.le_add_right _ _) (by with_reducible assumption) | (simp only [recursionLimit] at *; omega)); (case k9 => exact BindsTo.of_eq rfl); (case kB => exact rfl); (case kD => decide +kernel); (case c2 => exact rfl); (case c3 => exact rfl); (case c4 => exact rfl)))
  (k_with "eval Name" => (k_here; kc_free; k_dflt (refine name_free (by k_asm) (by rfl) (by assumption) (by assumption) ?_ (by rfl) (by rfl); k_whole)))
  (k_with "last call builtin:len" => (k_here; k_dflt (refine call_len_list (by is_list) (by ((try simp only [Array.size_push, List.size_toArray]); omega)) ?_; k_whole); (try simp only [Array.size_push])))
  (k_with "my_ints" => first | assumption | l_ints | l_intsW)
  (k_with "my_fit" => ((try simp only [sizeLine_eq, List.length_append, List.length_cons, List.length_nil, List.length_reverse, List.length_map, List.size_toArray, Array.size_push]); omega))
  (k_with "binaryOp Add ref ref" => (k_here; (with_reducible show wpAny _ _ (binaryOp _ (Value.ref _) (Value.ref _)) _ _ _); k_dflt (refine my_addL (by k_asm) (by k_asm) (by kmk_list) (by kmk_list) (by k_extra "my_ints") (by k_extra "my_ints") ?_ (by k_extra "my_fit"); k_whole); intro D' h' F' N' l1 hI'; (try k_lt l1); (try k_sweep)))
  (k_with "exec While Compare cons nil" => (k_here; k_dflt (refine my_While ?_)))
  (k_with "my_len" => ((try simp only [Around.deeper, Around.in1, recursionLimit, cLine, List.length_append, List.length_take, List.length_drop, List.length_cons, List.length_nil] at *); omega))
  (k_with "eval ListComp" => (k_here; first | (lct_look; k_dflt (refine LCt.ListComp_T (F₀ := by k_asm) (by with_unfolding_all rfl) (by decide) (by rfl) (by decide) (by rfl) ?_)) | k_dflt (refine LCg.ListComp_U (F₀ := by k_asm) (by with_unfolding_all rfl) (by decide) (by rfl) (by decide) (by rfl) ?_)))
  (k_with "exec Assign cons ListComp" => (k_here; first | (lct_look; k_dflt (refine LCt.Assign_ListComp_T (F₀ := by k_asm) (by rfl) (by with_unfolding_all rfl) (by with_unfolding_all rfl) (by decide) (by rfl) (by decide) (by rfl) (by rfl) (by rfl) ?_)) | k_dflt (refine LCg.Assign_ListComp_U (F₀ := by k_asm) (by rfl) (by with_unfolding_all rfl) (by with_unfolding_all rfl) (by decide) (by rfl) (by decide) (by rfl) (by rfl) (by rfl) ?_)))
  (k_with "call ref" => (k_here; (with_reducible show wpAny _ _ (call (Value.ref 228) _) _ _ _); k_dflt (refine named_K (by k_asm) (by k_asm) (by k_asm) (by k_asm) (by rfl) (by k_extra "my_room") (by k_extra "my_room") (by assumption) (by is_list) (by first | assumption | l_ints | l_intsW) (by assumption) ?_; k_whole); intro h' tk' rK F' N' hNm; (try k_sweep); (rcases hNm with ⟨hr', eNm⟩ | ⟨aN, vsN, fN, hr', eNm, hlN, hiN⟩ <;> subst hr'); all_goals (try (have hzN := named_len (by assumption) eNm hiN; have hfN := named_len2 (by assumption) eNm))))
  trivial
def askV (H : List (List Int)) (dark : List Int) (cnt : Nat) (ks : List Int) : Str × List Int :=
  if dark.contains (cnt : Int) then (Str.ofString "unknown", []) else match namedV H ks with
  | none => (Str.ofString "sat", [])
  | some f => (Str.ofString "unsat", 8 :: f.reverse)
theorem ask_idx (dark : List Int) (k : Nat) : (dark.any fun x => x == (((k + 1 : Nat) : Int) - 1)) = dark.contains (k : Int) := by
  rw [← List.any_beq, show (((k + 1 : Nat) : Int) - 1) = (k : Int) from by omega]; congr 1; funext x; exact Bool.beq_comm
theorem AskFn.keep {w : World} {h h' : Heap} {fn hid drk hrd : Addr} (k : ∀ b o, h.get? b = some o → h'.get? b = some o) (x : AskFn w h fn hid drk hrd) : AskFn w h' fn hid drk hrd := by
  cases x with
  | intro e hf hr h1 d1 h2 d2 h3 d3 => exact .intro e (k _ _ hf) (hr.keeps k) (k _ _ h1) d1 (k _ _ h2) d2 (k _ _ h3) d3
/-- all that an asking reads; none of it turns -/
structure AskEnv (w : World) (h : Heap) (fn hid drk hrd : Addr) (H : List (List Int)) (dark : List Int) : Prop where
  fn : AskFn w h fn hid drk hrd
  hid : HidAt h hid H
  row : ∀ f ∈ H, f.length ≤ 100
  drk : ∃ ds : List Value, h.IsList drk ds.toArray ∧ IntsAre ds dark
theorem AskEnv.keep {w : World} {h h' : Heap} {fn hid drk hrd : Addr} {H : List (List Int)} {dark : List Int} (k : ∀ b o, h.get? b = some o → h'.get? b = some o) (x : AskEnv w h fn hid drk hrd H dark) : AskEnv w h' fn hid drk hrd H dark :=
  ⟨x.fn.keep k, x.hid.keep k, x.row, let ⟨ds, a, b⟩ := x.drk; ⟨ds, stays_list k a, b⟩⟩
theorem led_keep {h₀ h : Heap} {news : List (Addr × Obj)} (st : h₀.StaysIn h) (N : Led h₀ h news) : ∀ b o, h₀.get? b = some o → (hideAll h (news.map (·.1))).get? b = some o := fun b o e => hideAll_get _ (st b o e) fun q => by
  obtain ⟨p, hp, rfl⟩ := List.mem_map.mp q
  rw [(N p hp).2] at e; cases e
theorem AskEnv.fnAt {w : World} {g h : Heap} {L fn hid drk hrd : Addr} {m : Str → Option Value} {H : List (List Int)} {dark : List Int} (x : AskEnv w g fn hid drk hrd H dark) (F : Fr g L h m) : FnAt fn h := by
  cases x.fn with
  | intro e hf hr h1 d1 h2 d2 h3 d3 => exact ⟨_, _, _, _, F.keep _ _ hf⟩
section
variable {prog : Program} {w : World} {h₀ : Heap} {p : Program} {loose : List Str} {mean : ExcName → Option Value} {mg mb : Str → Option Value}
theorem ask {A : Around} {s : Shared} {fn hid drk hrd kl : Addr} {H : List (List Int)} {its : Array Value} {n nk : Nat} {vs : List Value} {ns dark : List Int} {Q E : Value → Shared → Prop}
   (X : (hd.heap_1 w.params).In h₀) (T : Top p loose mean mg mb h₀) (st : h₀.StaysIn s.heap) (hh : A.handled = none) (hd : A.depth + 20 < recursionLimit) (hu : A.units + 400 < cLine)
   (env : AskEnv w h₀ fn hid drk hrd H dark) (hhr : s.heap.get? hrd = some (W.listOf its n)) (hsz : its.size ≤ 2000) (hhr0 : h₀.get? hrd = none) (hk : s.heap.get? kl = some (W.listOf vs.toArray nk)) (hi : IntsAre vs ns) (hkl0 : h₀.get? kl = none) (hlen : ns.length ≤ 100) (hne : @Ne Nat kl hrd)
   (hret : ∀ h' tk' r c l t us nr nc nl, Own [hrd, kl] s.heap h' → h'.get? hrd = some (W.listOf (its.push (.ref c)) (n + 1)) → s.heap.get? c = none → h'.get? c = some (W.listOf vs.toArray nc) →
     s.heap.get? r = none → h'.get? r = some (tupOf #[.str (askV H dark its.size ns).1 t, .ref l] nr) → s.heap.get? l = none → h'.get? l = some (W.listOf us.toArray nl) → IntsAre us (askV H dark its.size ns).2 → Q (.ref r) { s with heap := h', toks := tk' }) :
   wpAny (model prog w) A (call (.ref fn) [.ref kl]) Q E s := by
  k_extra "my_fill"
  obtain ⟨_, dp, fr, gd, un⟩ := A
  obtain rfl : _ = none := hh
  have NL : Led h₀ s.heap [(hrd, W.listOf its n), (kl, W.listOf vs.toArray nk)] := led1 hhr hhr0 (led1 hk hkl0 led0)
  have KG := led_keep st NL
  have hf := env.fn.keep KG
  cases hf with
  | @intro name params body scope pos c1 c2 c3 c' o1 o2 o3 doc pm ctv e hfn hr b1 d1 b2 d2 b3 d3 =>
  refine' ask_have (a := askParts (Mine.hd.heap_1 w.params)) ?el ?k
  case el => with_unfolding_all rfl
  intro e'
  rw [e'] at e
  cases e
  refine wpAny_call ?_
  refine' code_inX (news := [(hrd, W.listOf its n), (kl, W.listOf vs.toArray nk)]) X T st NL (of_hideAll _ hfn) rfl (hr.keeps fun _ _ => of_hideAll _) ?k8 ?k9 ?kB ?_ ?c2 ?c3 ?c4 ?c5
  case k8 => simp only [recursionLimit] at *; omega
  case k9 => exact BindsTo.of_eq rfl
  case c5 => decide
  case kB => exact locs rfl
  case c2 => exact rfl
  case c3 => exact rfl
  case c4 => exact rfl
  intro g L h₁ hg F N X' T' lL lN
  k_lt lN
  have hvl : vs.toArray.size ≤ 100 := by rw [List.size_toArray, hi.length]; exact hlen
  rw [← hg] at b1 b2 b3 KG
  have hH' : HidAt g hid H := env.hid.keep KG
  have hHr := env.row
  obtain ⟨ds, hdk, hdi⟩ := env.drk
  have hdk' : g.IsList drk ds.toArray := stays_list KG hdk
  clear hfn hr
  dsimp only
  try k_fold
  k_steps
  all_goals (
    rename Fr _ _ _ _ => F'
    rename News _ _ _ _ => N'
    rename List.any _ _ = _ => hA
    rename namedV _ _ = _ => eNm
    rw [ask_idx] at hA
    have rr := N' _ (.head _)
    have rl := N' _ (.tail _ (.head _))
    have rh := N' (hrd, _) (by k_mem)
    have nf : ∀ {a : Addr}, g.get? a = none → @Ne Nat hrd a → @Ne Nat kl a → s.heap.get? a = none := fun e n1 n2 => fresh_of hg e (by rw [List.map_cons, List.map_cons, List.map_nil]; intro q; rcases List.mem_cons.mp q with q | q; exact n1 q.symm; exact n2 (List.mem_singleton.mp q).symm))
  · have rc := N' _ (.tail _ (.tail _ (.head _)))
    have eA : askV H dark its.size ns = (Str.ofString "unknown", []) := by rw [askV, if_pos hA]
    refine hret _ _ _ _ _ _ [] _ _ _ (own_of hg F') rh.1 (nf rc.2.2 (by omega) (by omega)) rc.1 (nf rr.2.2 (by omega) (by omega)) (by rw [eA]; exact rr.1) (nf rl.2.2 (by omega) (by omega)) rl.1 (by rw [eA]; exact .nil)
  · have rc := N' _ (.tail _ (.tail _ (.head _)))
    have eA : askV H dark its.size ns = (Str.ofString "sat", []) := by rw [askV, if_neg (by rw [hA]; decide), eNm]
    refine hret _ _ _ _ _ _ [] _ _ _ (own_of hg F') rh.1 (nf rc.2.2 (by omega) (by omega)) rc.1 (nf rr.2.2 (by omega) (by omega)) (by rw [eA]; exact rr.1) (nf rl.2.2 (by omega) (by omega)) rl.1 (by rw [eA]; exact .nil)
  · have rc := N' _ (.tail _ (.tail _ (.head _)))
    have eA : askV H dark its.size ns = (Str.ofString "unknown", []) := by rw [askV, if_pos hA]
    refine hret _ _ _ _ _ _ [] _ _ _ (own_of hg F') rh.1 (nf rc.2.2 (by omega) (by omega)) rc.1 (nf rr.2.2 (by omega) (by omega)) (by rw [eA]; exact rr.1) (nf rl.2.2 (by omega) (by omega)) rl.1 (by rw [eA]; exact .nil)
  · have rc := N' _ (.tail _ (.tail _ (.tail _ (.tail _ (.head _)))))
    rename IntsAre (_ ++ _) _ => hI9
    have eA := show askV H dark its.size ns = (Str.ofString "unsat", _) from by rw [askV, if_neg (by rw [hA]; decide), eNm]
    refine hret _ _ _ _ _ _ _ _ _ _ (own_of hg F') rh.1 (nf rc.2.2 (by omega) (by omega)) rc.1 (nf rr.2.2 (by omega) (by omega)) (by rw [eA]; exact rr.1) (nf rl.2.2 (by omega) (by omega)) rl.1 (by rw [eA]; exact hI9)

inductive AskRes (H : List (List Int)) (dark : List Int) (cnt : Nat) (ks : List Int) : Str → List Int → Prop
  | dark (h : dark.contains (cnt : Int) = true) : AskRes H dark cnt ks (Str.ofString "unknown") []
  | sat (h : dark.contains (cnt : Int) = false) (e : namedV H ks = none) : AskRes H dark cnt ks (Str.ofString "sat") []
  | unsat {f : List Int} (h : dark.contains (cnt : Int) = false) (e : namedV H ks = some f) : AskRes H dark cnt ks (Str.ofString "unsat") (8 :: f.reverse)
theorem askRes_of (H : List (List Int)) (dark : List Int) (cnt : Nat) (ks : List Int) : AskRes H dark cnt ks (askV H dark cnt ks).1 (askV H dark cnt ks).2 := by
  unfold askV
  cases q : dark.contains (cnt : Int) with
  | true => rw [if_pos rfl]; exact .dark q
  | false =>
    rw [if_neg (by decide)]
    cases e : namedV H ks with
    | none => exact .sat q e
    | some f => exact .unsat q e
theorem ask_K {A : Around} {s : Shared} {g : Heap} {L fn hid drk hrd kl : Addr} {m₀ : Str → Option Value} {H : List (List Int)} {its : Array Value} {n nk : Nat} {vs : List Value} {ns dark : List Int} {rest : List (Addr × Obj)} {gg : Obj → List (Addr × Obj)} {Q E : Value → Shared → Prop}
   (F : Fr g L s.heap m₀) (N : News g L s.heap ((kl, W.listOf vs.toArray nk) :: rest)) (X : (hd.heap_1 w.params).In g) (T : Top p loose mean mg mb g) (env : AskEnv w g fn hid drk hrd H dark) (U : UpdF hrd (W.listOf its n) rest gg) (hkr : ∀ p ∈ rest, p.1 ≠ kl)
   (hh : A.handled = none) (hd : A.depth + 20 < recursionLimit) (hu : A.units + 400 < cLine) (hsz : its.size ≤ 2000) (hi : IntsAre vs ns) (hlen : ns.length ≤ 100)
   (hret : ∀ h' tk' r c l t us nr nc nl ans sm, AskRes H dark its.size ns ans sm → Fr g L h' m₀ → News g L h' ((r, tupOf #[.str ans t, .ref l] nr) :: (l, W.listOf us.toArray nl) :: (c, W.listOf vs.toArray nc) :: gg (W.listOf (its.push (.ref c)) (n + 1))) →
     (∀ p ∈ rest, p.1 ≠ r) → (∀ p ∈ rest, p.1 ≠ l) → (∀ p ∈ rest, p.1 ≠ c) → IntsAre us sm → Q (.ref r) { s with heap := h', toks := tk' }) :
   wpAny (model prog w) A (call (.ref fn) [.ref kl]) Q E s := by
  obtain ⟨pre, post, rfl, hg, h1, h2⟩ := id U.split
  have hm := N (hrd, W.listOf its n) (.tail _ (List.mem_append_right _ (.head _)))
  have hk := N _ (.head _)
  have Nr : News g L s.heap (pre ++ (hrd, W.listOf its n) :: post) := fun p hp => N p (.tail _ hp)
  refine ask X T F.keep hh hd hu env hm.1 hsz hm.2.2 hk.1 hi hk.2.2 hlen (Ne.symm (hkr _ (List.mem_append_right _ (.head _)))) fun h' tk' r c l t us nr nc nl x e fc ec fr er fl el hI => ?_
  have F' : Fr g L h' m₀ := own_fr F x fun b q => by
    rcases List.mem_cons.mp q with rfl | q
    · exact ⟨hm.2.2, hm.2.1⟩
    · rw [List.mem_singleton.mp q]; exact ⟨hk.2.2, hk.2.1⟩
  have N' : News g L h' (gg (W.listOf (its.push (.ref c)) (n + 1))) := by
    rw [hg]
    intro p hp
    have other : ∀ q ∈ pre ++ post, h'.get? q.1 = some q.2 ∧ q.1 ≠ L ∧ g.get? q.1 = none := fun q hq => by
      have hq' : q ∈ pre ++ (hrd, W.listOf its n) :: post := (List.mem_append.mp hq).elim (List.mem_append_left _) fun z => List.mem_append_right _ (.tail _ z)
      refine ⟨x _ _ (Nr q hq').1 fun z => ?_, (Nr q hq').2⟩
      rcases List.mem_cons.mp z with z | z
      · exact (List.mem_append.mp hq).elim (fun y => h1 q y z) fun y => h2 q y z
      · exact hkr q hq' (List.mem_singleton.mp z)
    rcases List.mem_append.mp hp with hp | hp
    · exact other p (List.mem_append_left _ hp)
    · rcases List.mem_cons.mp hp with rfl | hp
      · exact ⟨e, hm.2⟩
      · exact other p (List.mem_append_right _ hp)
  exact hret h' tk' r c l t us nr nc nl _ _ (askRes_of ..) F' (fresh1 F fr (fresh1 F fl (fresh1 F fc N' ec) el) er) (fresh_ne Nr fr) (fresh_ne Nr fl) (fresh_ne Nr fc) hI
end
end
section
theorem lines_Enough : True := by
  w_top off
  k_with_none
  (k_with "my_pj" => (with_reducible first | assumption | exact Mine.pj1l (by assumption) | exact Mine.pj1r (by assumption) | exact Mine.pj2l (by assumption) | exact Mine.pj2r (by assumption) | exact Mine.pj3l (by assumption) | exact Mine.pj3r (by assumption) | exact Mine.pj4l (by assumption) | exact Mine.pj4r (by assumption) | exact Mine.pj5l (by assumption) | exact Mine.pj5r (by assumption) | exact Mine.pj6l (by assumption) | exact Mine.pj6r (by assumption) | exact Mine.pj7l (by assumption) | exact Mine.pj7r (by assumption) | exact Mine.pj8l (by assumption) | exact Mine.pj8r (by assumption) | exact Mine.pj9l (by assumption) | exact Mine.pj9r (by assumption) | exact Mine.pj10l (by assumption) | exact Mine.pj10r (by assumption) | exact Mine.pj11l (by assumption) | exact Mine.pj11r (by assumption) | exact Mine.pj12l (by assumption) | exact Mine.pj12r (by assumption) | exact Mine.pj13l (by assumption) | exact Mine.pj13r (by assumption) | exact Mine.pj14l (by assumption) | exact Mine.pj14r (by assumption) | exact Mine.pj15l (by assumption) | exact Mine.pj15r (by assumption) | exact Mine.pj16l (by assumption) | exact Mine.pj16r (by assumption)))
  (k_with "my_ne" => (refine neN ?_; (try dsimp only); first | with_reducible assumption | exact Ne.symm (by with_reducible assumption) | (refine Mine.neOr ?_; simp only [*, true_or, or_true, ne_eq, not_false_eq_true]; done) | (refine Ne.symm (Mine.neOr ?_); simp only [*, true_or, or_true, ne_eq, not_false_eq_true]; done) | omega))
  (k_with "my_room" => first | exact room1 (by with_reducible assumption) rfl rfl | exact room0 (by with_reducible assumption) rfl rfl | ((simp only [Around.deeper, Around.in1, recursionLimit, cLine] at *); omega))
  (k_with "my_fill" => ((have hfill : (fun (_ : OpenLaw) (_ : Params → Frag) => True) PySem.Challenge.rw_rg0207_01 Mine.hd.heap_1 := by k_fill; trivial); clear hfill))
  (k_with "my_in" => ((case k6 => k_is); (case k7 => k_is); (case k8 => first | exact Nat.lt_of_le_of_lt (Nat.le_add_right _ _) (by with_reducible assumption) | (simp only [recursionLimit] at *; omega)); (case k9 => first | exact BindsTo.of_eq rfl | exact binds_K (Frag.In.keeps (by assumption) (by assumption)) rfl (by k_is) rfl rfl rfl); (case c5 => decide); (case kB => exact locs rfl); (case c2 => exact rfl); (case c3 => exact rfl); (case c4 => exact rfl)))
  (k_with "my_sub" => repeat' (first | exact List.forall_mem_nil _ | refine List.forall_mem_cons.mpr ⟨?_, ?_⟩ | k_mem))
  (k_with "exec For Name Call cons nil" => (k_here; k_dflt (refine my_For ?_)))
  (k_with "exec For Name Name cons nil" => (k_here; k_dflt (refine my_For ?_)))
  (k_with "newTuple" => (k_here; k_dflt (refine my_newTuple (by k_asm) (by k_asm) ?_ (by size_fits); k_whole); intro l' h' F' N' l1; (try k_lt l1); (try k_sweep)))
  (k_with "call type:range" => (k_here; (with_reducible rename Fr _ _ _ _ => F'); (with_reducible rename News _ _ _ _ => N'); first | (with_unfolding_all refine range1_rows F' N' ?_; intro h' tk' t' u' v' R' F' N' k'; (try k_sweep)) | (with_unfolding_all refine range2_rows F' N' ?_; intro h' tk' t' u' v' R' F' N' k'; (try k_sweep))))
  (k_with "my_inC" => ((case k6 => k_is); (case k7 => k_is); (case k8 => first | exact Nat.lt_of_le_of_lt (Nat.le_add_right _ _) (by with_reducible assumption) | (simp only [recursionLimit] at *; omega)); (case k9 => exact BindsTo.of_eq rfl); (case kB => exact rfl); (case kD => decide +kernel); (case c2 => exact rfl); (case c3 => exact rfl); (case c4 => exact rfl)))
  (k_with "eval Name" => (k_here; kc_free; k_dflt (refine name_free (by k_asm) (by rfl) (by assumption) (by assumption) ?_ (by rfl) (by rfl); k_whole)))
  (k_with "last call builtin:len" => (k_here; k_dflt (refine call_len_list (by is_list) (by ((try simp only [Array.size_push, List.size_toArray]); omega)) ?_; k_whole); (try simp only [Array.size_push])))
  (k_with "my_ints" => first | assumption | l_ints | l_intsW)
  (k_with "my_fit" => ((try simp only [sizeLine_eq, List.length_append, List.length_cons, List.length_nil, List.length_reverse, List.length_map, List.size_toArray, Array.size_push]); omega))
  (k_with "binaryOp Add ref ref" => (k_here; (with_reducible show wpAny _ _ (binaryOp _ (Value.ref _) (Value.ref _)) _ _ _); k_dflt (refine my_addL (by k_asm) (by k_asm) (by kmk_list) (by kmk_list) (by k_extra "my_ints") (by k_extra "my_ints") ?_ (by k_extra "my_fit"); k_whole); intro D' h' F' N' l1 hI'; (try k_lt l1); (try k_sweep)))
  (k_with "exec While Compare cons nil" => (k_here; k_dflt (refine my_While ?_)))
  (k_with "my_len" => ((try simp only [Around.deeper, Around.in1, recursionLimit, cLine, List.length_append, List.length_take, List.length_drop, List.length_cons, List.length_nil] at *); omega))
  (k_with "eval ListComp" => (k_here; first | (lct_look; k_dflt (refine LCt.ListComp_T (F₀ := by k_asm) (by with_unfolding_all rfl) (by decide) (by rfl) (by decide) (by rfl) ?_)) | k_dflt (refine LCg.ListComp_U (F₀ := by k_asm) (by with_unfolding_all rfl) (by decide) (by rfl) (by decide) (by rfl) ?_)))
  (k_with "exec Assign cons ListComp" => (k_here; first | (lct_look; k_dflt (refine LCt.Assign_ListComp_T (F₀ := by k_asm) (by rfl) (by with_unfolding_all rfl) (by with_unfolding_all rfl) (by decide) (by rfl) (by decide) (by rfl) (by rfl) (by rfl) ?_)) | k_dflt (refine LCg.Assign_ListComp_U (F₀ := by k_asm) (by rfl) (by with_unfolding_all rfl) (by with_unfolding_all rfl) (by decide) (by rfl) (by decide) (by rfl) (by rfl) (by rfl) ?_)))
  (k_with "call ref" => (k_here; (with_reducible show wpAny _ _ (call (Value.ref 228) _) _ _ _); k_dflt (refine named_K (by k_asm) (by k_asm) (by k_asm) (by k_asm) (by rfl) (by k_extra "my_room") (by k_extra "my_room") (by assumption) (by is_list) (by first | assumption | l_ints | l_intsW) (by assumption) ?_; k_whole); intro h' tk' rK F' N' hNm; (try k_sweep); (rcases hNm with ⟨hr', eNm⟩ | ⟨aN, vsN, fN, hr', eNm, hlN, hiN⟩ <;> subst hr'); all_goals (try (have hzN := named_len (by assumption) eNm hiN; have hfN := named_len2 (by assumption) eNm))))
  (k_with "call ref" => (k_here; (with_reducible show wpAny _ _ (call (Value.ref _) [Value.ref _]) _ _ _); k_dflt (refine ask_K (by k_asm) (by k_asm) (by k_asm) (by k_asm) (by assumption) (by k_updF) (by k_all) (by rfl) (by k_extra "my_room") (by k_extra "my_room") (by first | with_reducible assumption | omega) (by k_extra "my_ints") (by k_extra "my_fit") ?_; k_whole); intro h' tk' rK cK lK tK usK nrK ncK nlK ansK smK hAR F' N' nr' nl' nc' hAI; (replace nr' := allNe_of nr'); (replace nl' := allNe_of nl'); (replace nc' := allNe_of nc'); ((replace nr' := Mine.toNe2 nr'); dsimp only [↓Mine.ne2_cons, ↓Mine.ne2_one, ↓Mine.ne2_nil] at nr'; (replace nl' := Mine.toNe2 nl'); dsimp only [↓Mine.ne2_cons, ↓Mine.ne2_one, ↓Mine.ne2_nil] at nl'; (replace nc' := Mine.toNe2 nc'); dsimp only [↓Mine.ne2_cons, ↓Mine.ne2_one, ↓Mine.ne2_nil] at nc'); (try k_sweep); cases hAR))
  (k_with "callWith" => (k_here; (with_reducible show wpAny _ _ (callWith _ (Value.ref _) _ _ _) _ _ _); k_dflt (refine callWith_F (by exact AskEnv.fnAt (by assumption) (by k_asm)) ?_ (by exact rfl) (by exact rfl); k_whole)))
  (k_with "callWith" => (k_here; (with_reducible show wpAny _ _ (callWith _ (Prod.fst _) _ _ _) _ _ _); dsimp only; walk_at "callWith"))
  (k_with "FnAt" => exact AskEnv.fnAt (by assumption) (by k_asm))
  (k_with "CompSrcT" => (refine my_Src ?_))
  trivial
/-- the shrinker's own dict -/
abbrev shrO (w : World) (fn : Addr) (most asked : Int) (sure : Bool) (t1 t2 t3 t4 tm ta : Tok) : Obj :=
  dictOf [⟨PyData.keyHash w.params (Str.ofString "ask"), .str (Str.ofString "ask") t1, .ref fn⟩, ⟨PyData.keyHash w.params (Str.ofString "most"), .str (Str.ofString "most") t2, .int most tm⟩,
    ⟨PyData.keyHash w.params (Str.ofString "asked"), .str (Str.ofString "asked") t3, .int asked ta⟩, ⟨PyData.keyHash w.params (Str.ofString "is_sure"), .str (Str.ofString "is_sure") t4, .bool sure⟩] 4
inductive EnRes (H : List (List Int)) (dark : List Int) (most asked : Int) (cnt : Nat) (sure : Bool) (ks : List Int) : Bool → Option (List Int) → Int → Bool → Prop
  | full (h : most ≤ asked) : EnRes H dark most asked cnt sure ks false none asked false
  | dark (h : ¬ most ≤ asked) (d : dark.contains (cnt : Int) = true) : EnRes H dark most asked cnt sure ks true none (asked + 1) false
  | sat (h : ¬ most ≤ asked) (d : dark.contains (cnt : Int) = false) (e : namedV H ks = none) : EnRes H dark most asked cnt sure ks true none (asked + 1) sure
  | unsat {f : List Int} (h : ¬ most ≤ asked) (d : dark.contains (cnt : Int) = false) (e : namedV H ks = some f) : EnRes H dark most asked cnt sure ks true (some (ks.filter fun x => (8 :: f.reverse).contains x)) (asked + 1) sure
/-- None, or a new list -/
def ResAt (h h' : Heap) (r : Value) (res : Option (List Int)) : Prop := (r = .none ∧ res = none) ∨ ∃ a us l na, r = .ref a ∧ res = some l ∧ h.get? a = none ∧ h'.get? a = some (W.listOf us.toArray na) ∧ IntsAre us l
def HeardAt (h h' : Heap) (its : Array Value) (n : Nat) (vs : List Value) : Bool → Array Value → Nat → Prop
  | false, its', n' => its' = its ∧ n' = n
  | true, its', n' => ∃ c nc, its' = its.push (.ref c) ∧ n' = n + 1 ∧ h.get? c = none ∧ h'.get? c = some (W.listOf vs.toArray nc)
section
variable {prog : Program} {w : World} {h₀ : Heap} {p : Program} {loose : List Str} {mean : ExcName → Option Value} {mg mb : Str → Option Value}
theorem enough {A : Around} {s : Shared} {x dx fn hid drk hrd kl : Addr} {H : List (List Int)} {its : Array Value} {n : Nat} {vs : List Value} {ns dark : List Int} {most asked : Int} {sure : Bool} {t1 t2 t3 t4 tm ta : Tok} {Q E : Value → Shared → Prop}
   (X : (hd.heap_1 w.params).In h₀) (T : Top p loose mean mg mb h₀) (st : h₀.StaysIn s.heap) (hh : A.handled = none) (hd : A.depth + 30 < recursionLimit) (hu : A.units + 600 < cLine)
   (env : AskEnv w h₀ fn hid drk hrd H dark) (hhr : s.heap.get? hrd = some (W.listOf its n)) (hsz : its.size ≤ 1900) (hhr0 : h₀.get? hrd = none)
   (hx : s.heap.get? x = some (instObj 169 dx)) (hx0 : h₀.get? x = none) (hdx : s.heap.get? dx = some (shrO w fn most asked sure t1 t2 t3 t4 tm ta)) (hdx0 : h₀.get? dx = none)
   (hk : s.heap.IsList kl vs.toArray) (hi : IntsAre vs ns) (hlen : ns.length ≤ 100) (hne : @Ne Nat kl hrd)
   (hret : ∀ h' tk' r room res asked' sure' its' n' ta', EnRes H dark most asked its.size sure ns room res asked' sure' → Own [hrd, dx] s.heap h' → h'.get? dx = some (shrO w fn most asked' sure' t1 t2 t3 t4 tm ta') →
     h'.get? hrd = some (W.listOf its' n') → HeardAt s.heap h' its n vs room its' n' → ResAt s.heap h' r res → Q r { s with heap := h', toks := tk' }) :
   wpAny (model prog w) A (call (.ref 154) [.ref x, .ref kl]) Q E s := by
  k_extra "my_fill"
  obtain ⟨_, dp, fr, gd, un⟩ := A
  obtain rfl : _ = none := hh
  have NL : Led h₀ s.heap [(hrd, W.listOf its n), (x, instObj 169 dx), (dx, shrO w fn most asked sure t1 t2 t3 t4 tm ta)] := led1 hhr hhr0 (led1 hx hx0 (led1 hdx hdx0 led0))
  have KG := led_keep st NL
  have n1 : @Ne Nat hrd x := apart hhr hx (by show ¬ (Value.type "list" = Value.ref 169); decide)
  have n2 : @Ne Nat hrd dx := apart hhr hdx (by show ¬ (Value.type "list" = Value.type "dict"); decide)
  have n3 : @Ne Nat x dx := apart hx hdx (by show ¬ (Value.ref 169 = Value.type "dict"); decide)
  refine wpAny_call ?_
  refine' code_inC X T st NL ?k6 ?k7 ?k8 ?k9 ?kB ?kD ?_ ?c2 ?c3 ?c4
  k_extra "my_inC"
  intro g L h₁ tk cells hg F N Y X' T' lL lN
  k_cells Y
  try simp only [List.cons_append, List.nil_append] at N
  k_lt lN
  rw [← hg] at KG
  have env' := env.keep KG
  have hk' : g.IsList kl vs.toArray := isList_base hg hk (by
    obtain ⟨o, ho, hcl, _⟩ := hk
    simp only [List.map_cons, List.map_nil, List.mem_cons, List.not_mem_nil, or_false, not_or]
    exact ⟨hne, apart ho hx (by rw [hcl]; show ¬ (Value.type "list" = Value.ref 169); decide), apart ho hdx (by rw [hcl]; show ¬ (Value.type "list" = Value.type "dict"); decide)⟩)
  dsimp only
  try k_fold
  k_steps
  case _ =>
    rename News _ _ _ _ => N'
    rename Fr _ _ _ _ => F'
    dsimp only
    have rx := N' (x, instObj 169 dx) (by k_mem)
    have rh := N' (hrd, _) (by k_mem)
    have rd := N' (dx, _) (by k_mem)
    have ow := own_less (a := x) (W := [hrd, dx]) ((own_of hg F').more (by simp only [List.map_cons, List.map_nil, List.mem_cons, List.not_mem_nil, or_false]; intro y hy; rcases hy with q | q | q <;> simp [q])) (fun o e => by rw [hx] at e; cases e; exact rx.1)
    rename most ≤ asked => hle
    exact hret _ _ _ _ _ _ _ _ _ _ (.full hle) ow rd.1 rh.1 ⟨rfl, rfl⟩ (.inl ⟨rfl, rfl⟩)
  case _ =>
    rename News _ _ _ _ => N'
    rename Fr _ _ _ _ => F'
    dsimp only
    have rx := N' (x, instObj 169 dx) (by k_mem)
    have rh := N' (hrd, _) (by k_mem)
    have rd := N' (dx, _) (by k_mem)
    have ow := own_less (a := x) (W := [hrd, dx]) ((own_of hg F').more (by simp only [List.map_cons, List.map_nil, List.mem_cons, List.not_mem_nil, or_false]; intro y hy; rcases hy with q | q | q <;> simp [q])) (fun o e => by rw [hx] at e; cases e; exact rx.1)
    have nf : ∀ {a : Addr}, g.get? a = none → @Ne Nat hrd a → @Ne Nat x a → @Ne Nat dx a → s.heap.get? a = none := fun e n1 n2 n3 => fresh_of hg e (by simp only [List.map_cons, List.map_nil, List.mem_cons, List.not_mem_nil, or_false, not_or]; exact ⟨Ne.symm n1, Ne.symm n2, Ne.symm n3⟩)
    rename ¬ most ≤ asked => hle
    rename List.contains dark _ = true => hdk
    have rc := N' _ (.tail _ (.tail _ (.head _)))
    exact hret _ _ _ _ _ _ _ _ _ _ (.dark hle hdk) ow rd.1 rh.1 ⟨_, _, rfl, rfl, nf rc.2.2 (by omega) (by omega) (by omega), rc.1⟩ (.inl ⟨rfl, rfl⟩)
  case _ =>
    rename News _ _ _ _ => N'
    rename Fr _ _ _ _ => F'
    dsimp only
    have rx := N' (x, instObj 169 dx) (by k_mem)
    have rh := N' (hrd, _) (by k_mem)
    have rd := N' (dx, _) (by k_mem)
    have ow := own_less (a := x) (W := [hrd, dx]) ((own_of hg F').more (by simp only [List.map_cons, List.map_nil, List.mem_cons, List.not_mem_nil, or_false]; intro y hy; rcases hy with q | q | q <;> simp [q])) (fun o e => by rw [hx] at e; cases e; exact rx.1)
    have nf : ∀ {a : Addr}, g.get? a = none → @Ne Nat hrd a → @Ne Nat x a → @Ne Nat dx a → s.heap.get? a = none := fun e n1 n2 n3 => fresh_of hg e (by simp only [List.map_cons, List.map_nil, List.mem_cons, List.not_mem_nil, or_false, not_or]; exact ⟨Ne.symm n1, Ne.symm n2, Ne.symm n3⟩)
    rename ¬ most ≤ asked => hle
    rename List.contains dark _ = false => hdk
    rename namedV _ _ = none => eNm
    have rc := N' _ (.tail _ (.tail _ (.head _)))
    exact hret _ _ _ _ _ _ _ _ _ _ (.sat hle hdk eNm) ow rd.1 rh.1 ⟨_, _, rfl, rfl, nf rc.2.2 (by omega) (by omega) (by omega), rc.1⟩ (.inl ⟨rfl, rfl⟩)
  case _ =>
    rename News _ _ _ _ => N'
    rename Fr _ _ _ _ => F'
    rename namedV _ _ = some _ => eNm
    rename IntsAre _ (8 :: _) => hAI
    rename ¬ most ≤ asked => hle
    rename List.contains dark _ = false => hdk
    refine LCt.CompSrcT.base rfl F' N' hk' (by simp [hi.length, sizeLine_eq]; omega) fun g' => filter_in hAI hi (Or.inl hk') rfl (fun _ => rfl) rfl (fun ys hy => ?fin) (fun i' n' t' ys I' oI' C oC D m₂ h₃ tk₃ E' hn hC hx F₃ N₃ => ?cond)
    case cond => k_steps
    case fin =>
    k_steps
    clear N' F'
    rename News _ _ _ _ => N'
    rename Fr _ _ _ _ => F'
    have rx := N' (x, instObj 169 dx) (by k_mem)
    have rh := N' (hrd, _) (by k_mem)
    have rd := N' (dx, _) (by k_mem)
    have ow := own_less (a := x) (W := [hrd, dx]) ((own_of hg F').more (by simp only [List.map_cons, List.map_nil, List.mem_cons, List.not_mem_nil, or_false]; intro y hy; rcases hy with q | q | q <;> simp [q])) (fun o e => by rw [hx] at e; cases e; exact rx.1)
    have nf : ∀ {a : Addr}, g.get? a = none → @Ne Nat hrd a → @Ne Nat x a → @Ne Nat dx a → s.heap.get? a = none := fun e n1 n2 n3 => fresh_of hg e (by simp only [List.map_cons, List.map_nil, List.mem_cons, List.not_mem_nil, or_false, not_or]; exact ⟨Ne.symm n1, Ne.symm n2, Ne.symm n3⟩)
    have rc := N' _ (.tail _ (.tail _ (.tail _ (.head _))))
    have rr := N' _ (.head _)
    exact hret _ _ _ _ _ _ _ _ _ _ (.unsat hle hdk eNm) ow rd.1 rh.1 ⟨_, _, rfl, rfl, nf rc.2.2 (by omega) (by omega) (by omega), rc.1⟩ (.inr ⟨_, _, _, _, rfl, rfl, nf rr.2.2 (by omega) (by omega) (by omega), rr.1, hy⟩)
end
/-- what an asking gives, over the number of those before and the sureness -/
def enV (H : List (List Int)) (dark : List Int) (most : Nat) (st : Nat × Bool) (ks : List Int) : Option (List Int) × (Nat × Bool) :=
  if most ≤ st.1 then (none, st.1, false) else if dark.contains (st.1 : Int) then (none, st.1 + 1, false) else match namedV H ks with
  | none => (none, st.1 + 1, st.2)
  | some f => (some (ks.filter fun x => (8 :: f.reverse).contains x), st.1 + 1, st.2)
theorem EnRes.enV {H : List (List Int)} {dark : List Int} {most cnt : Nat} {sure : Bool} {ks : List Int} {room : Bool} {res : Option (List Int)} {asked' : Int} {sure' : Bool} (x : EnRes H dark (most : Int) (cnt : Int) cnt sure ks room res asked' sure') :
    enV H dark most (cnt, sure) ks = (res, asked'.toNat, sure') ∧ asked' = ((cnt + (if room then 1 else 0) : Nat) : Int) := by
  cases x with
  | full h => have h' : most ≤ cnt := by omega
              exact ⟨by rw [Mine.enV, if_pos h']; simp, by simp⟩
  | dark h d => have h' : ¬ most ≤ cnt := by omega
                exact ⟨by rw [Mine.enV, if_neg h', if_pos d]; simp, by simp⟩
  | sat h d e => have h' : ¬ most ≤ cnt := by omega
                 exact ⟨by rw [Mine.enV, if_neg h', if_neg (by rw [d]; decide), e]; simp, by simp⟩
  | unsat h d e => have h' : ¬ most ≤ cnt := by omega
                   exact ⟨by rw [Mine.enV, if_neg h', if_neg (by rw [d]; decide), e]; simp, by simp⟩
section
variable {prog : Program} {w : World} {p : Program} {loose : List Str} {mean : ExcName → Option Value} {mg mb : Str → Option Value}
theorem own2 {g h h' : Heap} {L a b : Addr} {m : Str → Option Value} {news : List (Addr × Obj)} {oa ob oa' ob' : Obj} {g1 : Obj → List (Addr × Obj)} {g2 : Obj → Obj → List (Addr × Obj)} (F : Fr g L h m) (N : News g L h news) (U1 : UpdF a oa news g1) (U2 : ∀ o, UpdF b ob (g1 o) (g2 o)) (hab : a ≠ b)
    (x : Own [a, b] h h') (ea : h'.get? a = some oa') (eb : h'.get? b = some ob') : Fr g L h' m ∧ News g L h' (g2 oa' ob') := by
  obtain ⟨pre, post, e1, hg, h1, h2⟩ := U1.split
  obtain ⟨pre', post', e2, hg', h1', h2'⟩ := (U2 oa').split
  have ha := N (a, oa) (by rw [e1]; exact List.mem_append_right _ (.head _))
  have sub : ∀ q ∈ pre' ++ post', q ∈ g1 oa' := fun q hq => by rw [e2]; exact (List.mem_append.mp hq).elim (List.mem_append_left _) fun z => List.mem_append_right _ (.tail _ z)
  have N1 : ∀ q ∈ g1 oa', q.1 ≠ a → q ∈ news := fun q hq n => by
    rw [hg] at hq
    rw [e1]
    rcases List.mem_append.mp hq with z | z
    · exact List.mem_append_left _ z
    · rcases List.mem_cons.mp z with rfl | z
      · exact absurd rfl n
      · exact List.mem_append_right _ (.tail _ z)
  have hbm : (b, ob) ∈ news := N1 _ (by rw [e2]; exact List.mem_append_right _ (.head _)) (Ne.symm hab)
  have hb := N _ hbm
  refine ⟨own_fr F x fun c q => ?_, ?_⟩
  · rcases List.mem_cons.mp q with rfl | q
    · exact ⟨ha.2.2, ha.2.1⟩
    · rw [List.mem_singleton.mp q]; exact ⟨hb.2.2, hb.2.1⟩
  · rw [hg']
    have other : ∀ q ∈ pre' ++ post', h'.get? q.1 = some q.2 ∧ q.1 ≠ L ∧ g.get? q.1 = none := fun q hq => by
      by_cases n : q.1 = a
      · have hq' := sub q hq
        rw [hg] at hq'
        have : q = (a, oa') := by
          rcases List.mem_append.mp hq' with z | z
          · exact absurd n (h1 q z)
          · rcases List.mem_cons.mp z with z | z
            · exact z
            · exact absurd n (h2 q z)
        rw [this]; exact ⟨ea, ha.2⟩
      · have hq' := N q (N1 q (sub q hq) n)
        refine ⟨x _ _ hq'.1 fun z => ?_, hq'.2⟩
        rcases List.mem_cons.mp z with z | z
        · exact n z
        · exact (List.mem_append.mp hq).elim (fun y => h1' q y (List.mem_singleton.mp z)) fun y => h2' q y (List.mem_singleton.mp z)
    intro q hq
    rcases List.mem_append.mp hq with z | z
    · exact other q (List.mem_append_left _ z)
    · rcases List.mem_cons.mp z with rfl | z
      · exact ⟨eb, hb.2⟩
      · exact other q (List.mem_append_right _ z)
theorem enough_K {A : Around} {s : Shared} {g : Heap} {L x dx fn hid drk hrd kl : Addr} {m₀ : Str → Option Value} {news : List (Addr × Obj)} {g1 : Obj → List (Addr × Obj)} {g2 : Obj → Obj → List (Addr × Obj)} {H : List (List Int)} {its : Array Value} {n : Nat} {vs : List Value} {ns dark : List Int} {most cnt : Nat} {sure : Bool} {t1 t2 t3 t4 tm ta : Tok} {Q E : Value → Shared → Prop}
   (F : Fr g L s.heap m₀) (N : News g L s.heap news) (X : (hd.heap_1 w.params).In g) (T : Top p loose mean mg mb g) (env : AskEnv w g fn hid drk hrd H dark)
   (hx : (x, instObj 169 dx) ∈ news) (hdx : (dx, shrO w fn most cnt sure t1 t2 t3 t4 tm ta) ∈ news) (U1 : UpdF hrd (W.listOf its n) news g1) (U2 : ∀ o, UpdF dx (shrO w fn most cnt sure t1 t2 t3 t4 tm ta) (g1 o) (g2 o))
   (hh : A.handled = none) (hd : A.depth + 30 < recursionLimit) (hu : A.units + 600 < cLine) (hsz : its.size ≤ 1900) (hcnt : its.size = cnt)
   (hk : s.heap.IsList kl vs.toArray) (hi : IntsAre vs ns) (hlen : ns.length ≤ 100) (hne : @Ne Nat kl hrd)
   (hno : ∀ h' tk' cnt' sure' its' n' ta', enV H dark most (cnt, sure) ns = (none, cnt', sure') → its'.size = cnt' → cnt' ≤ cnt + 1 → Fr g L h' m₀ → News g L h' (g2 (W.listOf its' n') (shrO w fn most cnt' sure' t1 t2 t3 t4 tm ta')) → Q .none { s with heap := h', toks := tk' })
   (hso : ∀ h' tk' cnt' sure' its' n' ta' r us l na, enV H dark most (cnt, sure) ns = (some l, cnt', sure') → its'.size = cnt' → cnt' ≤ cnt + 1 → Fr g L h' m₀ → News g L h' ((r, W.listOf us.toArray na) :: g2 (W.listOf its' n') (shrO w fn most cnt' sure' t1 t2 t3 t4 tm ta')) →
     (∀ p ∈ news, p.1 ≠ r) → IntsAre us l → Q (.ref r) { s with heap := h', toks := tk' }) :
   wpAny (model prog w) A (call (.ref 154) [.ref x, .ref kl]) Q E s := by
  have hr := N (hrd, W.listOf its n) (by obtain ⟨pre, post, e, _⟩ := U1.split; rw [e]; exact List.mem_append_right _ (.head _))
  have hx' := N _ hx
  have hdx' := N _ hdx
  have hrd : hrd ≠ dx := apart hr.1 hdx'.1 (by show ¬ (Value.type "list" = Value.type "dict"); decide)
  refine enough X T F.keep hh hd hu env hr.1 hsz hr.2.2 hx'.1 hx'.2.2 hdx'.1 hdx'.2.2 hk hi hlen hne fun h' tk' r room res asked' sure' its' n' ta' eR ow ed eh hA rA => ?_
  subst hcnt
  obtain ⟨e1, e2⟩ := eR.enV
  have hs' : its'.size = asked'.toNat := by
    rw [e2]
    cases room with
    | false => rw [hA.1]; simp
    | true => obtain ⟨c, nc, q, _⟩ := hA; rw [q]; simp
  have hle : asked'.toNat ≤ its.size + 1 := by rw [e2]; split <;> omega
  have ha' : asked' = ((asked'.toNat : Nat) : Int) := by omega
  rw [ha'] at ed
  obtain ⟨F', N'⟩ := own2 F N U1 U2 hrd ow eh ed
  rcases rA with ⟨rfl, rfl⟩ | ⟨a, us, l, na, rfl, rfl, fa, ea, hI⟩
  · exact hno h' tk' _ _ _ _ _ e1 hs' hle F' N'
  · exact hso h' tk' _ _ _ _ _ _ _ _ _ e1 hs' hle F' (fresh1 F fa N' ea) (fresh_ne N fa) hI
end
end
section
theorem lines_OneByOne : True := by
  w_top off
  k_with_none
  (k_with "my_pj" => (with_reducible first | assumption | exact Mine.pj1l (by assumption) | exact Mine.pj1r (by assumption) | exact Mine.pj2l (by assumption) | exact Mine.pj2r (by assumption) | exact Mine.pj3l (by assumption) | exact Mine.pj3r (by assumption) | exact Mine.pj4l (by assumption) | exact Mine.pj4r (by assumption) | exact Mine.pj5l (by assumption) | exact Mine.pj5r (by assumption) | exact Mine.pj6l (by assumption) | exact Mine.pj6r (by assumption) | exact Mine.pj7l (by assumption) | exact Mine.pj7r (by assumption) | exact Mine.pj8l (by assumption) | exact Mine.pj8r (by assumption) | exact Mine.pj9l (by assumption) | exact Mine.pj9r (by assumption) | exact Mine.pj10l (by assumption) | exact Mine.pj10r (by assumption) | exact Mine.pj11l (by assumption) | exact Mine.pj11r (by assumption) | exact Mine.pj12l (by assumption) | exact Mine.pj12r (by assumption) | exact Mine.pj13l (by assumption) | exact Mine.pj13r (by assumption) | exact Mine.pj14l (by assumption) | exact Mine.pj14r (by assumption) | exact Mine.pj15l (by assumption) | exact Mine.pj15r (by assumption) | exact Mine.pj16l (by assumption) | exact Mine.pj16r (by assumption)))
  (k_with "my_ne" => (refine neN ?_; (try dsimp only); first | with_reducible assumption | exact Ne.symm (by with_reducible assumption) | (refine Mine.neOr ?_; simp only [*, true_or, or_true, ne_eq, not_false_eq_true]; done) | (refine Ne.symm (Mine.neOr ?_); simp only [*, true_or, or_true, ne_eq, not_false_eq_true]; done) | omega))
  (k_with "my_room" => first | exact room1 (by with_reducible assumption) rfl rfl | exact room0 (by with_reducible assumption) rfl rfl | ((simp only [Around.deeper, Around.in1, recursionLimit, cLine] at *); omega))
  (k_with "my_fill" => ((have hfill : (fun (_ : OpenLaw) (_ : Params → Frag) => True) PySem.Challenge.rw_rg0207_01 Mine.hd.heap_1 := by k_fill; trivial); clear hfill))
  (k_with "my_in" => ((case k6 => k_is); (case k7 => k_is); (case k8 => first | exact Nat.lt_of_le_of_lt (Nat.le_add_right _ _) (by with_reducible assumption) | (simp only [recursionLimit] at *; omega)); (case k9 => first | exact BindsTo.of_eq rfl | exact binds_K (Frag.In.keeps (by assumption) (by assumption)) rfl (by k_is) rfl rfl rfl); (case c5 => decide); (case kB => exact locs rfl); (case c2 => exact rfl); (case c3 => exact rfl); (case c4 => exact rfl)))
  (k_with "my_sub" => repeat' (first | exact List.forall_mem_nil _ | refine List.forall_mem_cons.mpr ⟨?_, ?_⟩ | k_mem))
  (k_with "exec For Name Call cons nil" => (k_here; k_dflt (refine my_For ?_)))
  (k_with "exec For Name Name cons nil" => (k_here; k_dflt (refine my_For ?_)))
  (k_with "newTuple" => (k_here; k_dflt (refine my_newTuple (by k_asm) (by k_asm) ?_ (by size_fits); k_whole); intro l' h' F' N' l1; (try k_lt l1); (try k_sweep)))
  (k_with "call type:range" => (k_here; (with_reducible rename Fr _ _ _ _ => F'); (with_reducible rename News _ _ _ _ => N'); first | (with_unfolding_all refine range1_rows F' N' ?_; intro h' tk' t' u' v' R' F' N' k'; (try k_sweep)) | (with_unfolding_all refine range2_rows F' N' ?_; intro h' tk' t' u' v' R' F' N' k'; (try k_sweep))))
  (k_with "my_inC" => ((case k6 => k_is); (case k7 => k_is); (case k8 => first | exact Nat.lt_of_le_of_lt (Nat.le_add_right _ _) (by with_reducible assumption) | (simp only [recursionLimit] at *; omega)); (case k9 => exact BindsTo.of_eq rfl); (case kB => exact rfl); (case kD => decide +kernel); (case c2 => exact rfl); (case c3 => exact rfl); (case c4 => exact rfl)))
  (k_with "eval Name" => (k_here; kc_free; k_dflt (refine name_free (by k_asm) (by rfl) (by assumption) (by assumption) ?_ (by rfl) (by rfl); k_whole)))
  (k_with "last call builtin:len" => (k_here; k_dflt (refine call_len_list (by is_list) (by ((try simp only [Array.size_push, List.size_toArray]); omega)) ?_; k_whole); (try simp only [Array.size_push])))
  (k_with "my_ints" => first | assumption | l_ints | l_intsW)
  (k_with "my_fit" => ((try simp only [sizeLine_eq, List.length_append, List.length_cons, List.length_nil, List.length_reverse, List.length_map, List.size_toArray, Array.size_push]); omega))
  (k_with "binaryOp Add ref ref" => (k_here; (with_reducible show wpAny _ _ (binaryOp _ (Value.ref _) (Value.ref _)) _ _ _); k_dflt (refine my_addL (by k_asm) (by k_asm) (by kmk_list) (by kmk_list) (by k_extra "my_ints") (by k_extra "my_ints") ?_ (by k_extra "my_fit"); k_whole); intro D' h' F' N' l1 hI'; (try k_lt l1); (try k_sweep)))
  (k_with "exec While Compare cons nil" => (k_here; k_dflt (refine my_While ?_)))
  (k_with "my_len" => ((try simp only [Around.deeper, Around.in1, recursionLimit, cLine, List.length_append, List.length_take, List.length_drop, List.length_cons, List.length_nil] at *); omega))
  (k_with "eval ListComp" => (k_here; first | (lct_look; k_dflt (refine LCt.ListComp_T (F₀ := by k_asm) (by with_unfolding_all rfl) (by decide) (by rfl) (by decide) (by rfl) ?_)) | k_dflt (refine LCg.ListComp_U (F₀ := by k_asm) (by with_unfolding_all rfl) (by decide) (by rfl) (by decide) (by rfl) ?_)))
  (k_with "exec Assign cons ListComp" => (k_here; first | (lct_look; k_dflt (refine LCt.Assign_ListComp_T (F₀ := by k_asm) (by rfl) (by with_unfolding_all rfl) (by with_unfolding_all rfl) (by decide) (by rfl) (by decide) (by rfl) (by rfl) (by rfl) ?_)) | k_dflt (refine LCg.Assign_ListComp_U (F₀ := by k_asm) (by rfl) (by with_unfolding_all rfl) (by with_unfolding_all rfl) (by decide) (by rfl) (by decide) (by rfl) (by rfl) (by rfl) ?_)))
  (k_with "call ref" => (k_here; (with_reducible show wpAny _ _ (call (Value.ref 228) _) _ _ _); k_dflt (refine named_K (by k_asm) (by k_asm) (by k_asm) (by k_asm) (by rfl) (by k_extra "my_room") (by k_extra "my_room") (by assumption) (by is_list) (by first | assumption | l_ints | l_intsW) (by assumption) ?_; k_whole); intro h' tk' rK F' N' hNm; (try k_sweep); (rcases hNm with ⟨hr', eNm⟩ | ⟨aN, vsN, fN, hr', eNm, hlN, hiN⟩ <;> subst hr'); all_goals (try (have hzN := named_len (by assumption) eNm hiN; have hfN := named_len2 (by assumption) eNm))))
  (k_with "call ref" => (k_here; (with_reducible show wpAny _ _ (call (Value.ref _) [Value.ref _]) _ _ _); k_dflt (refine ask_K (by k_asm) (by k_asm) (by k_asm) (by k_asm) (by assumption) (by k_updF) (by k_all) (by rfl) (by k_extra "my_room") (by k_extra "my_room") (by first | with_reducible assumption | omega) (by k_extra "my_ints") (by k_extra "my_fit") ?_; k_whole); intro h' tk' rK cK lK tK usK nrK ncK nlK ansK smK hAR F' N' nr' nl' nc' hAI; (replace nr' := allNe_of nr'); (replace nl' := allNe_of nl'); (replace nc' := allNe_of nc'); ((replace nr' := Mine.toNe2 nr'); dsimp only [↓Mine.ne2_cons, ↓Mine.ne2_one, ↓Mine.ne2_nil] at nr'; (replace nl' := Mine.toNe2 nl'); dsimp only [↓Mine.ne2_cons, ↓Mine.ne2_one, ↓Mine.ne2_nil] at nl'; (replace nc' := Mine.toNe2 nc'); dsimp only [↓Mine.ne2_cons, ↓Mine.ne2_one, ↓Mine.ne2_nil] at nc'); (try k_sweep); cases hAR))
  (k_with "callWith" => (k_here; (with_reducible show wpAny _ _ (callWith _ (Value.ref _) _ _ _) _ _ _); k_dflt (refine callWith_F (by exact AskEnv.fnAt (by assumption) (by k_asm)) ?_ (by exact rfl) (by exact rfl); k_whole)))
  (k_with "callWith" => (k_here; (with_reducible show wpAny _ _ (callWith _ (Prod.fst _) _ _ _) _ _ _); dsimp only; walk_at "callWith"))
  (k_with "FnAt" => exact AskEnv.fnAt (by assumption) (by k_asm))
  (k_with "call ref" => (k_here; (with_reducible show wpAny _ _ (call (Value.ref 154) _) _ _ _); k_dflt (refine enough_K (by k_asm) (by k_asm) (by k_asm) (by k_asm) (by assumption) (by k_mem) (by k_mem) (by k_updF) (by (intro o'; k_updF)) (by rfl) (by k_extra "my_room") (by k_extra "my_room") (by first | omega | exact (by decide)) (by first | assumption | rfl) (by is_list) (by k_extra "my_ints") (by k_extra "my_fit") (by k_ne) ?_ ?_; (focus (intro h' tk' cnt' sure' its' n' ta' hEn hSz hLe F' N'; (try k_sweep))); rotate_left; (focus (intro h' tk' cnt' sure' its' n' ta' rK usK lK naK hEn hSz hLe F' N' nr' hIr; (replace nr' := allNe_of nr'); ((replace nr' := Mine.toNe2 nr'); dsimp only [↓Mine.ne2_cons, ↓Mine.ne2_one, ↓Mine.ne2_nil] at nr'); (try k_sweep))))))
  (k_with "CompSrcT" => (refine my_Src ?_))
  trivial
def keepIn (less l : List Int) : List Int := l.filter fun x => less.contains x
theorem keepIn_length (less l : List Int) : (keepIn less l).length ≤ l.length := List.length_filter_le _ _
def obV (H : List (List Int)) (dark : List Int) (most : Nat) (st : Nat × Bool) (kept rest : List Int) : List Int × (Nat × Bool) :=
  match rest with
  | [] => (kept, st)
  | key :: r => match enV H dark most st (kept ++ r) with
    | (none, st') => obV H dark most st' (kept ++ [key]) r
    | (some less, st') => obV H dark most st' (keepIn less kept) (keepIn less r)
  termination_by rest.length
  decreasing_by
    · simp
    · have := keepIn_length less r; simp only [List.length_cons]; omega
/-- ahead of each test -/
inductive ObJ (w : World) (H : List (List Int)) (dark : List Int) (most : Nat) (x dx fn hrd ce : Addr) (t1 t2 t3 t4 tm : Tok) (top : Nat) (goal : List Int × (Nat × Bool)) (k : Nat) (m : Str → Option Value) : List (Addr × Obj) → Prop
  | intro {cnt : Nat} {sure : Bool} {its : Array Value} {n : Nat} {ta : Tok} {kept rest : List Int} {vk vr : List Value} {nk nr : Nat} {oc : Obj} {v : Option Value} {kp rs : Addr} (hc : oc.data = .cell v) (hk : IntsAre vk kept) (hr : IntsAre vr rest)
      (hl : rest.length = k) (hs : its.size = cnt) (hb : cnt + rest.length ≤ top) (hz : kept.length + rest.length ≤ 50) (hg : obV H dark most (cnt, sure) kept rest = goal)
      (m1 : m (Str.ofString "kept") = some (.ref kp)) (m2 : m (Str.ofString "rest") = some (.ref rs)) (m3 : m (Str.ofString "self") = some (.ref x))
      (n1 : @Ne Nat kp hrd) (n2 : @Ne Nat rs hrd) (n3 : @Ne Nat kp dx) (n4 : @Ne Nat rs dx) (n5 : @Ne Nat kp rs) (n6 : @Ne Nat kp ce) (n7 : @Ne Nat rs ce) (n8 : @Ne Nat kp x) (n9 : @Ne Nat rs x) :
      ObJ w H dark most x dx fn hrd ce t1 t2 t3 t4 tm top goal k m [(rs, W.listOf vr.toArray nr), (kp, W.listOf vk.toArray nk), (ce, oc), (hrd, W.listOf its n), (x, instObj 169 dx), (dx, shrO w fn most cnt sure t1 t2 t3 t4 tm ta)]
section
variable {prog : Program} {w : World} {h₀ : Heap} {p : Program} {loose : List Str} {mean : ExcName → Option Value} {mg mb : Str → Option Value}
theorem oneByOne {A : Around} {s : Shared} {x dx fn hid drk hrd kl : Addr} {H : List (List Int)} {its : Array Value} {n : Nat} {vs : List Value} {ns dark : List Int} {most cnt : Nat} {sure : Bool} {t1 t2 t3 t4 tm ta : Tok} {Q E : Value → Shared → Prop}
   (X : (hd.heap_1 w.params).In h₀) (T : Top p loose mean mg mb h₀) (st : h₀.StaysIn s.heap) (hh : A.handled = none) (hd : A.depth + 40 < recursionLimit) (hu : A.units + 800 < cLine)
   (env : AskEnv w h₀ fn hid drk hrd H dark) (hhr : s.heap.get? hrd = some (W.listOf its n)) (hsz : its.size = cnt) (hcn : cnt ≤ 1000) (hhr0 : h₀.get? hrd = none)
   (hx : s.heap.get? x = some (instObj 169 dx)) (hx0 : h₀.get? x = none) (hdx : s.heap.get? dx = some (shrO w fn most cnt sure t1 t2 t3 t4 tm ta)) (hdx0 : h₀.get? dx = none)
   (hk : s.heap.IsList kl vs.toArray) (hi : IntsAre vs ns) (hlen : ns.length ≤ 50) (hne : @Ne Nat kl hrd)
   (hret : ∀ h' tk' r us l na cnt' sure' its' n' ta', obV H dark most (cnt, sure) [] ns = (l, cnt', sure') → its'.size = cnt' → cnt' ≤ cnt + ns.length → Own [hrd, dx] s.heap h' → h'.get? hrd = some (W.listOf its' n') → h'.get? dx = some (shrO w fn most cnt' sure' t1 t2 t3 t4 tm ta') →
     s.heap.get? r = none → h'.get? r = some (W.listOf us.toArray na) → IntsAre us l → Q (.ref r) { s with heap := h', toks := tk' }) :
   wpAny (model prog w) A (call (.ref 159) [.ref x, .ref kl]) Q E s := by
  k_extra "my_fill"
  obtain ⟨_, dp, fr, gd, un⟩ := A
  obtain rfl : _ = none := hh
  have NL : Led h₀ s.heap [(hrd, W.listOf its n), (x, instObj 169 dx), (dx, shrO w fn most cnt sure t1 t2 t3 t4 tm ta)] := led1 hhr hhr0 (led1 hx hx0 (led1 hdx hdx0 led0))
  have KG := led_keep st NL
  have n1 : @Ne Nat hrd x := apart hhr hx (by show ¬ (Value.type "list" = Value.ref 169); decide)
  have n2 : @Ne Nat hrd dx := apart hhr hdx (by show ¬ (Value.type "list" = Value.type "dict"); decide)
  have n3 : @Ne Nat x dx := apart hx hdx (by show ¬ (Value.ref 169 = Value.type "dict"); decide)
  refine wpAny_call ?_
  refine' code_inC X T st NL ?k6 ?k7 ?k8 ?k9 ?kB ?kD ?_ ?c2 ?c3 ?c4
  k_extra "my_inC"
  intro g L h₁ tk cells hgB F N Y X' T' lL lN
  k_cells Y
  try simp only [List.cons_append, List.nil_append] at N
  k_lt lN
  rw [← hgB] at KG
  have env' := env.keep KG
  have hk' : g.IsList kl vs.toArray := isList_base hgB hk (by
    obtain ⟨o, ho, hcl, _⟩ := hk
    simp only [List.map_cons, List.map_nil, List.mem_cons, List.not_mem_nil, or_false, not_or]
    exact ⟨hne, apart ho hx (by rw [hcl]; show ¬ (Value.type "list" = Value.ref 169); decide), apart ho hdx (by rw [hcl]; show ¬ (Value.type "list" = Value.type "dict"); decide)⟩)
  dsimp only
  try k_fold
  k_steps
  rename Fr _ _ _ _ => F'
  rename News _ _ _ _ => N'
  refine' MyWhile.inv (ObJ w H dark most x dx fn hrd (L + 1) t1 t2 t3 t4 tm (cnt + ns.length) (obV H dark most (cnt, sure) [] ns)) F' (News.cut N' ?sub) (ObJ.intro (its := its) (kept := []) (vk := []) ?hc .nil hi ?hl hsz ?hb ?hz rfl ?m1 ?m2 ?m3 ?n1 ?n2 ?n3 ?n4 ?n5 ?n6 ?n7 ?n8 ?n9) ?turn
  case sub => k_extra "my_sub"
  case m1 => with_unfolding_all rfl
  case m2 => with_unfolding_all rfl
  case m3 => with_unfolding_all rfl
  case hc => assumption
  case hl => rfl
  case hb => exact Nat.le_refl _
  case hz => simp; omega
  case n1 => k_ne
  case n2 => k_ne
  case n3 => k_ne
  case n4 => k_ne
  case n5 => k_ne
  case n6 => k_ne
  case n7 => k_ne
  case n8 => k_ne
  case n9 => k_ne
  case turn =>
    intro k m₁ news₁ h₂ tk₂ F₁ N₁ J₁
    cases J₁ with
    | @intro cnt₁ sure₁ its₁ n₁ ta₁ kept rest vk vr nk nr oc v kp rs hc hk₁ hr hl hs hb hz hg m1 m2 m3 n1 n2 n3 n4 n5 n6 n7 n8 n9 =>
    rw [pin m1, pin m2, pin m3] at F₁
    cases rest with
    | nil =>
      k_steps
      dsimp only
      rename Fr _ _ _ _ => F'
      rename News _ _ _ _ => N'
      have rx := N' (x, instObj 169 dx) (by k_mem)
      have rk := N' (kp, _) (by k_mem)
      have rh := N' (hrd, _) (by k_mem)
      have rd := N' (dx, _) (by k_mem)
      have ow := own_less (a := x) (W := [hrd, dx]) ((own_of hgB F').more (by simp only [List.map_cons, List.map_nil, List.mem_cons, List.not_mem_nil, or_false]; intro y hy; rcases hy with q | q | q <;> simp [q])) (fun o e => by rw [hx] at e; cases e; exact rx.1)
      rw [obV] at hg
      refine hret _ _ _ _ _ _ _ _ _ _ _ hg.symm hs (by omega) ow rh.1 rd.1 (fresh_of hgB rk.2.2 ?_) rk.1 hk₁
      simp only [List.map_cons, List.map_nil, List.mem_cons, List.not_mem_nil, or_false, not_or]
      exact ⟨n1, n8, n3⟩
    | cons key r =>
      obtain ⟨tkey, vr', rfl, hr'⟩ := hr.cons_inv
      have hvr : (Value.int key tkey :: vr').toArray.size ≤ 100 := by rw [List.size_toArray, hr.length]; simp only [List.length_cons] at *; omega
      have hrl : (key :: r).length ≤ 50 := by omega
      have hvk : vk.toArray.size ≤ 100 := by rw [List.size_toArray, hk₁.length]; omega
      simp only [List.length_cons] at hl hb hz
      k_steps
      case _ => rename decide _ = true => hbad; simp at hbad
      case _ =>
        rename Fr _ _ _ _ => F'
        rename News _ _ _ _ => N'
        rename enV _ _ _ _ _ = (some _, _, _) => hEn
        rename IntsAre _ (List.drop 1 _) => hR
        rename (_ : Obj).data = .cell (some (Value.ref _)) => hcell
        rename AskEnv _ _ _ _ _ _ _ _ => env'
        rename IntsAre _ _ => hIr
        refine LCt.CompSrcT.ledger rfl F' N' (ax := kp) (its := vk.toArray) (by k_mem) (by rw [sizeLine_eq]; omega) fun g' => filter_in hIr hk₁ (Or.inr ⟨_, by k_mem, rfl, _, rfl⟩) rfl (fun _ => rfl) rfl (fun ys hy => ?fin) (fun i' n' t' ys I' oI' C oC D m₂ h₃ tk₃ E' hn hC hx F₃ N₃ => ?cond)
        case cond => k_steps
        case fin =>
        clear F' N'
        k_steps
        rename Fr _ _ _ _ => F'
        rename News _ _ _ _ => N'
        have hRl := hR.length
        refine LCt.CompSrcT.ledger rfl F' N' (by k_mem) (by rw [List.size_toArray, hRl, sizeLine_eq]; show r.length ≤ _; omega) fun g' => filter_in hIr hR (Or.inr ⟨_, by k_mem, rfl, _, rfl⟩) rfl (fun _ => rfl) rfl (fun ys₂ hy₂ => ?fin2) (fun i' n' t' ys I' oI' C oC D m₂ h₃ tk₃ E' hn hC hx F₃ N₃ => ?cond2)
        case cond2 => k_steps
        case fin2 =>
        clear F' N'
        k_steps
        rename Fr _ _ _ _ => F'
        rename News _ _ _ _ => N'
        refine' WhileStep.intro (n' := (keepIn _ r).length) F' (News.cut N' ?zsub1) ?zhlt1 (ObJ.intro (v := some (.ref _)) hcell hy hy₂ ?zhl1 ?zhs1 ?zhb1 ?zhz1 ?zhg1 ?zm11 ?zm21 ?zm31 ?zn11 ?zn21 ?zn31 ?zn41 ?zn51 ?zn61 ?zn71 ?zn81 ?zn91)
        case zsub1 => k_extra "my_sub"
        case zm11 => with_unfolding_all rfl
        case zm21 => with_unfolding_all rfl
        case zm31 => with_unfolding_all rfl
        case zhl1 => rfl
        case zhlt1 => exact Nat.lt_of_le_of_lt (keepIn_length _ r) (by omega)
        case zhs1 => assumption
        case zhb1 => exact Nat.le_trans (Nat.add_le_add_left (keepIn_length _ r) _) (by omega)
        case zhz1 => exact Nat.le_trans (Nat.add_le_add (keepIn_length _ kept) (keepIn_length _ r)) (by omega)
        case zhg1 => rw [← hg, obV.eq_2, show enV H dark most (cnt₁, sure₁) (kept ++ r) = (some _, _, _) from hEn]; rfl
        all_goals k_ne
      case _ =>
        rename Fr _ _ _ _ => F'
        rename News _ _ _ _ => N'
        rename enV _ _ _ _ _ = (none, _, _) => hEn
        rename IntsAre _ (List.drop 1 _) => hR
        rename (_ : Obj).data = .cell (some Value.none) => hcell
        simp only [List.push_toArray] at N'
        refine' WhileStep.intro (n' := r.length) F' (News.cut N' ?sub1) (by omega) (ObJ.intro (v := some .none) ?hc1 (ints_snoc hk₁ key _) hR ?hl1 ?hs1 ?hb1 ?hz1 ?hg1 ?m11 ?m21 ?m31 ?n11 ?n21 ?n31 ?n41 ?n51 ?n61 ?n71 ?n81 ?n91)
        case m11 => with_unfolding_all rfl
        case m21 => with_unfolding_all rfl
        case m31 => with_unfolding_all rfl
        case sub1 => k_extra "my_sub"
        case hc1 => assumption
        case hl1 => rfl
        case hs1 => assumption
        case hb1 => show _ + r.length ≤ _; omega
        case hz1 => show (kept ++ [key]).length + r.length ≤ 50; simp only [List.length_append, List.length_cons, List.length_nil]; omega
        case hg1 => rw [← hg, obV.eq_2, show enV H dark most (cnt₁, sure₁) (kept ++ r) = (none, _, _) from hEn]; rfl
        all_goals k_ne
end
end
section
theorem lines_Halves : True := by
  w_top off
  k_with_none
  (k_with "my_pj" => (with_reducible first | assumption | exact Mine.pj1l (by assumption) | exact Mine.pj1r (by assumption) | exact Mine.pj2l (by assumption) | exact Mine.pj2r (by assumption) | exact Mine.pj3l (by assumption) | exact Mine.pj3r (by assumption) | exact Mine.pj4l (by assumption) | exact Mine.pj4r (by assumption) | exact Mine.pj5l (by assumption) | exact Mine.pj5r (by assumption) | exact Mine.pj6l (by assumption) | exact Mine.pj6r (by assumption) | exact Mine.pj7l (by assumption) | exact Mine.pj7r (by assumption) | exact Mine.pj8l (by assumption) | exact Mine.pj8r (by assumption) | exact Mine.pj9l (by assumption) | exact Mine.pj9r (by assumption) | exact Mine.pj10l (by assumption) | exact Mine.pj10r (by assumption) | exact Mine.pj11l (by assumption) | exact Mine.pj11r (by assumption) | exact Mine.pj12l (by assumption) | exact Mine.pj12r (by assumption) | exact Mine.pj13l (by assumption) | exact Mine.pj13r (by assumption) | exact Mine.pj14l (by assumption) | exact Mine.pj14r (by assumption) | exact Mine.pj15l (by assumption) | exact Mine.pj15r (by assumption) | exact Mine.pj16l (by assumption) | exact Mine.pj16r (by assumption)))
  (k_with "my_ne" => (refine neN ?_; (try dsimp only); first | with_reducible assumption | exact Ne.symm (by with_reducible assumption) | (refine Mine.neOr ?_; simp only [*, true_or, or_true, ne_eq, not_false_eq_true]; done) | (refine Ne.symm (Mine.neOr ?_); simp only [*, true_or, or_true, ne_eq, not_false_eq_true]; done) | omega))
  (k_with "my_room" => first | exact room1 (by with_reducible assumption) rfl rfl | exact room0 (by with_reducible assumption) rfl rfl | ((simp only [Around.deeper, Around.in1, recursionLimit, cLine] at *); omega))
  (k_with "my_fill" => ((have hfill : (fun (_ : OpenLaw) (_ : Params → Frag) => True) PySem.Challenge.rw_rg0207_01 Mine.hd.heap_1 := by k_fill; trivial); clear hfill))
  (k_with "my_in" => ((case k6 => k_is); (case k7 => k_is); (case k8 => first | exact Nat.lt_of_le_of_lt (Nat.le_add_right _ _) (by with_reducible assumption) | (simp only [recursionLimit] at *; omega)); (case k9 => first | exact BindsTo.of_eq rfl | exact binds_K (Frag.In.keeps (by assumption) (by assumption)) rfl (by k_is) rfl rfl rfl); (case c5 => decide); (case kB => exact locs rfl); (case c2 => exact rfl); (case c3 => exact rfl); (case c4 => exact rfl)))
  (k_with "my_sub" => repeat' (first | exact List.forall_mem_nil _ | refine List.forall_mem_cons.mpr ⟨?_, ?_⟩ | k_mem))
  (k_with "exec For Name Call cons nil" => (k_here; k_dflt (refine my_For ?_)))
  (k_with "exec For Name Name cons nil" => (k_here; k_dflt (refine my_For ?_)))
  (k_with "newTuple" => (k_here; k_dflt (refine my_newTuple (by k_asm) (by k_asm) ?_ (by size_fits); k_whole); intro l' h' F' N' l1; (try k_lt l1); (try k_sweep)))
  (k_with "call type:range" => (k_here; (with_reducible rename Fr _ _ _ _ => F'); (with_reducible rename News _ _ _ _ => N'); first | (with_unfolding_all refine range1_rows F' N' ?_; intro h' tk' t' u' v' R' F' N' k'; (try k_sweep)) | (with_unfolding_all refine range2_rows F' N' ?_; intro h' tk' t' u' v' R' F' N' k'; (try k_sweep))))
  (k_with "my_inC" => ((case k6 => k_is); (case k7 => k_is); (case k8 => first | exact Nat.lt_of_le_of_lt (Nat.le_add_right _ _) (by with_reducible assumption) | (simp only [recursionLimit] at *; omega)); (case k9 => exact BindsTo.of_eq rfl); (case kB => exact rfl); (case kD => decide +kernel); (case c2 => exact rfl); (case c3 => exact rfl); (case c4 => exact rfl)))
  (k_with "eval Name" => (k_here; kc_free; k_dflt (refine name_free (by k_asm) (by rfl) (by assumption) (by assumption) ?_ (by rfl) (by rfl); k_whole)))
  (k_with "last call builtin:len" => (k_here; k_dflt (refine call_len_list (by is_list) (by ((try simp only [Array.size_push, List.size_toArray]); omega)) ?_; k_whole); (try simp only [Array.size_push])))
  (k_with "my_ints" => first | assumption | l_ints | l_intsW)
  (k_with "my_fit" => ((try simp only [sizeLine_eq, List.length_append, List.length_cons, List.length_nil, List.length_reverse, List.length_map, List.size_toArray, Array.size_push]); omega))
  (k_with "binaryOp Add ref ref" => (k_here; (with_reducible show wpAny _ _ (binaryOp _ (Value.ref _) (Value.ref _)) _ _ _); k_dflt (refine my_addL (by k_asm) (by k_asm) (by kmk_list) (by kmk_list) (by k_extra "my_ints") (by k_extra "my_ints") ?_ (by k_extra "my_fit"); k_whole); intro D' h' F' N' l1 hI'; (try k_lt l1); (try k_sweep)))
  (k_with "exec While Compare cons nil" => (k_here; k_dflt (refine my_While ?_)))
  (k_with "my_len" => ((try simp only [Around.deeper, Around.in1, recursionLimit, cLine, List.length_append, List.length_take, List.length_drop, List.length_cons, List.length_nil] at *); omega))
  (k_with "eval ListComp" => (k_here; first | (lct_look; k_dflt (refine LCt.ListComp_T (F₀ := by k_asm) (by with_unfolding_all rfl) (by decide) (by rfl) (by decide) (by rfl) ?_)) | k_dflt (refine LCg.ListComp_U (F₀ := by k_asm) (by with_unfolding_all rfl) (by decide) (by rfl) (by decide) (by rfl) ?_)))
  (k_with "exec Assign cons ListComp" => (k_here; first | (lct_look; k_dflt (refine LCt.Assign_ListComp_T (F₀ := by k_asm) (by rfl) (by with_unfolding_all rfl) (by with_unfolding_all rfl) (by decide) (by rfl) (by decide) (by rfl) (by rfl) (by rfl) ?_)) | k_dflt (refine LCg.Assign_ListComp_U (F₀ := by k_asm) (by rfl) (by with_unfolding_all rfl) (by with_unfolding_all rfl) (by decide) (by rfl) (by decide) (by rfl) (by rfl) (by rfl) ?_)))
  (k_with "call ref" => (k_here; (with_reducible show wpAny _ _ (call (Value.ref 228) _) _ _ _); k_dflt (refine named_K (by k_asm) (by k_asm) (by k_asm) (by k_asm) (by rfl) (by k_extra "my_room") (by k_extra "my_room") (by assumption) (by is_list) (by first | assumption | l_ints | l_intsW) (by assumption) ?_; k_whole); intro h' tk' rK F' N' hNm; (try k_sweep); (rcases hNm with ⟨hr', eNm⟩ | ⟨aN, vsN, fN, hr', eNm, hlN, hiN⟩ <;> subst hr'); all_goals (try (have hzN := named_len (by assumption) eNm hiN; have hfN := named_len2 (by assumption) eNm))))
  (k_with "call ref" => (k_here; (with_reducible show wpAny _ _ (call (Value.ref _) [Value.ref _]) _ _ _); k_dflt (refine ask_K (by k_asm) (by k_asm) (by k_asm) (by k_asm) (by assumption) (by k_updF) (by k_all) (by rfl) (by k_extra "my_room") (by k_extra "my_room") (by first | with_reducible assumption | omega) (by k_extra "my_ints") (by k_extra "my_fit") ?_; k_whole); intro h' tk' rK cK lK tK usK nrK ncK nlK ansK smK hAR F' N' nr' nl' nc' hAI; (replace nr' := allNe_of nr'); (replace nl' := allNe_of nl'); (replace nc' := allNe_of nc'); ((replace nr' := Mine.toNe2 nr'); dsimp only [↓Mine.ne2_cons, ↓Mine.ne2_one, ↓Mine.ne2_nil] at nr'; (replace nl' := Mine.toNe2 nl'); dsimp only [↓Mine.ne2_cons, ↓Mine.ne2_one, ↓Mine.ne2_nil] at nl'; (replace nc' := Mine.toNe2 nc'); dsimp only [↓Mine.ne2_cons, ↓Mine.ne2_one, ↓Mine.ne2_nil] at nc'); (try k_sweep); cases hAR))
  (k_with "callWith" => (k_here; (with_reducible show wpAny _ _ (callWith _ (Value.ref _) _ _ _) _ _ _); k_dflt (refine callWith_F (by exact AskEnv.fnAt (by assumption) (by k_asm)) ?_ (by exact rfl) (by exact rfl); k_whole)))
  (k_with "callWith" => (k_here; (with_reducible show wpAny _ _ (callWith _ (Prod.fst _) _ _ _) _ _ _); dsimp only; walk_at "callWith"))
  (k_with "FnAt" => exact AskEnv.fnAt (by assumption) (by k_asm))
  (k_with "call ref" => (k_here; (with_reducible show wpAny _ _ (call (Value.ref 154) _) _ _ _); k_dflt (refine enough_K (by k_asm) (by k_asm) (by k_asm) (by k_asm) (by assumption) (by k_mem) (by k_mem) (by k_updF) (by (intro o'; k_updF)) (by rfl) (by k_extra "my_room") (by k_extra "my_room") (by first | omega | exact (by decide)) (by first | assumption | rfl) (by is_list) (by k_extra "my_ints") (by k_extra "my_fit") (by k_ne) ?_ ?_; (focus (intro h' tk' cnt' sure' its' n' ta' hEn hSz hLe F' N'; (try k_sweep))); rotate_left; (focus (intro h' tk' cnt' sure' its' n' ta' rK usK lK naK hEn hSz hLe F' N' nr' hIr; (replace nr' := allNe_of nr'); ((replace nr' := Mine.toNe2 nr'); dsimp only [↓Mine.ne2_cons, ↓Mine.ne2_one, ↓Mine.ne2_nil] at nr'); (try k_sweep))))))
  trivial
def bhV (H : List (List Int)) (dark : List Int) (most : Nat) (st : Nat × Bool) (base some : List Int) (new : Bool) : List Int × (Nat × Bool) :=
  match (if new then enV H dark most st base else (none, st)) with
  | (.some _, st1) => ([], st1)
  | (.none, st1) =>
    if h : some.length < 2 then (some, st1) else
      match bhV H dark most st1 (base ++ some.take (some.length / 2)) (some.drop (some.length / 2)) true with
      | (late, st2) => match bhV H dark most st2 (base ++ late) (some.take (some.length / 2)) (!decide (late = [])) with
        | (early, st3) => (early ++ late, st3)
  termination_by some.length
  decreasing_by
    · rw [List.length_drop]; omega
    · rw [List.length_take]; omega
section
variable (prog : Program) (w : World) (p : Program) (loose : List Str) (mean : ExcName → Option Value) (mg mb : Str → Option Value)
def BhSpec (k : Nat) : Prop := ∀ {h₀ : Heap} {A : Around} {s : Shared} {x dx fn hid drk hrd bl sl : Addr} {H : List (List Int)} {its : Array Value} {n : Nat} {vb vs : List Value} {base some dark : List Int} {most cnt : Nat} {sure new : Bool} {t1 t2 t3 t4 tm ta : Tok} {Q E : Value → Shared → Prop}
   (_ : (hd.heap_1 w.params).In h₀) (_ : Top p loose mean mg mb h₀) (_ : h₀.StaysIn s.heap) (_ : A.handled = none) (_ : some.length ≤ k) (_ : A.depth + 40 + some.length < recursionLimit) (_ : A.units + 800 + 8 * some.length < cLine)
   (_ : AskEnv w h₀ fn hid drk hrd H dark) (_ : s.heap.get? hrd = .some (W.listOf its n)) (_ : its.size = cnt) (_ : cnt + 2 * some.length ≤ 1500) (_ : h₀.get? hrd = none)
   (_ : s.heap.get? x = .some (instObj 169 dx)) (_ : h₀.get? x = none) (_ : s.heap.get? dx = .some (shrO w fn most cnt sure t1 t2 t3 t4 tm ta)) (_ : h₀.get? dx = none)
   (_ : s.heap.IsList bl vb.toArray) (_ : IntsAre vb base) (_ : s.heap.IsList sl vs.toArray) (_ : IntsAre vs some) (_ : 1 ≤ some.length) (_ : base.length + some.length ≤ 50) (_ : @Ne Nat bl hrd) (_ : @Ne Nat sl hrd)
   (_ : ∀ h' tk' r us l na cnt' sure' its' n' ta', bhV H dark most (cnt, sure) base some new = (l, cnt', sure') → its'.size = cnt' → cnt' + 1 ≤ cnt + 2 * some.length → Own [hrd, dx] s.heap h' → h'.get? hrd = .some (W.listOf its' n') → h'.get? dx = .some (shrO w fn most cnt' sure' t1 t2 t3 t4 tm ta') →
     s.heap.get? r = none → h'.get? r = .some (W.listOf us.toArray na) → IntsAre us l → l.length ≤ some.length → Q (.ref r) { s with heap := h', toks := tk' }),
   wpAny (model prog w) A (call (.ref 166) [.ref x, .ref bl, .ref sl, .bool new]) Q E s
end
section
variable {prog : Program} {w : World} {p : Program} {loose : List Str} {mean : ExcName → Option Value} {mg mb : Str → Option Value}
theorem bh_K {k : Nat} (spec : BhSpec prog w p loose mean mg mb k) {A : Around} {s : Shared} {g : Heap} {L x dx fn hid drk hrd bl sl : Addr} {m₀ : Str → Option Value} {news : List (Addr × Obj)} {g1 : Obj → List (Addr × Obj)} {g2 : Obj → Obj → List (Addr × Obj)}
   {H : List (List Int)} {its : Array Value} {n : Nat} {vb vs : List Value} {base some dark : List Int} {most cnt : Nat} {sure new : Bool} {t1 t2 t3 t4 tm ta : Tok} {Q E : Value → Shared → Prop}
   (F : Fr g L s.heap m₀) (N : News g L s.heap news) (X : (hd.heap_1 w.params).In g) (T : Top p loose mean mg mb g) (env : AskEnv w g fn hid drk hrd H dark)
   (hx : (x, instObj 169 dx) ∈ news) (hdx : (dx, shrO w fn most cnt sure t1 t2 t3 t4 tm ta) ∈ news) (U1 : UpdF hrd (W.listOf its n) news g1) (U2 : ∀ o, UpdF dx (shrO w fn most cnt sure t1 t2 t3 t4 tm ta) (g1 o) (g2 o))
   (hh : A.handled = none) (hb : s.heap.IsList bl vb.toArray) (hbi : IntsAre vb base) (hs : s.heap.IsList sl vs.toArray) (hsi : IntsAre vs some) (hk : some.length ≤ k) (hd : A.depth + 40 + some.length < recursionLimit) (hu : A.units + 800 + 8 * some.length < cLine) (hcnt : its.size = cnt) (hsz : cnt + 2 * some.length ≤ 1500)
   (h1 : 1 ≤ some.length) (hlen : base.length + some.length ≤ 50) (hn1 : @Ne Nat bl hrd) (hn2 : @Ne Nat sl hrd)
   (hso : ∀ h' tk' cnt' sure' its' n' ta' r us l na, bhV H dark most (cnt, sure) base some new = (l, cnt', sure') → its'.size = cnt' → (cnt' + 1 ≤ cnt + 2 * some.length ∧ l.length ≤ some.length) → Fr g L h' m₀ → News g L h' ((r, W.listOf us.toArray na) :: g2 (W.listOf its' n') (shrO w fn most cnt' sure' t1 t2 t3 t4 tm ta')) →
     (∀ p ∈ news, p.1 ≠ r) → IntsAre us l → Q (.ref r) { s with heap := h', toks := tk' }) :
   wpAny (model prog w) A (call (.ref 166) [.ref x, .ref bl, .ref sl, .bool new]) Q E s := by
  have hr := N (hrd, W.listOf its n) (by obtain ⟨pre, post, e, _⟩ := U1.split; rw [e]; exact List.mem_append_right _ (.head _))
  have hx' := N _ hx
  have hdx' := N _ hdx
  have hne : hrd ≠ dx := apart hr.1 hdx'.1 (by show ¬ (Value.type "list" = Value.type "dict"); decide)
  refine spec X T F.keep hh hk hd hu env hr.1 hcnt hsz hr.2.2 hx'.1 hx'.2.2 hdx'.1 hdx'.2.2 hb hbi hs hsi h1 hlen hn1 hn2 fun h' tk' r us l na cnt' sure' its' n' ta' e hs' hle ow eh ed fr er hI hll => ?_
  obtain ⟨F', N'⟩ := own2 F N U1 U2 hne ow eh ed
  exact hso h' tk' _ _ _ _ _ _ _ _ _ e hs' ⟨hle, hll⟩ F' (fresh1 F fr N' er) (fresh_ne N fr) hI
end
end
section
theorem lines_Halves2 : True := by
  w_top off
  k_with_none
  (k_with "my_pj" => (with_reducible first | assumption | exact Mine.pj1l (by assumption) | exact Mine.pj1r (by assumption) | exact Mine.pj2l (by assumption) | exact Mine.pj2r (by assumption) | exact Mine.pj3l (by assumption) | exact Mine.pj3r (by assumption) | exact Mine.pj4l (by assumption) | exact Mine.pj4r (by assumption) | exact Mine.pj5l (by assumption) | exact Mine.pj5r (by assumption) | exact Mine.pj6l (by assumption) | exact Mine.pj6r (by assumption) | exact Mine.pj7l (by assumption) | exact Mine.pj7r (by assumption) | exact Mine.pj8l (by assumption) | exact Mine.pj8r (by assumption) | exact Mine.pj9l (by assumption) | exact Mine.pj9r (by assumption) | exact Mine.pj10l (by assumption) | exact Mine.pj10r (by assumption) | exact Mine.pj11l (by assumption) | exact Mine.pj11r (by assumption) | exact Mine.pj12l (by assumption) | exact Mine.pj12r (by assumption) | exact Mine.pj13l (by assumption) | exact Mine.pj13r (by assumption) | exact Mine.pj14l (by assumption) | exact Mine.pj14r (by assumption) | exact Mine.pj15l (by assumption) | exact Mine.pj15r (by assumption) | exact Mine.pj16l (by assumption) | exact Mine.pj16r (by assumption)))
  (k_with "my_ne" => (refine neN ?_; (try dsimp only); first | with_reducible assumption | exact Ne.symm (by with_reducible assumption) | (refine Mine.neOr ?_; simp only [*, true_or, or_true, ne_eq, not_false_eq_true]; done) | (refine Ne.symm (Mine.neOr ?_); simp only [*, true_or, or_true, ne_eq, not_false_eq_true]; done) | omega))
  (k_with "my_room" => first | exact room1 (by with_reducible assumption) rfl rfl | exact room0 (by with_reducible assumption) rfl rfl | ((simp only [Around.deeper, Around.in1, recursionLimit, cLine] at *); omega))
  (k_with "my_fill" => ((have hfill : (fun (_ : OpenLaw) (_ : Params → Frag) => True) PySem.Challenge.rw_rg0207_01 Mine.hd.heap_1 := by k_fill; trivial); clear hfill))
  (k_with "my_in" => ((case k6 => k_is); (case k7 => k_is); (case k8 => first | exact Nat.lt_of_le_of_lt (Nat.le_add_right _ _) (by with_reducible assumption) | (simp only [recursionLimit] at *; omega)); (case k9 => first | exact BindsTo.of_eq rfl | exact binds_K (Frag.In.keeps (by assumption) (by assumption)) rfl (by k_is) rfl rfl rfl); (case c5 => decide); (case kB => exact locs rfl); (case c2 => exact rfl); (case c3 => exact rfl); (case c4 => exact rfl)))
  (k_with "my_sub" => repeat' (first | exact List.forall_mem_nil _ | refine List.forall_mem_cons.mpr ⟨?_, ?_⟩ | k_mem))
  (k_with "exec For Name Call cons nil" => (k_here; k_dflt (refine my_For ?_)))
  (k_with "exec For Name Name cons nil" => (k_here; k_dflt (refine my_For ?_)))
  (k_with "newTuple" => (k_here; k_dflt (refine my_newTuple (by k_asm) (by k_asm) ?_ (by size_fits); k_whole); intro l' h' F' N' l1; (try k_lt l1); (try k_sweep)))
  (k_with "call type:range" => (k_here; (with_reducible rename Fr _ _ _ _ => F'); (with_reducible rename News _ _ _ _ => N'); first | (with_unfolding_all refine range1_rows F' N' ?_; intro h' tk' t' u' v' R' F' N' k'; (try k_sweep)) | (with_unfolding_all refine range2_rows F' N' ?_; intro h' tk' t' u' v' R' F' N' k'; (try k_sweep))))
  (k_with "my_inC" => ((case k6 => k_is); (case k7 => k_is); (case k8 => first | exact Nat.lt_of_le_of_lt (Nat.le_add_right _ _) (by with_reducible assumption) | (simp only [recursionLimit] at *; omega)); (case k9 => exact BindsTo.of_eq rfl); (case kB => exact rfl); (case kD => decide +kernel); (case c2 => exact rfl); (case c3 => exact rfl); (case c4 => exact rfl)))
  (k_with "eval Name" => (k_here; kc_free; k_dflt (refine name_free (by k_asm) (by rfl) (by assumption) (by assumption) ?_ (by rfl) (by rfl); k_whole)))
  (k_with "last call builtin:len" => (k_here; k_dflt (refine call_len_list (by is_list) (by ((try simp only [Array.size_push, List.size_toArray]); omega)) ?_; k_whole); (try simp only [Array.size_push])))
  (k_with "my_ints" => first | assumption | l_ints | l_intsW)
  (k_with "my_fit" => ((try simp only [sizeLine_eq, List.length_append, List.length_cons, List.length_nil, List.length_reverse, List.length_map, List.size_toArray, Array.size_push]); omega))
  (k_with "binaryOp Add ref ref" => (k_here; (with_reducible show wpAny _ _ (binaryOp _ (Value.ref _) (Value.ref _)) _ _ _); k_dflt (refine my_addL (by k_asm) (by k_asm) (by kmk_list) (by kmk_list) (by k_extra "my_ints") (by k_extra "my_ints") ?_ (by k_extra "my_fit"); k_whole); intro D' h' F' N' l1 hI'; (try k_lt l1); (try k_sweep)))
  (k_with "exec While Compare cons nil" => (k_here; k_dflt (refine my_While ?_)))
  (k_with "my_len" => ((try simp only [Around.deeper, Around.in1, recursionLimit, cLine, List.length_append, List.length_take, List.length_drop, List.length_cons, List.length_nil] at *); omega))
  (k_with "eval ListComp" => (k_here; first | (lct_look; k_dflt (refine LCt.ListComp_T (F₀ := by k_asm) (by with_unfolding_all rfl) (by decide) (by rfl) (by decide) (by rfl) ?_)) | k_dflt (refine LCg.ListComp_U (F₀ := by k_asm) (by with_unfolding_all rfl) (by decide) (by rfl) (by decide) (by rfl) ?_)))
  (k_with "exec Assign cons ListComp" => (k_here; first | (lct_look; k_dflt (refine LCt.Assign_ListComp_T (F₀ := by k_asm) (by rfl) (by with_unfolding_all rfl) (by with_unfolding_all rfl) (by decide) (by rfl) (by decide) (by rfl) (by rfl) (by rfl) ?_)) | k_dflt (refine LCg.Assign_ListComp_U (F₀ := by k_asm) (by rfl) (by with_unfolding_all rfl) (by with_unfolding_all rfl) (by decide) (by rfl) (by decide) (by rfl) (by rfl) (by rfl) ?_)))
  (k_with "call ref" => (k_here; (with_reducible show wpAny _ _ (call (Value.ref 228) _) _ _ _); k_dflt (refine named_K (by k_asm) (by k_asm) (by k_asm) (by k_asm) (by rfl) (by k_extra "my_room") (by k_extra "my_room") (by assumption) (by is_list) (by first | assumption | l_ints | l_intsW) (by assumption) ?_; k_whole); intro h' tk' rK F' N' hNm; (try k_sweep); (rcases hNm with ⟨hr', eNm⟩ | ⟨aN, vsN, fN, hr', eNm, hlN, hiN⟩ <;> subst hr'); all_goals (try (have hzN := named_len (by assumption) eNm hiN; have hfN := named_len2 (by assumption) eNm))))
  (k_with "call ref" => (k_here; (with_reducible show wpAny _ _ (call (Value.ref _) [Value.ref _]) _ _ _); k_dflt (refine ask_K (by k_asm) (by k_asm) (by k_asm) (by k_asm) (by assumption) (by k_updF) (by k_all) (by rfl) (by k_extra "my_room") (by k_extra "my_room") (by first | with_reducible assumption | omega) (by k_extra "my_ints") (by k_extra "my_fit") ?_; k_whole); intro h' tk' rK cK lK tK usK nrK ncK nlK ansK smK hAR F' N' nr' nl' nc' hAI; (replace nr' := allNe_of nr'); (replace nl' := allNe_of nl'); (replace nc' := allNe_of nc'); ((replace nr' := Mine.toNe2 nr'); dsimp only [↓Mine.ne2_cons, ↓Mine.ne2_one, ↓Mine.ne2_nil] at nr'; (replace nl' := Mine.toNe2 nl'); dsimp only [↓Mine.ne2_cons, ↓Mine.ne2_one, ↓Mine.ne2_nil] at nl'; (replace nc' := Mine.toNe2 nc'); dsimp only [↓Mine.ne2_cons, ↓Mine.ne2_one, ↓Mine.ne2_nil] at nc'); (try k_sweep); cases hAR))
  (k_with "callWith" => (k_here; (with_reducible show wpAny _ _ (callWith _ (Value.ref _) _ _ _) _ _ _); k_dflt (refine callWith_F (by exact AskEnv.fnAt (by assumption) (by k_asm)) ?_ (by exact rfl) (by exact rfl); k_whole)))
  (k_with "callWith" => (k_here; (with_reducible show wpAny _ _ (callWith _ (Prod.fst _) _ _ _) _ _ _); dsimp only; walk_at "callWith"))
  (k_with "FnAt" => exact AskEnv.fnAt (by assumption) (by k_asm))
  (k_with "call ref" => (k_here; (with_reducible show wpAny _ _ (call (Value.ref 154) _) _ _ _); k_dflt (refine enough_K (by k_asm) (by k_asm) (by k_asm) (by k_asm) (by assumption) (by k_mem) (by k_mem) (by k_updF) (by (intro o'; k_updF)) (by rfl) (by k_extra "my_room") (by k_extra "my_room") (by first | omega | exact (by decide)) (by first | assumption | rfl) (by is_list) (by k_extra "my_ints") (by k_extra "my_fit") (by k_ne) ?_ ?_; (focus (intro h' tk' cnt' sure' its' n' ta' hEn hSz hLe F' N'; (try k_sweep))); rotate_left; (focus (intro h' tk' cnt' sure' its' n' ta' rK usK lK naK hEn hSz hLe F' N' nr' hIr; (replace nr' := allNe_of nr'); ((replace nr' := Mine.toNe2 nr'); dsimp only [↓Mine.ne2_cons, ↓Mine.ne2_one, ↓Mine.ne2_nil] at nr'); (try k_sweep))))))
  (k_with "call ref" => (k_here; (with_reducible show wpAny _ _ (call (Value.ref 166) _) _ _ _); k_dflt (refine bh_K (by assumption) (by k_asm) (by k_asm) (by k_asm) (by k_asm) (by assumption) (by k_mem) (by k_mem) (by k_updF) (by (intro o'; k_updF)) (by rfl) (by is_list) (by k_extra "my_ints") (by is_list) (by k_extra "my_ints") (by k_extra "my_len") (by k_extra "my_len") (by k_extra "my_len") (by first | assumption | rfl) (by k_extra "my_len") (by k_extra "my_len") (by k_extra "my_len") (by k_ne) (by k_ne) ?_); intro h' tk' cnt' sure' its' n' ta' rK usK lK naK hEn hSz hLe F' N' nr' hIr; (replace nr' := allNe_of nr'); ((replace nr' := Mine.toNe2 nr'); dsimp only [↓Mine.ne2_cons, ↓Mine.ne2_one, ↓Mine.ne2_nil] at nr'); (try k_sweep)))
  trivial
theorem bhV_hit {H : List (List Int)} {dark : List Int} {most : Nat} {st st1 : Nat × Bool} {base some l : List Int} {new : Bool} (h : (if new then enV H dark most st base else (none, st)) = (.some l, st1)) : bhV H dark most st base some new = ([], st1) := by rw [bhV, h]
theorem bhV_one {H : List (List Int)} {dark : List Int} {most : Nat} {st st1 : Nat × Bool} {base some : List Int} {new : Bool} (h : (if new then enV H dark most st base else (none, st)) = (none, st1)) (h2 : some.length < 2) : bhV H dark most st base some new = (some, st1) := by
  rw [bhV, h]; simp only [h2, dite_true]
theorem bhV_two {H : List (List Int)} {dark : List Int} {most : Nat} {st st1 st2 st3 : Nat × Bool} {base some late early : List Int} {new : Bool} (h : (if new then enV H dark most st base else (none, st)) = (none, st1)) (h2 : ¬ some.length < 2)
    (e1 : bhV H dark most st1 (base ++ some.take (some.length / 2)) (some.drop (some.length / 2)) true = (late, st2)) (e2 : bhV H dark most st2 (base ++ late) (some.take (some.length / 2)) (!decide (late = [])) = (early, st3)) :
    bhV H dark most st base some new = (early ++ late, st3) := by
  rw [bhV, h]; simp only [h2, dite_false]; rw [e1]; dsimp only; rw [e2]
section
variable {prog : Program} {w : World} {p : Program} {loose : List Str} {mean : ExcName → Option Value} {mg mb : Str → Option Value}
theorem bh_step {k : Nat} (spec : BhSpec prog w p loose mean mg mb k) : BhSpec prog w p loose mean mg mb (k + 1) := by
  intro h₀ A s x dx fn hid drk hrd bl sl H its n vb vs base some dark most cnt sure new t1 t2 t3 t4 tm ta Q E X T st hh hk hd hu env hhr hcnt hsz hhr0 hx hx0 hdx hdx0 hb hbi hs hsi h1 hlen hne1 hne2 hret
  k_extra "my_fill"
  obtain ⟨_, dp, fr, gd, un⟩ := A
  obtain rfl : _ = none := hh
  have NL : Led h₀ s.heap [(hrd, W.listOf its n), (x, instObj 169 dx), (dx, shrO w fn most cnt sure t1 t2 t3 t4 tm ta)] := led1 hhr hhr0 (led1 hx hx0 (led1 hdx hdx0 led0))
  have KG := led_keep st NL
  have n1 : @Ne Nat hrd x := apart hhr hx (by show ¬ (Value.type "list" = Value.ref 169); decide)
  have n2 : @Ne Nat hrd dx := apart hhr hdx (by show ¬ (Value.type "list" = Value.type "dict"); decide)
  have n3 : @Ne Nat x dx := apart hx hdx (by show ¬ (Value.ref 169 = Value.type "dict"); decide)
  refine wpAny_call ?_
  refine' code_in X T st NL ?k6 ?k7 ?k8 ?k9 ?kB ?_ ?c2 ?c3 ?c4 ?c5
  k_extra "my_in"
  intro g L h₁ hgB F N X' T' lL lN
  k_lt lN
  rw [← hgB] at KG
  have env' := env.keep KG
  have lst : ∀ {l : Addr} {its : Array Value}, s.heap.IsList l its → @Ne Nat l hrd → g.IsList l its := fun h n => isList_base hgB h (by
    obtain ⟨o, ho, hcl, _⟩ := h
    simp only [List.map_cons, List.map_nil, List.mem_cons, List.not_mem_nil, or_false, not_or]
    exact ⟨n, apart ho hx (by rw [hcl]; show ¬ (Value.type "list" = Value.ref 169); decide), apart ho hdx (by rw [hcl]; show ¬ (Value.type "list" = Value.type "dict"); decide)⟩)
  have hb' := lst hb hne1
  have hs' := lst hs hne2
  have hvb : vb.toArray.size ≤ 100 := by rw [List.size_toArray, hbi.length]; omega
  have hvs : vs.toArray.size ≤ 100 := by rw [List.size_toArray, hsi.length]; omega
  have hll : base.length ≤ 50 := by omega
  have hll2 : some.length ≤ 50 := by omega
  have hm0 : 0 ≤ Int.fdiv (some.length : Int) 2 := Int.fdiv_nonneg (by omega) (by decide)
  have hm1 : (Int.fdiv (some.length : Int) 2).toNat = some.length / 2 := by rw [Int.fdiv_eq_ediv_of_nonneg _ (by decide)]; omega
  dsimp only
  try k_fold
  cases new with
  | false =>
    k_steps
    case _ =>
      rename News _ _ _ _ => N'
      rename Fr _ _ _ _ => F'
      try dsimp only
      have rx := N' (x, instObj 169 dx) (by k_mem)
      have rh := N' (hrd, _) (by k_mem)
      have rd := N' (dx, _) (by k_mem)
      have rr := N' _ (.head _)
      have ow := own_less (a := x) (W := [hrd, dx]) ((own_of hgB F').more (by simp only [List.map_cons, List.map_nil, List.mem_cons, List.not_mem_nil, or_false]; intro y hy; rcases hy with q | q | q <;> simp [q])) (fun o e => by rw [hx] at e; cases e; exact rx.1)
      have nf : ∀ {a : Addr}, g.get? a = none → @Ne Nat hrd a → @Ne Nat x a → @Ne Nat dx a → s.heap.get? a = none := fun e n1 n2 n3 => fresh_of hgB e (by simp only [List.map_cons, List.map_nil, List.mem_cons, List.not_mem_nil, or_false, not_or]; exact ⟨Ne.symm n1, Ne.symm n2, Ne.symm n3⟩)
      rename (some.length : Int) < 2 => hlt
      skip
      refine hret _ _ _ _ _ _ _ _ _ _ _ (bhV_one rfl (by omega)) hcnt (by omega) ow rh.1 rd.1 (nf rr.2.2 (by k_ne) (by k_ne) (by k_ne)) rr.1 hsi (Nat.le_refl _)
    case _ =>
      rename News _ _ _ _ => N'
      rename Fr _ _ _ _ => F'
      try dsimp only
      have rx := N' (x, instObj 169 dx) (by k_mem)
      have rh := N' (hrd, _) (by k_mem)
      have rd := N' (dx, _) (by k_mem)
      have rr := N' _ (.head _)
      have ow := own_less (a := x) (W := [hrd, dx]) ((own_of hgB F').more (by simp only [List.map_cons, List.map_nil, List.mem_cons, List.not_mem_nil, or_false]; intro y hy; rcases hy with q | q | q <;> simp [q])) (fun o e => by rw [hx] at e; cases e; exact rx.1)
      have nf : ∀ {a : Addr}, g.get? a = none → @Ne Nat hrd a → @Ne Nat x a → @Ne Nat dx a → s.heap.get? a = none := fun e n1 n2 n3 => fresh_of hgB e (by simp only [List.map_cons, List.map_nil, List.mem_cons, List.not_mem_nil, or_false, not_or]; exact ⟨Ne.symm n1, Ne.symm n2, Ne.symm n3⟩)
      rename ¬ (some.length : Int) < 2 => hlt
      rename bhV _ _ _ _ _ _ (!decide _) = _ => e2
      rename bhV _ _ _ _ _ _ true = _ => e1
      rename (_ ≤ _ + 2 * (List.take _ _).length) ∧ _ => l2
      rename (_ ≤ _ + 2 * (List.drop _ _).length) ∧ _ => l1'
      rename IntsAre (_ ++ _) (_ ++ _) => hI9
      rename Array.size _ = _ => hS9
      rw [hm1] at e1 e2 l1' l2
      simp only [List.length_take, List.length_drop] at l1' l2
      skip
      refine hret _ _ _ _ _ _ _ _ _ _ _ (bhV_two rfl (by omega) e1 e2) hS9 (by omega) ow rh.1 rd.1 (nf rr.2.2 (by k_ne) (by k_ne) (by k_ne)) rr.1 hI9 (by rw [List.length_append]; omega)
  | true =>
    k_steps
    case _ =>
      rename News _ _ _ _ => N'
      rename Fr _ _ _ _ => F'
      try dsimp only
      have rx := N' (x, instObj 169 dx) (by k_mem)
      have rh := N' (hrd, _) (by k_mem)
      have rd := N' (dx, _) (by k_mem)
      have rr := N' _ (.head _)
      have ow := own_less (a := x) (W := [hrd, dx]) ((own_of hgB F').more (by simp only [List.map_cons, List.map_nil, List.mem_cons, List.not_mem_nil, or_false]; intro y hy; rcases hy with q | q | q <;> simp [q])) (fun o e => by rw [hx] at e; cases e; exact rx.1)
      have nf : ∀ {a : Addr}, g.get? a = none → @Ne Nat hrd a → @Ne Nat x a → @Ne Nat dx a → s.heap.get? a = none := fun e n1 n2 n3 => fresh_of hgB e (by simp only [List.map_cons, List.map_nil, List.mem_cons, List.not_mem_nil, or_false, not_or]; exact ⟨Ne.symm n1, Ne.symm n2, Ne.symm n3⟩)
      rename enV _ _ _ _ _ = _ => hEn
      rename Array.size _ = _ => hS9
      rename _ ≤ cnt + 1 => hL9
      refine hret _ _ _ [] _ _ _ _ _ _ _ (bhV_hit (by simpa using hEn)) hS9 (by omega) ow rh.1 rd.1 (nf rr.2.2 (by k_ne) (by k_ne) (by k_ne)) rr.1 .nil (by simp)
    case _ =>
      rename News _ _ _ _ => N'
      rename Fr _ _ _ _ => F'
      try dsimp only
      have rx := N' (x, instObj 169 dx) (by k_mem)
      have rh := N' (hrd, _) (by k_mem)
      have rd := N' (dx, _) (by k_mem)
      have rr := N' _ (.head _)
      have ow := own_less (a := x) (W := [hrd, dx]) ((own_of hgB F').more (by simp only [List.map_cons, List.map_nil, List.mem_cons, List.not_mem_nil, or_false]; intro y hy; rcases hy with q | q | q <;> simp [q])) (fun o e => by rw [hx] at e; cases e; exact rx.1)
      have nf : ∀ {a : Addr}, g.get? a = none → @Ne Nat hrd a → @Ne Nat x a → @Ne Nat dx a → s.heap.get? a = none := fun e n1 n2 n3 => fresh_of hgB e (by simp only [List.map_cons, List.map_nil, List.mem_cons, List.not_mem_nil, or_false, not_or]; exact ⟨Ne.symm n1, Ne.symm n2, Ne.symm n3⟩)
      rename (some.length : Int) < 2 => hlt
      rename enV _ _ _ _ _ = _ => hEn
      rename _ ≤ cnt + 1 => hL9
      rename Array.size _ = _ => hS9
      refine hret _ _ _ _ _ _ _ _ _ _ _ (bhV_one (by simpa using hEn) (by omega)) hS9 (by omega) ow rh.1 rd.1 (nf rr.2.2 (by k_ne) (by k_ne) (by k_ne)) rr.1 hsi (Nat.le_refl _)
    case _ =>
      rename News _ _ _ _ => N'
      rename Fr _ _ _ _ => F'
      try dsimp only
      have rx := N' (x, instObj 169 dx) (by k_mem)
      have rh := N' (hrd, _) (by k_mem)
      have rd := N' (dx, _) (by k_mem)
      have rr := N' _ (.head _)
      have ow := own_less (a := x) (W := [hrd, dx]) ((own_of hgB F').more (by simp only [List.map_cons, List.map_nil, List.mem_cons, List.not_mem_nil, or_false]; intro y hy; rcases hy with q | q | q <;> simp [q])) (fun o e => by rw [hx] at e; cases e; exact rx.1)
      have nf : ∀ {a : Addr}, g.get? a = none → @Ne Nat hrd a → @Ne Nat x a → @Ne Nat dx a → s.heap.get? a = none := fun e n1 n2 n3 => fresh_of hgB e (by simp only [List.map_cons, List.map_nil, List.mem_cons, List.not_mem_nil, or_false, not_or]; exact ⟨Ne.symm n1, Ne.symm n2, Ne.symm n3⟩)
      rename ¬ (some.length : Int) < 2 => hlt
      rename bhV _ _ _ _ _ _ (!decide _) = _ => e2
      rename bhV _ _ _ _ _ _ true = _ => e1
      rename (_ ≤ _ + 2 * (List.take _ _).length) ∧ _ => l2
      rename (_ ≤ _ + 2 * (List.drop _ _).length) ∧ _ => l1'
      rename IntsAre (_ ++ _) (_ ++ _) => hI9
      rename Array.size _ = _ => hS9
      rw [hm1] at e1 e2 l1' l2
      simp only [List.length_take, List.length_drop] at l1' l2
      rename enV _ _ _ _ _ = _ => hEn
      rename _ ≤ cnt + 1 => hL9
      refine hret _ _ _ _ _ _ _ _ _ _ _ (bhV_two (by simpa using hEn) (by omega) e1 e2) hS9 (by omega) ow rh.1 rd.1 (nf rr.2.2 (by k_ne) (by k_ne) (by k_ne)) rr.1 hI9 (by rw [List.length_append]; omega)
theorem bh_zero : BhSpec prog w p loose mean mg mb 0 := by
  intro h₀ A s x dx fn hid drk hrd bl sl H its n vb vs base some dark most cnt sure new t1 t2 t3 t4 tm ta Q E X T st hh hk hd hu env hhr hcnt hsz hhr0 hx hx0 hdx hdx0 hb hbi hs hsi h1
  omega
theorem bh_spec (k : Nat) : BhSpec prog w p loose mean mg mb k := by
  induction k with
  | zero => exact bh_zero
  | succ k ih => exact bh_step ih
end
end
section
theorem lines_Shr : True := by
  w_top off
  k_with_none
  (k_with "my_pj" => (with_reducible first | assumption | exact Mine.pj1l (by assumption) | exact Mine.pj1r (by assumption) | exact Mine.pj2l (by assumption) | exact Mine.pj2r (by assumption) | exact Mine.pj3l (by assumption) | exact Mine.pj3r (by assumption) | exact Mine.pj4l (by assumption) | exact Mine.pj4r (by assumption) | exact Mine.pj5l (by assumption) | exact Mine.pj5r (by assumption) | exact Mine.pj6l (by assumption) | exact Mine.pj6r (by assumption) | exact Mine.pj7l (by assumption) | exact Mine.pj7r (by assumption) | exact Mine.pj8l (by assumption) | exact Mine.pj8r (by assumption) | exact Mine.pj9l (by assumption) | exact Mine.pj9r (by assumption) | exact Mine.pj10l (by assumption) | exact Mine.pj10r (by assumption) | exact Mine.pj11l (by assumption) | exact Mine.pj11r (by assumption) | exact Mine.pj12l (by assumption) | exact Mine.pj12r (by assumption) | exact Mine.pj13l (by assumption) | exact Mine.pj13r (by assumption) | exact Mine.pj14l (by assumption) | exact Mine.pj14r (by assumption) | exact Mine.pj15l (by assumption) | exact Mine.pj15r (by assumption) | exact Mine.pj16l (by assumption) | exact Mine.pj16r (by assumption)))
  (k_with "my_ne" => (refine neN ?_; (try dsimp only); first | with_reducible assumption | exact Ne.symm (by with_reducible assumption) | (refine Mine.neOr ?_; simp only [*, true_or, or_true, ne_eq, not_false_eq_true]; done) | (refine Ne.symm (Mine.neOr ?_); simp only [*, true_or, or_true, ne_eq, not_false_eq_true]; done) | omega))
  (k_with "my_room" => first | exact room1 (by with_reducible assumption) rfl rfl | exact room0 (by with_reducible assumption) rfl rfl | ((simp only [Around.deeper, Around.in1, recursionLimit, cLine] at *); omega))
  (k_with "my_fill" => ((have hfill : (fun (_ : OpenLaw) (_ : Params → Frag) => True) PySem.Challenge.rw_rg0207_01 Mine.hd.heap_1 := by k_fill; trivial); clear hfill))
  (k_with "my_in" => ((case k6 => k_is); (case k7 => k_is); (case k8 => first | exact Nat.lt_of_le_of_lt (Nat.le_add_right _ _) (by with_reducible assumption) | (simp only [recursionLimit] at *; omega)); (case k9 => first | exact BindsTo.of_eq rfl | exact binds_K (Frag.In.keeps (by assumption) (by assumption)) rfl (by k_is) rfl rfl rfl); (case c5 => decide); (case kB => exact locs rfl); (case c2 => exact rfl); (case c3 => exact rfl); (case c4 => exact rfl)))
  (k_with "my_sub" => repeat' (first | exact List.forall_mem_nil _ | refine List.forall_mem_cons.mpr ⟨?_, ?_⟩ | k_mem))
  (k_with "exec For Name Call cons nil" => (k_here; k_dflt (refine my_For ?_)))
  (k_with "exec For Name Name cons nil" => (k_here; k_dflt (refine my_For ?_)))
  (k_with "newTuple" => (k_here; k_dflt (refine my_newTuple (by k_asm) (by k_asm) ?_ (by size_fits); k_whole); intro l' h' F' N' l1; (try k_lt l1); (try k_sweep)))
  (k_with "call type:range" => (k_here; (with_reducible rename Fr _ _ _ _ => F'); (with_reducible rename News _ _ _ _ => N'); first | (with_unfolding_all refine range1_rows F' N' ?_; intro h' tk' t' u' v' R' F' N' k'; (try k_sweep)) | (with_unfolding_all refine range2_rows F' N' ?_; intro h' tk' t' u' v' R' F' N' k'; (try k_sweep))))
  (k_with "my_inC" => ((case k6 => k_is); (case k7 => k_is); (case k8 => first | exact Nat.lt_of_le_of_lt (Nat.le_add_right _ _) (by with_reducible assumption) | (simp only [recursionLimit] at *; omega)); (case k9 => exact BindsTo.of_eq rfl); (case kB => exact rfl); (case kD => decide +kernel); (case c2 => exact rfl); (case c3 => exact rfl); (case c4 => exact rfl)))
  (k_with "eval Name" => (k_here; kc_free; k_dflt (refine name_free (by k_asm) (by rfl) (by assumption) (by assumption) ?_ (by rfl) (by rfl); k_whole)))
  (k_with "last call builtin:len" => (k_here; k_dflt (refine call_len_list (by is_list) (by ((try simp only [Array.size_push, List.size_toArray]); omega)) ?_; k_whole); (try simp only [Array.size_push])))
  (k_with "my_ints" => first | assumption | l_ints | l_intsW)
  (k_with "my_fit" => ((try simp only [sizeLine_eq, List.length_append, List.length_cons, List.length_nil, List.length_reverse, List.length_map, List.size_toArray, Array.size_push]); omega))
  (k_with "binaryOp Add ref ref" => (k_here; (with_reducible show wpAny _ _ (binaryOp _ (Value.ref _) (Value.ref _)) _ _ _); k_dflt (refine my_addL (by k_asm) (by k_asm) (by kmk_list) (by kmk_list) (by k_extra "my_ints") (by k_extra "my_ints") ?_ (by k_extra "my_fit"); k_whole); intro D' h' F' N' l1 hI'; (try k_lt l1); (try k_sweep)))
  (k_with "exec While Compare cons nil" => (k_here; k_dflt (refine my_While ?_)))
  (k_with "my_len" => ((try simp only [Around.deeper, Around.in1, recursionLimit, cLine, List.length_append, List.length_take, List.length_drop, List.length_cons, List.length_nil] at *); omega))
  (k_with "eval ListComp" => (k_here; first | (lct_look; k_dflt (refine LCt.ListComp_T (F₀ := by k_asm) (by with_unfolding_all rfl) (by decide) (by rfl) (by decide) (by rfl) ?_)) | k_dflt (refine LCg.ListComp_U (F₀ := by k_asm) (by with_unfolding_all rfl) (by decide) (by rfl) (by decide) (by rfl) ?_)))
  (k_with "exec Assign cons ListComp" => (k_here; first | (lct_look; k_dflt (refine LCt.Assign_ListComp_T (F₀ := by k_asm) (by rfl) (by with_unfolding_all rfl) (by with_unfolding_all rfl) (by decide) (by rfl) (by decide) (by rfl) (by rfl) (by rfl) ?_)) | k_dflt (refine LCg.Assign_ListComp_U (F₀ := by k_asm) (by rfl) (by with_unfolding_all rfl) (by with_unfolding_all rfl) (by decide) (by rfl) (by decide) (by rfl) (by rfl) (by rfl) ?_)))
  (k_with "call ref" => (k_here; (with_reducible show wpAny _ _ (call (Value.ref 228) _) _ _ _); k_dflt (refine named_K (by k_asm) (by k_asm) (by k_asm) (by k_asm) (by rfl) (by k_extra "my_room") (by k_extra "my_room") (by assumption) (by is_list) (by first | assumption | l_ints | l_intsW) (by assumption) ?_; k_whole); intro h' tk' rK F' N' hNm; (try k_sweep); (rcases hNm with ⟨hr', eNm⟩ | ⟨aN, vsN, fN, hr', eNm, hlN, hiN⟩ <;> subst hr'); all_goals (try (have hzN := named_len (by assumption) eNm hiN; have hfN := named_len2 (by assumption) eNm))))
  (k_with "call ref" => (k_here; (with_reducible show wpAny _ _ (call (Value.ref _) [Value.ref _]) _ _ _); k_dflt (refine ask_K (by k_asm) (by k_asm) (by k_asm) (by k_asm) (by assumption) (by k_updF) (by k_all) (by rfl) (by k_extra "my_room") (by k_extra "my_room") (by first | with_reducible assumption | omega) (by k_extra "my_ints") (by k_extra "my_fit") ?_; k_whole); intro h' tk' rK cK lK tK usK nrK ncK nlK ansK smK hAR F' N' nr' nl' nc' hAI; (replace nr' := allNe_of nr'); (replace nl' := allNe_of nl'); (replace nc' := allNe_of nc'); ((replace nr' := Mine.toNe2 nr'); dsimp only [↓Mine.ne2_cons, ↓Mine.ne2_one, ↓Mine.ne2_nil] at nr'; (replace nl' := Mine.toNe2 nl'); dsimp only [↓Mine.ne2_cons, ↓Mine.ne2_one, ↓Mine.ne2_nil] at nl'; (replace nc' := Mine.toNe2 nc'); dsimp only [↓Mine.ne2_cons, ↓Mine.ne2_one, ↓Mine.ne2_nil] at nc'); (try k_sweep); cases hAR))
  (k_with "callWith" => (k_here; (with_reducible show wpAny _ _ (callWith _ (Value.ref _) _ _ _) _ _ _); k_dflt (refine callWith_F (by exact AskEnv.fnAt (by assumption) (by k_asm)) ?_ (by exact rfl) (by exact rfl); k_whole)))
  (k_with "callWith" => (k_here; (with_reducible show wpAny _ _ (callWith _ (Prod.fst _) _ _ _) _ _ _); dsimp only; walk_at "callWith"))
  (k_with "FnAt" => exact AskEnv.fnAt (by assumption) (by k_asm))
  (k_with "call ref" => (k_here; (with_reducible show wpAny _ _ (call (Value.ref 154) _) _ _ _); k_dflt (refine enough_K (by k_asm) (by k_asm) (by k_asm) (by k_asm) (by assumption) (by k_mem) (by k_mem) (by k_updF) (by (intro o'; k_updF)) (by rfl) (by k_extra "my_room") (by k_extra "my_room") (by first | omega | exact (by decide)) (by first | assumption | rfl) (by is_list) (by k_extra "my_ints") (by k_extra "my_fit") (by k_ne) ?_ ?_; (focus (intro h' tk' cnt' sure' its' n' ta' hEn hSz hLe F' N'; (try k_sweep))); rotate_left; (focus (intro h' tk' cnt' sure' its' n' ta' rK usK lK naK hEn hSz hLe F' N' nr' hIr; (replace nr' := allNe_of nr'); ((replace nr' := Mine.toNe2 nr'); dsimp only [↓Mine.ne2_cons, ↓Mine.ne2_one, ↓Mine.ne2_nil] at nr'); (try k_sweep))))))
  (k_with "call ref" => (k_here; (with_reducible show wpAny _ _ (call (Value.ref 166) _) _ _ _); k_dflt (refine bh_K (by assumption) (by k_asm) (by k_asm) (by k_asm) (by k_asm) (by assumption) (by k_mem) (by k_mem) (by k_updF) (by (intro o'; k_updF)) (by rfl) (by is_list) (by k_extra "my_ints") (by is_list) (by k_extra "my_ints") (by k_extra "my_len") (by k_extra "my_len") (by k_extra "my_len") (by first | assumption | rfl) (by k_extra "my_len") (by k_extra "my_len") (by k_extra "my_len") (by k_ne) (by k_ne) ?_); intro h' tk' cnt' sure' its' n' ta' rK usK lK naK hEn hSz hLe F' N' nr' hIr; (replace nr' := allNe_of nr'); ((replace nr' := Mine.toNe2 nr'); dsimp only [↓Mine.ne2_cons, ↓Mine.ne2_one, ↓Mine.ne2_nil] at nr'); (try k_sweep)))
  trivial
theorem news2 {g h : Heap} {L a b : Addr} {oa ob : Obj} {news : List (Addr × Obj)} (e1 : h.get? a = some oa) (e2 : h.get? b = some ob) (na : a ≠ L ∧ g.get? a = none) (nb : b ≠ L ∧ g.get? b = none) (N : News g L h news) : News g L h ((a, oa) :: (b, ob) :: news) := fun p hp => by
  rcases List.mem_cons.mp hp with rfl | hp
  · exact ⟨e1, na⟩
  · rcases List.mem_cons.mp hp with rfl | hp
    · exact ⟨e2, nb⟩
    · exact N p hp
section
variable {prog : Program} {w : World} {h₀ : Heap} {p : Program} {loose : List Str} {mean : ExcName → Option Value} {mg mb : Str → Option Value}
theorem mkShr {A : Around} {s : Shared} {g : Heap} {L fn : Addr} {m₀ : Str → Option Value} {news : List (Addr × Obj)} {most : Int} {tm : Tok} {Q E : Value → Shared → Prop}
   (F : Fr g L s.heap m₀) (N : News g L s.heap news) (X : (hd.heap_1 w.params).In g) (T : Top p loose mean mg mb g) (hh : A.handled = none) (hd : A.depth + 20 < recursionLimit) (hu : A.units + 200 < cLine)
   (hret : ∀ h' tk' x dx t1 t2 t3 t4 ta, Fr g L h' m₀ → News g L h' ((x, instObj 169 dx) :: (dx, shrO w fn most 0 true t1 t2 t3 t4 tm ta) :: news) → (∀ p ∈ news, p.1 < dx) → dx < x → Q (.ref x) { s with heap := h', toks := tk' }) :
   wpAny (model prog w) A (call (.ref 169) [.ref fn, .int most tm]) Q E s := by
  k_extra "my_fill"
  obtain ⟨_, dp, fr, gd, un⟩ := A
  obtain rfl : _ = none := hh
  refine' call_cls F X N ?a ?b ?c fun x dx h₁ F₁ N₁ l1 l2 => ?_
  case a => k_is
  case b => k_is
  case c => k_is
  have nx := N₁ _ (.head _)
  have nd := N₁ _ (.tail _ (.head _))
  have NL : Led g h₁ [(x, instObj 169 dx), (dx, dictOf [] 0)] := led1 nx.1 nx.2.2 (led1 nd.1 nd.2.2 led0)
  refine' code_in (s := { s with heap := h₁ }) X T F₁.keep NL ?k6 ?k7 ?k8 ?k9 ?kB ?_ ?c2 ?c3 ?c4 ?c5
  case k8 => simp only [depth_under_make, recursionLimit] at *; omega
  case k6 => k_is
  case k7 => k_is
  case k9 => exact BindsTo.of_eq rfl
  case c5 => decide
  case kB => exact locs rfl
  case c2 => exact rfl
  case c3 => exact rfl
  case c4 => exact rfl
  intro g₂ L₂ h₂ hgB F₂ N₂ X₂ T₂ lL lN
  k_lt lN
  replace l2 := ltN l2
  dsimp only
  try k_fold
  k_steps
  rename Fr _ _ _ _ => F'
  rename News _ _ _ _ => N'
  refine ⟨rfl, ?_⟩
  dsimp only
  have ow := own_of hgB F'
  have rx := N' _ (.head _)
  have rd := N' _ (.tail _ (.head _))
  have mW : ∀ b ∈ List.map (·.1) [(x, instObj 169 dx), (dx, dictOf [] 0)], g.get? b = none ∧ b ≠ L := fun b q => by
    rcases List.mem_cons.mp q with rfl | q
    · exact ⟨nx.2.2, nx.2.1⟩
    · rw [List.mem_singleton.mp q]; exact ⟨nd.2.2, nd.2.1⟩
  refine hret _ _ x dx _ _ _ _ _ (own_fr F₁ ow mW) (news2 rx.1 rd.1 nx.2 nd.2 fun p hp => ?_) l1 l2
  have np := N₁ p (.tail _ (.tail _ hp))
  refine ⟨ow _ _ np.1 fun q => ?_, np.2⟩
  have l := l1 p hp
  rcases List.mem_cons.mp q with q | q
  · rw [q] at l; exact absurd (Nat.lt_trans l l2) (Nat.lt_irrefl _)
  · rw [List.mem_singleton.mp q] at l; exact Nat.lt_irrefl _ l
end
end
section
theorem lines_Ob : True := by
  w_top off
  k_with_none
  (k_with "my_pj" => (with_reducible first | assumption | exact Mine.pj1l (by assumption) | exact Mine.pj1r (by assumption) | exact Mine.pj2l (by assumption) | exact Mine.pj2r (by assumption) | exact Mine.pj3l (by assumption) | exact Mine.pj3r (by assumption) | exact Mine.pj4l (by assumption) | exact Mine.pj4r (by assumption) | exact Mine.pj5l (by assumption) | exact Mine.pj5r (by assumption) | exact Mine.pj6l (by assumption) | exact Mine.pj6r (by assumption) | exact Mine.pj7l (by assumption) | exact Mine.pj7r (by assumption) | exact Mine.pj8l (by assumption) | exact Mine.pj8r (by assumption) | exact Mine.pj9l (by assumption) | exact Mine.pj9r (by assumption) | exact Mine.pj10l (by assumption) | exact Mine.pj10r (by assumption) | exact Mine.pj11l (by assumption) | exact Mine.pj11r (by assumption) | exact Mine.pj12l (by assumption) | exact Mine.pj12r (by assumption) | exact Mine.pj13l (by assumption) | exact Mine.pj13r (by assumption) | exact Mine.pj14l (by assumption) | exact Mine.pj14r (by assumption) | exact Mine.pj15l (by assumption) | exact Mine.pj15r (by assumption) | exact Mine.pj16l (by assumption) | exact Mine.pj16r (by assumption)))
  (k_with "my_ne" => (refine neN ?_; (try dsimp only); first | with_reducible assumption | exact Ne.symm (by with_reducible assumption) | (refine Mine.neOr ?_; simp only [*, true_or, or_true, ne_eq, not_false_eq_true]; done) | (refine Ne.symm (Mine.neOr ?_); simp only [*, true_or, or_true, ne_eq, not_false_eq_true]; done) | omega))
  (k_with "my_room" => first | exact room1 (by with_reducible assumption) rfl rfl | exact room0 (by with_reducible assumption) rfl rfl | ((simp only [Around.deeper, Around.in1, recursionLimit, cLine] at *); omega))
  (k_with "my_fill" => ((have hfill : (fun (_ : OpenLaw) (_ : Params → Frag) => True) PySem.Challenge.rw_rg0207_01 Mine.hd.heap_1 := by k_fill; trivial); clear hfill))
  (k_with "my_in" => ((case k6 => k_is); (case k7 => k_is); (case k8 => first | exact Nat.lt_of_le_of_lt (Nat.le_add_right _ _) (by with_reducible assumption) | (simp only [recursionLimit] at *; omega)); (case k9 => first | exact BindsTo.of_eq rfl | exact binds_K (Frag.In.keeps (by assumption) (by assumption)) rfl (by k_is) rfl rfl rfl); (case c5 => decide); (case kB => exact locs rfl); (case c2 => exact rfl); (case c3 => exact rfl); (case c4 => exact rfl)))
  (k_with "my_sub" => repeat' (first | exact List.forall_mem_nil _ | refine List.forall_mem_cons.mpr ⟨?_, ?_⟩ | k_mem))
  (k_with "exec For Name Call cons nil" => (k_here; k_dflt (refine my_For ?_)))
  (k_with "exec For Name Name cons nil" => (k_here; k_dflt (refine my_For ?_)))
  (k_with "newTuple" => (k_here; k_dflt (refine my_newTuple (by k_asm) (by k_asm) ?_ (by size_fits); k_whole); intro l' h' F' N' l1; (try k_lt l1); (try k_sweep)))
  (k_with "call type:range" => (k_here; (with_reducible rename Fr _ _ _ _ => F'); (with_reducible rename News _ _ _ _ => N'); first | (with_unfolding_all refine range1_rows F' N' ?_; intro h' tk' t' u' v' R' F' N' k'; (try k_sweep)) | (with_unfolding_all refine range2_rows F' N' ?_; intro h' tk' t' u' v' R' F' N' k'; (try k_sweep))))
  (k_with "my_inC" => ((case k6 => k_is); (case k7 => k_is); (case k8 => first | exact Nat.lt_of_le_of_lt (Nat.le_add_right _ _) (by with_reducible assumption) | (simp only [recursionLimit] at *; omega)); (case k9 => exact BindsTo.of_eq rfl); (case kB => exact rfl); (case kD => decide +kernel); (case c2 => exact rfl); (case c3 => exact rfl); (case c4 => exact rfl)))
  (k_with "eval Name" => (k_here; kc_free; k_dflt (refine name_free (by k_asm) (by rfl) (by assumption) (by assumption) ?_ (by rfl) (by rfl); k_whole)))
  (k_with "last call builtin:len" => (k_here; k_dflt (refine call_len_list (by is_list) (by ((try simp only [Array.size_push, List.size_toArray]); omega)) ?_; k_whole); (try simp only [Array.size_push])))
  (k_with "my_ints" => first | assumption | l_ints | l_intsW)
  (k_with "my_fit" => ((try simp only [sizeLine_eq, List.length_append, List.length_cons, List.length_nil, List.length_reverse, List.length_map, List.size_toArray, Array.size_push]); omega))
  (k_with "binaryOp Add ref ref" => (k_here; (with_reducible show wpAny _ _ (binaryOp _ (Value.ref _) (Value.ref _)) _ _ _); k_dflt (refine my_addL (by k_asm) (by k_asm) (by kmk_list) (by kmk_list) (by k_extra "my_ints") (by k_extra "my_ints") ?_ (by k_extra "my_fit"); k_whole); intro D' h' F' N' l1 hI'; (try k_lt l1); (try k_sweep)))
  (k_with "exec While Compare cons nil" => (k_here; k_dflt (refine my_While ?_)))
  (k_with "my_len" => ((try simp only [Around.deeper, Around.in1, recursionLimit, cLine, List.length_append, List.length_take, List.length_drop, List.length_cons, List.length_nil] at *); omega))
  trivial
section
variable {prog : Program} {w : World} {p : Program} {loose : List Str} {mean : ExcName → Option Value} {mg mb : Str → Option Value}
theorem ob_K {A : Around} {s : Shared} {g : Heap} {L x dx fn hid drk hrd sl : Addr} {m₀ : Str → Option Value} {news : List (Addr × Obj)} {g1 : Obj → List (Addr × Obj)} {g2 : Obj → Obj → List (Addr × Obj)}
   {H : List (List Int)} {its : Array Value} {n : Nat} {vs : List Value} {some dark : List Int} {most cnt : Nat} {sure : Bool} {t1 t2 t3 t4 tm ta : Tok} {Q E : Value → Shared → Prop}
   (F : Fr g L s.heap m₀) (N : News g L s.heap news) (X : (hd.heap_1 w.params).In g) (T : Top p loose mean mg mb g) (env : AskEnv w g fn hid drk hrd H dark)
   (hx : (x, instObj 169 dx) ∈ news) (hdx : (dx, shrO w fn most cnt sure t1 t2 t3 t4 tm ta) ∈ news) (U1 : UpdF hrd (W.listOf its n) news g1) (U2 : ∀ o, UpdF dx (shrO w fn most cnt sure t1 t2 t3 t4 tm ta) (g1 o) (g2 o))
   (hh : A.handled = none) (hd : A.depth + 40 < recursionLimit) (hu : A.units + 800 < cLine) (hcnt : its.size = cnt) (hsz : cnt ≤ 1000)
   (hs : s.heap.IsList sl vs.toArray) (hsi : IntsAre vs some) (hlen : some.length ≤ 50) (hn1 : @Ne Nat sl hrd)
   (hso : ∀ h' tk' cnt' sure' its' n' ta' r us l na, obV H dark most (cnt, sure) [] some = (l, cnt', sure') → its'.size = cnt' → cnt' ≤ cnt + some.length → Fr g L h' m₀ → News g L h' ((r, W.listOf us.toArray na) :: g2 (W.listOf its' n') (shrO w fn most cnt' sure' t1 t2 t3 t4 tm ta')) →
     (∀ p ∈ news, p.1 ≠ r) → IntsAre us l → Q (.ref r) { s with heap := h', toks := tk' }) :
   wpAny (model prog w) A (call (.ref 159) [.ref x, .ref sl]) Q E s := by
  have hr := N (hrd, W.listOf its n) (by obtain ⟨pre, post, e, _⟩ := U1.split; rw [e]; exact List.mem_append_right _ (.head _))
  have hx' := N _ hx
  have hdx' := N _ hdx
  have hne : hrd ≠ dx := apart hr.1 hdx'.1 (by show ¬ (Value.type "list" = Value.type "dict"); decide)
  refine oneByOne X T F.keep hh hd hu env hr.1 hcnt hsz hr.2.2 hx'.1 hx'.2.2 hdx'.1 hdx'.2.2 hs hsi hlen hn1 fun h' tk' r us l na cnt' sure' its' n' ta' e hs' hle ow eh ed fr er hI => ?_
  obtain ⟨F', N'⟩ := own2 F N U1 U2 hne ow eh ed
  exact hso h' tk' _ _ _ _ _ _ _ _ _ e hs' hle F' (fresh1 F fr N' er) (fresh_ne N fr) hI
end
end
section
theorem lines_Shrink : True := by
  w_top off
  k_with_none
  (k_with "my_pj" => (with_reducible first | assumption | exact Mine.pj1l (by assumption) | exact Mine.pj1r (by assumption) | exact Mine.pj2l (by assumption) | exact Mine.pj2r (by assumption) | exact Mine.pj3l (by assumption) | exact Mine.pj3r (by assumption) | exact Mine.pj4l (by assumption) | exact Mine.pj4r (by assumption) | exact Mine.pj5l (by assumption) | exact Mine.pj5r (by assumption) | exact Mine.pj6l (by assumption) | exact Mine.pj6r (by assumption) | exact Mine.pj7l (by assumption) | exact Mine.pj7r (by assumption) | exact Mine.pj8l (by assumption) | exact Mine.pj8r (by assumption) | exact Mine.pj9l (by assumption) | exact Mine.pj9r (by assumption) | exact Mine.pj10l (by assumption) | exact Mine.pj10r (by assumption) | exact Mine.pj11l (by assumption) | exact Mine.pj11r (by assumption) | exact Mine.pj12l (by assumption) | exact Mine.pj12r (by assumption) | exact Mine.pj13l (by assumption) | exact Mine.pj13r (by assumption) | exact Mine.pj14l (by assumption) | exact Mine.pj14r (by assumption) | exact Mine.pj15l (by assumption) | exact Mine.pj15r (by assumption) | exact Mine.pj16l (by assumption) | exact Mine.pj16r (by assumption)))
  (k_with "my_ne" => (refine neN ?_; (try dsimp only); first | with_reducible assumption | exact Ne.symm (by with_reducible assumption) | (refine Mine.neOr ?_; simp only [*, true_or, or_true, ne_eq, not_false_eq_true]; done) | (refine Ne.symm (Mine.neOr ?_); simp only [*, true_or, or_true, ne_eq, not_false_eq_true]; done) | omega))
  (k_with "my_room" => first | exact room1 (by with_reducible assumption) rfl rfl | exact room0 (by with_reducible assumption) rfl rfl | ((simp only [Around.deeper, Around.in1, recursionLimit, cLine] at *); omega))
  (k_with "my_fill" => ((have hfill : (fun (_ : OpenLaw) (_ : Params → Frag) => True) PySem.Challenge.rw_rg0207_01 Mine.hd.heap_1 := by k_fill; trivial); clear hfill))
  (k_with "my_in" => ((case k6 => k_is); (case k7 => k_is); (case k8 => first | exact Nat.lt_of_le_of_lt (Nat.le_add_right _ _) (by with_reducible assumption) | (simp only [recursionLimit] at *; omega)); (case k9 => first | exact BindsTo.of_eq rfl | exact binds_K (Frag.In.keeps (by assumption) (by assumption)) rfl (by k_is) rfl rfl rfl); (case c5 => decide); (case kB => exact locs rfl); (case c2 => exact rfl); (case c3 => exact rfl); (case c4 => exact rfl)))
  (k_with "my_sub" => repeat' (first | exact List.forall_mem_nil _ | refine List.forall_mem_cons.mpr ⟨?_, ?_⟩ | k_mem))
  (k_with "exec For Name Call cons nil" => (k_here; k_dflt (refine my_For ?_)))
  (k_with "exec For Name Name cons nil" => (k_here; k_dflt (refine my_For ?_)))
  (k_with "newTuple" => (k_here; k_dflt (refine my_newTuple (by k_asm) (by k_asm) ?_ (by size_fits); k_whole); intro l' h' F' N' l1; (try k_lt l1); (try k_sweep)))
  (k_with "call type:range" => (k_here; (with_reducible rename Fr _ _ _ _ => F'); (with_reducible rename News _ _ _ _ => N'); first | (with_unfolding_all refine range1_rows F' N' ?_; intro h' tk' t' u' v' R' F' N' k'; (try k_sweep)) | (with_unfolding_all refine range2_rows F' N' ?_; intro h' tk' t' u' v' R' F' N' k'; (try k_sweep))))
  (k_with "my_inC" => ((case k6 => k_is); (case k7 => k_is); (case k8 => first | exact Nat.lt_of_le_of_lt (Nat.le_add_right _ _) (by with_reducible assumption) | (simp only [recursionLimit] at *; omega)); (case k9 => exact BindsTo.of_eq rfl); (case kB => exact rfl); (case kD => decide +kernel); (case c2 => exact rfl); (case c3 => exact rfl); (case c4 => exact rfl)))
  (k_with "eval Name" => (k_here; kc_free; k_dflt (refine name_free (by k_asm) (by rfl) (by assumption) (by assumption) ?_ (by rfl) (by rfl); k_whole)))
  (k_with "last call builtin:len" => (k_here; k_dflt (refine call_len_list (by is_list) (by ((try simp only [Array.size_push, List.size_toArray]); omega)) ?_; k_whole); (try simp only [Array.size_push])))
  (k_with "my_ints" => first | assumption | l_ints | l_intsW)
  (k_with "my_fit" => ((try simp only [sizeLine_eq, List.length_append, List.length_cons, List.length_nil, List.length_reverse, List.length_map, List.size_toArray, Array.size_push]); omega))
  (k_with "binaryOp Add ref ref" => (k_here; (with_reducible show wpAny _ _ (binaryOp _ (Value.ref _) (Value.ref _)) _ _ _); k_dflt (refine my_addL (by k_asm) (by k_asm) (by kmk_list) (by kmk_list) (by k_extra "my_ints") (by k_extra "my_ints") ?_ (by k_extra "my_fit"); k_whole); intro D' h' F' N' l1 hI'; (try k_lt l1); (try k_sweep)))
  (k_with "exec While Compare cons nil" => (k_here; k_dflt (refine my_While ?_)))
  (k_with "my_len" => ((try simp only [Around.deeper, Around.in1, recursionLimit, cLine, List.length_append, List.length_take, List.length_drop, List.length_cons, List.length_nil] at *); omega))
  (k_with "eval ListComp" => (k_here; first | (lct_look; k_dflt (refine LCt.ListComp_T (F₀ := by k_asm) (by with_unfolding_all rfl) (by decide) (by rfl) (by decide) (by rfl) ?_)) | k_dflt (refine LCg.ListComp_U (F₀ := by k_asm) (by with_unfolding_all rfl) (by decide) (by rfl) (by decide) (by rfl) ?_)))
  (k_with "exec Assign cons ListComp" => (k_here; first | (lct_look; k_dflt (refine LCt.Assign_ListComp_T (F₀ := by k_asm) (by rfl) (by with_unfolding_all rfl) (by with_unfolding_all rfl) (by decide) (by rfl) (by decide) (by rfl) (by rfl) (by rfl) ?_)) | k_dflt (refine LCg.Assign_ListComp_U (F₀ := by k_asm) (by rfl) (by with_unfolding_all rfl) (by with_unfolding_all rfl) (by decide) (by rfl) (by decide) (by rfl) (by rfl) (by rfl) ?_)))
  (k_with "call ref" => (k_here; (with_reducible show wpAny _ _ (call (Value.ref 228) _) _ _ _); k_dflt (refine named_K (by k_asm) (by k_asm) (by k_asm) (by k_asm) (by rfl) (by k_extra "my_room") (by k_extra "my_room") (by assumption) (by is_list) (by first | assumption | l_ints | l_intsW) (by assumption) ?_; k_whole); intro h' tk' rK F' N' hNm; (try k_sweep); (rcases hNm with ⟨hr', eNm⟩ | ⟨aN, vsN, fN, hr', eNm, hlN, hiN⟩ <;> subst hr'); all_goals (try (have hzN := named_len (by assumption) eNm hiN; have hfN := named_len2 (by assumption) eNm))))
  (k_with "call ref" => (k_here; (with_reducible show wpAny _ _ (call (Value.ref _) [Value.ref _]) _ _ _); k_dflt (refine ask_K (by k_asm) (by k_asm) (by k_asm) (by k_asm) (by assumption) (by k_updF) (by k_all) (by rfl) (by k_extra "my_room") (by k_extra "my_room") (by first | with_reducible assumption | omega) (by k_extra "my_ints") (by k_extra "my_fit") ?_; k_whole); intro h' tk' rK cK lK tK usK nrK ncK nlK ansK smK hAR F' N' nr' nl' nc' hAI; (replace nr' := allNe_of nr'); (replace nl' := allNe_of nl'); (replace nc' := allNe_of nc'); ((replace nr' := Mine.toNe2 nr'); dsimp only [↓Mine.ne2_cons, ↓Mine.ne2_one, ↓Mine.ne2_nil] at nr'; (replace nl' := Mine.toNe2 nl'); dsimp only [↓Mine.ne2_cons, ↓Mine.ne2_one, ↓Mine.ne2_nil] at nl'; (replace nc' := Mine.toNe2 nc'); dsimp only [↓Mine.ne2_cons, ↓Mine.ne2_one, ↓Mine.ne2_nil] at nc'); (try k_sweep); cases hAR))
  (k_with "callWith" => (k_here; (with_reducible show wpAny _ _ (callWith _ (Value.ref _) _ _ _) _ _ _); k_dflt (refine callWith_F (by exact AskEnv.fnAt (by assumption) (by k_asm)) ?_ (by exact rfl) (by exact rfl); k_whole)))
  (k_with "callWith" => (k_here; (with_reducible show wpAny _ _ (callWith _ (Prod.fst _) _ _ _) _ _ _); dsimp only; walk_at "callWith"))
  (k_with "FnAt" => exact AskEnv.fnAt (by assumption) (by k_asm))
  (k_with "call ref" => (k_here; (with_reducible show wpAny _ _ (call (Value.ref 154) _) _ _ _); k_dflt (refine enough_K (by k_asm) (by k_asm) (by k_asm) (by k_asm) (by assumption) (by k_mem) (by k_mem) (by k_updF) (by (intro o'; k_updF)) (by rfl) (by k_extra "my_room") (by k_extra "my_room") (by first | omega | exact (by decide)) (by first | assumption | rfl) (by is_list) (by k_extra "my_ints") (by k_extra "my_fit") (by k_ne) ?_ ?_; (focus (intro h' tk' cnt' sure' its' n' ta' hEn hSz hLe F' N'; (try k_sweep))); rotate_left; (focus (intro h' tk' cnt' sure' its' n' ta' rK usK lK naK hEn hSz hLe F' N' nr' hIr; (replace nr' := allNe_of nr'); ((replace nr' := Mine.toNe2 nr'); dsimp only [↓Mine.ne2_cons, ↓Mine.ne2_one, ↓Mine.ne2_nil] at nr'); (try k_sweep))))))
  (k_with "call ref" => (k_here; (with_reducible show wpAny _ _ (call (Value.ref 166) _) _ _ _); k_dflt (refine bh_K (by assumption) (by k_asm) (by k_asm) (by k_asm) (by k_asm) (by assumption) (by k_mem) (by k_mem) (by k_updF) (by (intro o'; k_updF)) (by rfl) (by is_list) (by k_extra "my_ints") (by is_list) (by k_extra "my_ints") (by k_extra "my_len") (by k_extra "my_len") (by k_extra "my_len") (by first | assumption | rfl) (by k_extra "my_len") (by k_extra "my_len") (by k_extra "my_len") (by k_ne) (by k_ne) ?_); intro h' tk' cnt' sure' its' n' ta' rK usK lK naK hEn hSz hLe F' N' nr' hIr; (replace nr' := allNe_of nr'); ((replace nr' := Mine.toNe2 nr'); dsimp only [↓Mine.ne2_cons, ↓Mine.ne2_one, ↓Mine.ne2_nil] at nr'); (try k_sweep)))
  (k_with "call ref" => (k_here; (with_reducible show wpAny _ _ (call (Value.ref 169) _) _ _ _); k_dflt (refine mkShr (by k_asm) (by k_asm) (by k_asm) (by k_asm) (by rfl) (by k_extra "my_room") (by k_extra "my_room") ?_; k_whole); intro h' tk' x' dx' t1 t2 t3 t4 ta F' N' l1 l2; (try k_lt l1); (replace l2 := ltN l2); (try k_sweep)))
  (k_with "call ref" => (k_here; (with_reducible show wpAny _ _ (call (Value.ref 159) _) _ _ _); k_dflt (refine ob_K (by k_asm) (by k_asm) (by k_asm) (by k_asm) (by assumption) (by k_mem) (by k_mem) (by k_updF) (by (intro o'; k_updF)) (by rfl) (by k_extra "my_len") (by k_extra "my_len") (by first | assumption | rfl) (by k_extra "my_len") (by is_list) (by k_extra "my_ints") (by k_extra "my_len") (by k_ne) ?_); intro h' tk' cnt' sure' its' n' ta' rK usK lK naK hEn hSz hLe F' N' nr' hIr; (replace nr' := allNe_of nr'); ((replace nr' := Mine.toNe2 nr'); dsimp only [↓Mine.ne2_cons, ↓Mine.ne2_one, ↓Mine.ne2_nil] at nr'); (try k_sweep)))
  trivial
def shV (H : List (List Int)) (dark : List Int) (most : Nat) (core : List Int) : List Int × Bool :=
  if core.length < 6 then ((obV H dark most (0, true) [] core).1, (obV H dark most (0, true) [] core).2.2)
  else match enV H dark most (0, true) [] with
    | (some _, _) => ([], true)
    | (none, st) => ((bhV H dark most st [] core false).1, (bhV H dark most st [] core false).2.2)
section
variable {prog : Program} {w : World} {h₀ : Heap} {p : Program} {loose : List Str} {mean : ExcName → Option Value} {mg mb : Str → Option Value}
theorem shrink {A : Around} {s : Shared} {fn hid drk hrd cl : Addr} {H : List (List Int)} {n : Nat} {vs : List Value} {core dark : List Int} {most : Nat} {tm : Tok} {Q E : Value → Shared → Prop}
   (X : (hd.heap_1 w.params).In h₀) (T : Top p loose mean mg mb h₀) (st : h₀.StaysIn s.heap) (hh : A.handled = none) (hd : A.depth + 120 < recursionLimit) (hu : A.units + 2000 < cLine)
   (env : AskEnv w h₀ fn hid drk hrd H dark) (hhr : s.heap.get? hrd = some (W.listOf #[] n)) (hhr0 : h₀.get? hrd = none)
   (hk : s.heap.IsList cl vs.toArray) (hi : IntsAre vs core) (hlen : core.length ≤ 40) (hne : @Ne Nat cl hrd)
   (hret : ∀ h' tk' t r us l na its' n' b, shV H dark most core = (l, b) → Own [hrd] s.heap h' → h'.get? hrd = some (W.listOf its' n') → s.heap.get? t = none → h'.get? t = some (tupOf #[.ref r, .bool b] 0) → s.heap.get? r = none →
     h'.get? r = some (W.listOf us.toArray na) → IntsAre us l → Q (.ref t) { s with heap := h', toks := tk' }) :
   wpAny (model prog w) A (call (.ref 181) [.ref cl, .ref fn, .int most tm]) Q E s := by
  k_extra "my_fill"
  obtain ⟨_, dp, fr, gd, un⟩ := A
  obtain rfl : _ = none := hh
  have NL : Led h₀ s.heap [(hrd, W.listOf #[] n)] := led1 hhr hhr0 led0
  have KG := led_keep st NL
  refine wpAny_call ?_
  refine' code_in X T st NL ?k6 ?k7 ?k8 ?k9 ?kB ?_ ?c2 ?c3 ?c4 ?c5
  k_extra "my_in"
  intro g L h₁ hgB F N X' T' lL lN
  k_lt lN
  rw [← hgB] at KG
  have env' := env.keep KG
  have hk' : g.IsList cl vs.toArray := isList_base hgB hk (by simpa using hne)
  have hvl : vs.toArray.size ≤ 100 := by rw [List.size_toArray, hi.length]; omega
  have hsp : BhSpec prog w p loose mean mg mb 40 := bh_spec 40
  dsimp only
  try k_fold
  k_steps
  case _ =>
    rename News _ _ _ _ => N'
    rename Fr _ _ _ _ => F'
    rename obV _ _ _ _ _ _ = _ => hEn
    have rh := N' (hrd, _) (by k_mem)
    have nf : ∀ {a : Addr}, g.get? a = none → @Ne Nat hrd a → s.heap.get? a = none := fun e n1 => fresh_of hgB e (by rw [List.map_cons, List.map_nil]; exact fun q => n1 (List.mem_singleton.mp q).symm)
    have rt := N' _ (.head _)
    have rr := N' _ (.tail _ (.head _))
    have hl : core.length < 6 := by omega
    exact hret _ _ _ _ _ _ _ _ _ _ (by rw [shV, if_pos hl, hEn]) (own_of hgB F') rh.1 (nf rt.2.2 (by omega)) rt.1 (nf rr.2.2 (by omega)) rr.1 (by assumption)
  case _ =>
    rename News _ _ _ _ => N'
    rename Fr _ _ _ _ => F'
    rename enV _ _ _ _ _ = _ => hEn
    have rh := N' (hrd, _) (by k_mem)
    have nf : ∀ {a : Addr}, g.get? a = none → @Ne Nat hrd a → s.heap.get? a = none := fun e n1 => fresh_of hgB e (by rw [List.map_cons, List.map_nil]; exact fun q => n1 (List.mem_singleton.mp q).symm)
    have rt := N' _ (.head _)
    have rr := N' _ (.tail _ (.head _))
    have hl : ¬ core.length < 6 := by omega
    exact hret _ _ _ _ [] [] _ _ _ _ (by rw [shV, if_neg hl, hEn]) (own_of hgB F') rh.1 (nf rt.2.2 (by omega)) rt.1 (nf rr.2.2 (by omega)) rr.1 IntsAre.nil
  case _ =>
    rename News _ _ _ _ => N'
    rename Fr _ _ _ _ => F'
    rename enV _ _ _ _ _ = _ => hEn
    rename bhV _ _ _ _ _ _ _ = _ => hBh
    have rh := N' (hrd, _) (by k_mem)
    have nf : ∀ {a : Addr}, g.get? a = none → @Ne Nat hrd a → s.heap.get? a = none := fun e n1 => fresh_of hgB e (by rw [List.map_cons, List.map_nil]; exact fun q => n1 (List.mem_singleton.mp q).symm)
    have rt := N' _ (.head _)
    have rr := N' _ (.tail _ (.head _))
    have hl : ¬ core.length < 6 := by omega
    exact hret _ _ _ _ _ _ _ _ _ _ (by rw [shV, if_neg hl, hEn]; show ((bhV _ _ _ _ _ _ _).1, (bhV _ _ _ _ _ _ _).2.2) = _; rw [hBh]) (own_of hgB F') rh.1 (nf rt.2.2 (by omega)) rt.1 (nf rr.2.2 (by omega)) rr.1 (by assumption)
theorem shrink_K {A : Around} {s : Shared} {g : Heap} {L fn hid drk hrd cl : Addr} {m₀ : Str → Option Value} {news : List (Addr × Obj)} {g1 : Obj → List (Addr × Obj)} {H : List (List Int)} {n : Nat} {vs : List Value} {core dark : List Int} {most : Nat} {tm : Tok} {Q E : Value → Shared → Prop}
   (F : Fr g L s.heap m₀) (N : News g L s.heap news) (X : (hd.heap_1 w.params).In g) (T : Top p loose mean mg mb g) (env : AskEnv w g fn hid drk hrd H dark)
   (U1 : UpdF hrd (W.listOf #[] n) news g1) (hh : A.handled = none) (hd : A.depth + 120 < recursionLimit) (hu : A.units + 2000 < cLine)
   (hk : s.heap.IsList cl vs.toArray) (hi : IntsAre vs core) (hlen : core.length ≤ 40) (hne : @Ne Nat cl hrd)
   (hret : ∀ h' tk' t r us l na its' n' b, shV H dark most core = (l, b) → Fr g L h' m₀ → News g L h' ((t, tupOf #[.ref r, .bool b] 0) :: (r, W.listOf us.toArray na) :: g1 (W.listOf its' n')) → (∀ p ∈ news, p.1 ≠ t) → (∀ p ∈ news, p.1 ≠ r) → @Ne Nat t r → IntsAre us l → Q (.ref t) { s with heap := h', toks := tk' }) :
   wpAny (model prog w) A (call (.ref 181) [.ref cl, .ref fn, .int most tm]) Q E s := by
  have hr := N (hrd, W.listOf #[] n) (by obtain ⟨pre, post, e, _⟩ := U1.split; rw [e]; exact List.mem_append_right _ (.head _))
  refine shrink X T F.keep hh hd hu env hr.1 hr.2.2 hk hi hlen hne fun h' tk' t r us l na its' n' b e ow eh ft et fr er hI => ?_
  obtain ⟨F', N'⟩ := own1 F N U1 ow eh
  exact hret _ _ _ _ _ _ _ _ _ _ e F' (fresh1 F ft (fresh1 F fr N' er) et) (fresh_ne N ft) (fresh_ne N fr) (apart et er (by show ¬ (Value.type "tuple" = Value.type "list"); decide)) hI
end
end
section
theorem lines_Core : True := by
  w_top off
  k_with_none
  (k_with "my_pj" => (with_reducible first | assumption | exact Mine.pj1l (by assumption) | exact Mine.pj1r (by assumption) | exact Mine.pj2l (by assumption) | exact Mine.pj2r (by assumption) | exact Mine.pj3l (by assumption) | exact Mine.pj3r (by assumption) | exact Mine.pj4l (by assumption) | exact Mine.pj4r (by assumption) | exact Mine.pj5l (by assumption) | exact Mine.pj5r (by assumption) | exact Mine.pj6l (by assumption) | exact Mine.pj6r (by assumption) | exact Mine.pj7l (by assumption) | exact Mine.pj7r (by assumption) | exact Mine.pj8l (by assumption) | exact Mine.pj8r (by assumption) | exact Mine.pj9l (by assumption) | exact Mine.pj9r (by assumption) | exact Mine.pj10l (by assumption) | exact Mine.pj10r (by assumption) | exact Mine.pj11l (by assumption) | exact Mine.pj11r (by assumption) | exact Mine.pj12l (by assumption) | exact Mine.pj12r (by assumption) | exact Mine.pj13l (by assumption) | exact Mine.pj13r (by assumption) | exact Mine.pj14l (by assumption) | exact Mine.pj14r (by assumption) | exact Mine.pj15l (by assumption) | exact Mine.pj15r (by assumption) | exact Mine.pj16l (by assumption) | exact Mine.pj16r (by assumption)))
  (k_with "my_ne" => (refine neN ?_; (try dsimp only); first | with_reducible assumption | exact Ne.symm (by with_reducible assumption) | (refine Mine.neOr ?_; simp only [*, true_or, or_true, ne_eq, not_false_eq_true]; done) | (refine Ne.symm (Mine.neOr ?_); simp only [*, true_or, or_true, ne_eq, not_false_eq_true]; done) | omega))
  (k_with "my_room" => first | exact room1 (by with_reducible assumption) rfl rfl | exact room0 (by with_reducible assumption) rfl rfl | ((simp only [Around.deeper, Around.in1, recursionLimit, cLine] at *); omega))
  (k_with "my_fill" => ((have hfill : (fun (_ : OpenLaw) (_ : Params → Frag) => True) PySem.Challenge.rw_rg0207_01 Mine.hd.heap_1 := by k_fill; trivial); clear hfill))
  (k_with "my_in" => ((case k6 => k_is); (case k7 => k_is); (case k8 => first | exact Nat.lt_of_le_of_lt (Nat.le_add_right _ _) (by with_reducible assumption) | (simp only [recursionLimit] at *; omega)); (case k9 => first | exact BindsTo.of_eq rfl | exact binds_K (Frag.In.keeps (by assumption) (by assumption)) rfl (by k_is) rfl rfl rfl); (case c5 => decide); (case kB => exact locs rfl); (case c2 => exact rfl); (case c3 => exact rfl); (case c4 => exact rfl)))
  (k_with "my_sub" => repeat' (first | exact List.forall_mem_nil _ | refine List.forall_mem_cons.mpr ⟨?_, ?_⟩ | k_mem))
  (k_with "exec For Name Call cons nil" => (k_here; k_dflt (refine my_For ?_)))
  (k_with "exec For Name Name cons nil" => (k_here; k_dflt (refine my_For ?_)))
  (k_with "newTuple" => (k_here; k_dflt (refine my_newTuple (by k_asm) (by k_asm) ?_ (by size_fits); k_whole); intro l' h' F' N' l1; (try k_lt l1); (try k_sweep)))
  (k_with "call type:range" => (k_here; (with_reducible rename Fr _ _ _ _ => F'); (with_reducible rename News _ _ _ _ => N'); first | (with_unfolding_all refine range1_rows F' N' ?_; intro h' tk' t' u' v' R' F' N' k'; (try k_sweep)) | (with_unfolding_all refine range2_rows F' N' ?_; intro h' tk' t' u' v' R' F' N' k'; (try k_sweep))))
  (k_with "my_inC" => ((case k6 => k_is); (case k7 => k_is); (case k8 => first | exact Nat.lt_of_le_of_lt (Nat.le_add_right _ _) (by with_reducible assumption) | (simp only [recursionLimit] at *; omega)); (case k9 => exact BindsTo.of_eq rfl); (case kB => exact rfl); (case kD => decide +kernel); (case c2 => exact rfl); (case c3 => exact rfl); (case c4 => exact rfl)))
  (k_with "eval Name" => (k_here; kc_free; k_dflt (refine name_free (by k_asm) (by rfl) (by assumption) (by assumption) ?_ (by rfl) (by rfl); k_whole)))
  (k_with "last call builtin:len" => (k_here; k_dflt (refine call_len_list (by is_list) (by ((try simp only [Array.size_push, List.size_toArray]); omega)) ?_; k_whole); (try simp only [Array.size_push])))
  (k_with "my_ints" => first | assumption | l_ints | l_intsW)
  (k_with "my_fit" => ((try simp only [sizeLine_eq, List.length_append, List.length_cons, List.length_nil, List.length_reverse, List.length_map, List.size_toArray, Array.size_push]); omega))
  (k_with "binaryOp Add ref ref" => (k_here; (with_reducible show wpAny _ _ (binaryOp _ (Value.ref _) (Value.ref _)) _ _ _); k_dflt (refine my_addL (by k_asm) (by k_asm) (by kmk_list) (by kmk_list) (by k_extra "my_ints") (by k_extra "my_ints") ?_ (by k_extra "my_fit"); k_whole); intro D' h' F' N' l1 hI'; (try k_lt l1); (try k_sweep)))
  (k_with "exec While Compare cons nil" => (k_here; k_dflt (refine my_While ?_)))
  (k_with "my_len" => ((try simp only [Around.deeper, Around.in1, recursionLimit, cLine, List.length_append, List.length_take, List.length_drop, List.length_cons, List.length_nil] at *); omega))
  (k_with "eval ListComp" => (k_here; first | (lct_look; k_dflt (refine LCt.ListComp_T (F₀ := by k_asm) (by with_unfolding_all rfl) (by decide) (by rfl) (by decide) (by rfl) ?_)) | k_dflt (refine LCg.ListComp_U (F₀ := by k_asm) (by with_unfolding_all rfl) (by decide) (by rfl) (by decide) (by rfl) ?_)))
  (k_with "exec Assign cons ListComp" => (k_here; first | (lct_look; k_dflt (refine LCt.Assign_ListComp_T (F₀ := by k_asm) (by rfl) (by with_unfolding_all rfl) (by with_unfolding_all rfl) (by decide) (by rfl) (by decide) (by rfl) (by rfl) (by rfl) ?_)) | k_dflt (refine LCg.Assign_ListComp_U (F₀ := by k_asm) (by rfl) (by with_unfolding_all rfl) (by with_unfolding_all rfl) (by decide) (by rfl) (by decide) (by rfl) (by rfl) (by rfl) ?_)))
  (k_with "call ref" => (k_here; (with_reducible show wpAny _ _ (call (Value.ref 228) _) _ _ _); k_dflt (refine named_K (by k_asm) (by k_asm) (by k_asm) (by k_asm) (by rfl) (by k_extra "my_room") (by k_extra "my_room") (by assumption) (by is_list) (by first | assumption | l_ints | l_intsW) (by assumption) ?_; k_whole); intro h' tk' rK F' N' hNm; (try k_sweep); (rcases hNm with ⟨hr', eNm⟩ | ⟨aN, vsN, fN, hr', eNm, hlN, hiN⟩ <;> subst hr'); all_goals (try (have hzN := named_len (by assumption) eNm hiN; have hfN := named_len2 (by assumption) eNm))))
  (k_with "call ref" => (k_here; (with_reducible show wpAny _ _ (call (Value.ref _) [Value.ref _]) _ _ _); k_dflt (refine ask_K (by k_asm) (by k_asm) (by k_asm) (by k_asm) (by assumption) (by k_updF) (by k_all) (by rfl) (by k_extra "my_room") (by k_extra "my_room") (by first | with_reducible assumption | omega) (by k_extra "my_ints") (by k_extra "my_fit") ?_; k_whole); intro h' tk' rK cK lK tK usK nrK ncK nlK ansK smK hAR F' N' nr' nl' nc' hAI; (replace nr' := allNe_of nr'); (replace nl' := allNe_of nl'); (replace nc' := allNe_of nc'); ((replace nr' := Mine.toNe2 nr'); dsimp only [↓Mine.ne2_cons, ↓Mine.ne2_one, ↓Mine.ne2_nil] at nr'; (replace nl' := Mine.toNe2 nl'); dsimp only [↓Mine.ne2_cons, ↓Mine.ne2_one, ↓Mine.ne2_nil] at nl'; (replace nc' := Mine.toNe2 nc'); dsimp only [↓Mine.ne2_cons, ↓Mine.ne2_one, ↓Mine.ne2_nil] at nc'); (try k_sweep); cases hAR))
  (k_with "callWith" => (k_here; (with_reducible show wpAny _ _ (callWith _ (Value.ref _) _ _ _) _ _ _); k_dflt (refine callWith_F (by exact AskEnv.fnAt (by assumption) (by k_asm)) ?_ (by exact rfl) (by exact rfl); k_whole)))
  (k_with "callWith" => (k_here; (with_reducible show wpAny _ _ (callWith _ (Prod.fst _) _ _ _) _ _ _); dsimp only; walk_at "callWith"))
  (k_with "FnAt" => exact AskEnv.fnAt (by assumption) (by k_asm))
  trivial
def isU (H : List (List Int)) (dark : List Int) (cnt : Nat) (ks : List Int) : Bool := !dark.contains (cnt : Int) && (namedV H ks).isSome
def isS (H : List (List Int)) (dark : List Int) (cnt : Nat) (ks : List Int) : Bool := !dark.contains (cnt : Int) && (namedV H ks).isNone
section
variable {prog : Program} {w : World} {h₀ : Heap} {p : Program} {loose : List Str} {mean : ExcName → Option Value} {mg mb : Str → Option Value}
theorem isCore {A : Around} {s : Shared} {fn hid drk hrd kl : Addr} {H : List (List Int)} {its : Array Value} {n : Nat} {vs : List Value} {ks dark : List Int} {Q E : Value → Shared → Prop}
   (X : (hd.heap_1 w.params).In h₀) (T : Top p loose mean mg mb h₀) (st : h₀.StaysIn s.heap) (hh : A.handled = none) (hd : A.depth + 40 < recursionLimit) (hu : A.units + 600 < cLine)
   (env : AskEnv w h₀ fn hid drk hrd H dark) (hhr : s.heap.get? hrd = some (W.listOf its n)) (hhr0 : h₀.get? hrd = none) (hsz : its.size ≤ 1500)
   (hk : s.heap.IsList kl vs.toArray) (hi : IntsAre vs ks) (hlen : ks.length ≤ 50) (hne : @Ne Nat kl hrd)
   (hret : ∀ h' tk' its' n', its'.size = its.size + 1 → Own [hrd] s.heap h' → h'.get? hrd = some (W.listOf its' n') → Q (.bool (isU H dark its.size ks)) { s with heap := h', toks := tk' }) :
   wpAny (model prog w) A (call (.ref 188) [.ref kl, .ref fn]) Q E s := by
  k_extra "my_fill"
  obtain ⟨_, dp, fr, gd, un⟩ := A
  obtain rfl : _ = none := hh
  have NL : Led h₀ s.heap [(hrd, W.listOf its n)] := led1 hhr hhr0 led0
  have KG := led_keep st NL
  refine wpAny_call ?_
  refine' code_in X T st NL ?k6 ?k7 ?k8 ?k9 ?kB ?_ ?c2 ?c3 ?c4 ?c5
  k_extra "my_in"
  intro g L h₁ hgB F N X' T' lL lN
  k_lt lN
  rw [← hgB] at KG
  have env' := env.keep KG
  have hk' : g.IsList kl vs.toArray := isList_base hgB hk (by simpa using hne)
  have hvl : vs.toArray.size ≤ 100 := by rw [List.size_toArray, hi.length]; omega
  dsimp only
  try k_fold
  k_steps
  all_goals (
    rename News _ _ _ _ => N'
    rename Fr _ _ _ _ => F'
    have rh := N' (hrd, _) (by k_mem)
    have fin := fun tk' => hret _ tk' _ _ (by rw [Array.size_push]) (own_of hgB F') rh.1)
  · have e : isU H dark its.size ks = (Str.ofString "unknown" == Str.ofString "unsat") := by
      rw [isU]; rename List.contains dark _ = true => hc; rw [hc, Bool.not_true, Bool.false_and]; decide
    rw [← e]; exact fin _
  · have e : isU H dark its.size ks = (Str.ofString "sat" == Str.ofString "unsat") := by
      rw [isU]; rename namedV _ _ = _ => hc; rw [hc, Option.isSome_none, Bool.and_false]; decide
    rw [← e]; exact fin _
  · have e : isU H dark its.size ks = (Str.ofString "unsat" == Str.ofString "unsat") := by
      rw [isU]; rename namedV _ _ = _ => hc; rename List.contains dark _ = false => hd; rw [hc, hd, Option.isSome_some]; decide
    rw [← e]; exact fin _
theorem isCore_K {A : Around} {s : Shared} {g : Heap} {L fn hid drk hrd kl : Addr} {m₀ : Str → Option Value} {news : List (Addr × Obj)} {g1 : Obj → List (Addr × Obj)} {H : List (List Int)} {its : Array Value} {n : Nat} {vs : List Value} {ks dark : List Int} {Q E : Value → Shared → Prop}
   (F : Fr g L s.heap m₀) (N : News g L s.heap news) (X : (hd.heap_1 w.params).In g) (T : Top p loose mean mg mb g) (env : AskEnv w g fn hid drk hrd H dark)
   (U1 : UpdF hrd (W.listOf its n) news g1) (hh : A.handled = none) (hd : A.depth + 40 < recursionLimit) (hu : A.units + 600 < cLine) (hsz : its.size ≤ 1500)
   (hk : s.heap.IsList kl vs.toArray) (hi : IntsAre vs ks) (hlen : ks.length ≤ 50) (hne : @Ne Nat kl hrd)
   (hret : ∀ h' tk' its' n', its'.size = its.size + 1 → Fr g L h' m₀ → News g L h' (g1 (W.listOf its' n')) → Q (.bool (isU H dark its.size ks)) { s with heap := h', toks := tk' }) :
   wpAny (model prog w) A (call (.ref 188) [.ref kl, .ref fn]) Q E s := by
  have hr := N (hrd, W.listOf its n) (by obtain ⟨pre, post, e, _⟩ := U1.split; rw [e]; exact List.mem_append_right _ (.head _))
  refine isCore X T F.keep hh hd hu env hr.1 hr.2.2 hsz hk hi hlen hne fun h' tk' its' n' e ow eh => ?_
  obtain ⟨F', N'⟩ := own1 F N U1 ow eh
  exact hret _ _ _ _ e F' N'
end
end
section
theorem lines_Least : True := by
  w_top off
  k_with_none
  (k_with "my_pj" => (with_reducible first | assumption | exact Mine.pj1l (by assumption) | exact Mine.pj1r (by assumption) | exact Mine.pj2l (by assumption) | exact Mine.pj2r (by assumption) | exact Mine.pj3l (by assumption) | exact Mine.pj3r (by assumption) | exact Mine.pj4l (by assumption) | exact Mine.pj4r (by assumption) | exact Mine.pj5l (by assumption) | exact Mine.pj5r (by assumption) | exact Mine.pj6l (by assumption) | exact Mine.pj6r (by assumption) | exact Mine.pj7l (by assumption) | exact Mine.pj7r (by assumption) | exact Mine.pj8l (by assumption) | exact Mine.pj8r (by assumption) | exact Mine.pj9l (by assumption) | exact Mine.pj9r (by assumption) | exact Mine.pj10l (by assumption) | exact Mine.pj10r (by assumption) | exact Mine.pj11l (by assumption) | exact Mine.pj11r (by assumption) | exact Mine.pj12l (by assumption) | exact Mine.pj12r (by assumption) | exact Mine.pj13l (by assumption) | exact Mine.pj13r (by assumption) | exact Mine.pj14l (by assumption) | exact Mine.pj14r (by assumption) | exact Mine.pj15l (by assumption) | exact Mine.pj15r (by assumption) | exact Mine.pj16l (by assumption) | exact Mine.pj16r (by assumption)))
  (k_with "my_ne" => (refine neN ?_; (try dsimp only); first | with_reducible assumption | exact Ne.symm (by with_reducible assumption) | (refine Mine.neOr ?_; simp only [*, true_or, or_true, ne_eq, not_false_eq_true]; done) | (refine Ne.symm (Mine.neOr ?_); simp only [*, true_or, or_true, ne_eq, not_false_eq_true]; done) | omega))
  (k_with "my_room" => first | exact room1 (by with_reducible assumption) rfl rfl | exact room0 (by with_reducible assumption) rfl rfl | ((simp only [Around.deeper, Around.in1, recursionLimit, cLine] at *); omega))
  (k_with "my_fill" => ((have hfill : (fun (_ : OpenLaw) (_ : Params → Frag) => True) PySem.Challenge.rw_rg0207_01 Mine.hd.heap_1 := by k_fill; trivial); clear hfill))
  (k_with "my_in" => ((case k6 => k_is); (case k7 => k_is); (case k8 => first | exact Nat.lt_of_le_of_lt (Nat.le_add_right _ _) (by with_reducible assumption) | (simp only [recursionLimit] at *; omega)); (case k9 => first | exact BindsTo.of_eq rfl | exact binds_K (Frag.In.keeps (by assumption) (by assumption)) rfl (by k_is) rfl rfl rfl); (case c5 => decide); (case kB => exact locs rfl); (case c2 => exact rfl); (case c3 => exact rfl); (case c4 => exact rfl)))
  (k_with "my_sub" => repeat' (first | exact List.forall_mem_nil _ | refine List.forall_mem_cons.mpr ⟨?_, ?_⟩ | k_mem))
  (k_with "exec For Name Call cons nil" => (k_here; k_dflt (refine my_For ?_)))
  (k_with "exec For Name Name cons nil" => (k_here; k_dflt (refine my_For ?_)))
  (k_with "newTuple" => (k_here; k_dflt (refine my_newTuple (by k_asm) (by k_asm) ?_ (by size_fits); k_whole); intro l' h' F' N' l1; (try k_lt l1); (try k_sweep)))
  (k_with "call type:range" => (k_here; (with_reducible rename Fr _ _ _ _ => F'); (with_reducible rename News _ _ _ _ => N'); first | (with_unfolding_all refine range1_rows F' N' ?_; intro h' tk' t' u' v' R' F' N' k'; (try k_sweep)) | (with_unfolding_all refine range2_rows F' N' ?_; intro h' tk' t' u' v' R' F' N' k'; (try k_sweep))))
  (k_with "my_inC" => ((case k6 => k_is); (case k7 => k_is); (case k8 => first | exact Nat.lt_of_le_of_lt (Nat.le_add_right _ _) (by with_reducible assumption) | (simp only [recursionLimit] at *; omega)); (case k9 => exact BindsTo.of_eq rfl); (case kB => exact rfl); (case kD => decide +kernel); (case c2 => exact rfl); (case c3 => exact rfl); (case c4 => exact rfl)))
  (k_with "eval Name" => (k_here; kc_free; k_dflt (refine name_free (by k_asm) (by rfl) (by assumption) (by assumption) ?_ (by rfl) (by rfl); k_whole)))
  (k_with "last call builtin:len" => (k_here; k_dflt (refine call_len_list (by is_list) (by ((try simp only [Array.size_push, List.size_toArray]); omega)) ?_; k_whole); (try simp only [Array.size_push])))
  (k_with "my_ints" => first | assumption | l_ints | l_intsW)
  (k_with "my_fit" => ((try simp only [sizeLine_eq, List.length_append, List.length_cons, List.length_nil, List.length_reverse, List.length_map, List.size_toArray, Array.size_push]); omega))
  (k_with "binaryOp Add ref ref" => (k_here; (with_reducible show wpAny _ _ (binaryOp _ (Value.ref _) (Value.ref _)) _ _ _); k_dflt (refine my_addL (by k_asm) (by k_asm) (by kmk_list) (by kmk_list) (by k_extra "my_ints") (by k_extra "my_ints") ?_ (by k_extra "my_fit"); k_whole); intro D' h' F' N' l1 hI'; (try k_lt l1); (try k_sweep)))
  (k_with "exec While Compare cons nil" => (k_here; k_dflt (refine my_While ?_)))
  (k_with "my_len" => ((try simp only [Around.deeper, Around.in1, recursionLimit, cLine, List.length_append, List.length_take, List.length_drop, List.length_cons, List.length_nil] at *); omega))
  (k_with "eval ListComp" => (k_here; first | (lct_look; k_dflt (refine LCt.ListComp_T (F₀ := by k_asm) (by with_unfolding_all rfl) (by decide) (by rfl) (by decide) (by rfl) ?_)) | k_dflt (refine LCg.ListComp_U (F₀ := by k_asm) (by with_unfolding_all rfl) (by decide) (by rfl) (by decide) (by rfl) ?_)))
  (k_with "exec Assign cons ListComp" => (k_here; first | (lct_look; k_dflt (refine LCt.Assign_ListComp_T (F₀ := by k_asm) (by rfl) (by with_unfolding_all rfl) (by with_unfolding_all rfl) (by decide) (by rfl) (by decide) (by rfl) (by rfl) (by rfl) ?_)) | k_dflt (refine LCg.Assign_ListComp_U (F₀ := by k_asm) (by rfl) (by with_unfolding_all rfl) (by with_unfolding_all rfl) (by decide) (by rfl) (by decide) (by rfl) (by rfl) (by rfl) ?_)))
  (k_with "call ref" => (k_here; (with_reducible show wpAny _ _ (call (Value.ref 228) _) _ _ _); k_dflt (refine named_K (by k_asm) (by k_asm) (by k_asm) (by k_asm) (by rfl) (by k_extra "my_room") (by k_extra "my_room") (by assumption) (by is_list) (by first | assumption | l_ints | l_intsW) (by assumption) ?_; k_whole); intro h' tk' rK F' N' hNm; (try k_sweep); (rcases hNm with ⟨hr', eNm⟩ | ⟨aN, vsN, fN, hr', eNm, hlN, hiN⟩ <;> subst hr'); all_goals (try (have hzN := named_len (by assumption) eNm hiN; have hfN := named_len2 (by assumption) eNm))))
  (k_with "call ref" => (k_here; (with_reducible show wpAny _ _ (call (Value.ref _) [Value.ref _]) _ _ _); k_dflt (refine ask_K (by k_asm) (by k_asm) (by k_asm) (by k_asm) (by assumption) (by k_updF) (by k_all) (by rfl) (by k_extra "my_room") (by k_extra "my_room") (by first | with_reducible assumption | omega) (by k_extra "my_ints") (by k_extra "my_fit") ?_; k_whole); intro h' tk' rK cK lK tK usK nrK ncK nlK ansK smK hAR F' N' nr' nl' nc' hAI; (replace nr' := allNe_of nr'); (replace nl' := allNe_of nl'); (replace nc' := allNe_of nc'); ((replace nr' := Mine.toNe2 nr'); dsimp only [↓Mine.ne2_cons, ↓Mine.ne2_one, ↓Mine.ne2_nil] at nr'; (replace nl' := Mine.toNe2 nl'); dsimp only [↓Mine.ne2_cons, ↓Mine.ne2_one, ↓Mine.ne2_nil] at nl'; (replace nc' := Mine.toNe2 nc'); dsimp only [↓Mine.ne2_cons, ↓Mine.ne2_one, ↓Mine.ne2_nil] at nc'); (try k_sweep); cases hAR))
  (k_with "callWith" => (k_here; (with_reducible show wpAny _ _ (callWith _ (Value.ref _) _ _ _) _ _ _); k_dflt (refine callWith_F (by exact AskEnv.fnAt (by assumption) (by k_asm)) ?_ (by exact rfl) (by exact rfl); k_whole)))
  (k_with "callWith" => (k_here; (with_reducible show wpAny _ _ (callWith _ (Prod.fst _) _ _ _) _ _ _); dsimp only; walk_at "callWith"))
  (k_with "FnAt" => exact AskEnv.fnAt (by assumption) (by k_asm))
  (k_with "call ref" => (k_here; (with_reducible show wpAny _ _ (call (Value.ref 188) _) _ _ _); k_dflt (refine isCore_K (by k_asm) (by k_asm) (by k_asm) (by k_asm) (by assumption) (by k_updF) (by rfl) (by k_extra "my_room") (by k_extra "my_room") (by k_extra "my_size") (by is_list) (by k_extra "my_ints") (by k_extra "my_fit") (by k_ne) ?_); intro h' tk' its' n' hSz F' N'; (try k_sweep)))
  (k_with "my_size" => first | with_reducible assumption | omega | exact (by decide) | (simp; done) | (simp at *; omega))
  trivial
def leastT (ks : List Int) (k : Nat) : List Int := ks.take k ++ ks.drop (k + 1)
def ilV (H : List (List Int)) (dark : List Int) (cnt : Nat) (ks : List Int) : Bool :=
  isU H dark cnt ks && (List.range ks.length).all fun k => isS H dark (cnt + 1 + k) (leastT ks k)
inductive LeastJ (w : World) (H : List (List Int)) (dark ks : List Int) (hrd kl fn : Addr) (c0 : Nat) (i : Nat) (m : Str → Option Value) : List (Addr × Obj) → Prop
  | intro {its : Array Value} {n : Nat} (h : its.size = c0 + i) (m1 : m (Str.ofString "keys") = some (.ref kl)) (m2 : m (Str.ofString "ask") = some (.ref fn)) (hj : ∀ j, j < i → isS H dark (c0 + j) (leastT ks j) = true) : LeastJ w H dark ks hrd kl fn c0 i m [(hrd, W.listOf its n)]
section
variable {prog : Program} {w : World} {h₀ : Heap} {p : Program} {loose : List Str} {mean : ExcName → Option Value} {mg mb : Str → Option Value}
theorem isLeast {A : Around} {s : Shared} {fn hid drk hrd kl : Addr} {H : List (List Int)} {its : Array Value} {n : Nat} {vs : List Value} {ks dark : List Int} {Q E : Value → Shared → Prop}
   (X : (hd.heap_1 w.params).In h₀) (T : Top p loose mean mg mb h₀) (st : h₀.StaysIn s.heap) (hh : A.handled = none) (hd : A.depth + 60 < recursionLimit) (hu : A.units + 1000 < cLine)
   (env : AskEnv w h₀ fn hid drk hrd H dark) (hhr : s.heap.get? hrd = some (W.listOf its n)) (hhr0 : h₀.get? hrd = none) (hsz : its.size ≤ 1000)
   (hk : s.heap.IsList kl vs.toArray) (hi : IntsAre vs ks) (hlen : ks.length ≤ 50) (hne : @Ne Nat kl hrd)
   (hret : ∀ h' tk' its' n', its'.size ≤ its.size + ks.length + 1 → Own [hrd] s.heap h' → h'.get? hrd = some (W.listOf its' n') → Q (.bool (ilV H dark its.size ks)) { s with heap := h', toks := tk' }) :
   wpAny (model prog w) A (call (.ref 195) [.ref kl, .ref fn]) Q E s := by
  k_extra "my_fill"
  obtain ⟨_, dp, fr, gd, un⟩ := A
  obtain rfl : _ = none := hh
  have NL : Led h₀ s.heap [(hrd, W.listOf its n)] := led1 hhr hhr0 led0
  have KG := led_keep st NL
  refine wpAny_call ?_
  refine' code_in X T st NL ?k6 ?k7 ?k8 ?k9 ?kB ?_ ?c2 ?c3 ?c4 ?c5
  k_extra "my_in"
  intro g L h₁ hgB F N X' T' lL lN
  k_lt lN
  rw [← hgB] at KG
  have env' := env.keep KG
  have hk' : g.IsList kl vs.toArray := isList_base hgB hk (by simpa using hne)
  have hvl : vs.toArray.size ≤ 100 := by rw [List.size_toArray, hi.length]; omega
  dsimp only
  try k_fold
  k_steps
  case _ =>
    rename News _ _ _ _ => N'
    rename Fr _ _ _ _ => F'
    rename IsRange _ _ _ _ _ _ _ _ => R'
    rename isU _ _ _ _ = true => hU
    rename Array.size _ = _ => hS1
    refine' MyIter.range (n := ks.length) rfl rfl rfl F' N' R' ?rs ?rz (LeastJ w H dark ks hrd kl fn (its.size + 1)) (LeastJ.intro ?h ?m1 ?m2 ?hj) ?step ?hR
    case rs => exact rsmall (by omega) (by have := hi.length; omega)
    case rz => rw [rsize (by omega)]; simp
    case h => rw [hS1]
    case m1 => with_unfolding_all rfl
    case m2 => with_unfolding_all rfl
    case hj => intro j hj; omega
    case step =>
      intro i t m₁ news₁ h₂ tk₂ I oI hlt J₁ F₁ N₁ nI lI
      cases J₁ with
      | @intro its₁ n₁ h1 m1 m2 hj =>
      k_lt lI
      rw [pin m1, pin m2] at F₁
      have hz1 : its₁.size ≤ 2000 := by omega
      have hz2 : (0 : Int) ≤ 0 + (i : Int) + 1 := by omega
      have hz3 : (0 : Int) ≤ 0 + (i : Int) := by omega
      k_steps
      all_goals (
        rename News _ _ _ _ => N'
        rename Fr _ _ _ _ => F'
        have rh := N' (hrd, _) (by k_mem)
        have eT : ks.take (0 + (i : Int)).toNat ++ ks.drop (0 + (i : Int) + 1).toNat = leastT ks i := by
          rw [leastT, show (0 + (i : Int)).toNat = i from by omega, show (0 + (i : Int) + 1).toNat = i + 1 from by omega]
        have no : isS H dark its₁.size (leastT ks i) = false → ilV H dark its.size ks = false := fun e => by
          rw [ilV, hU, Bool.true_and, List.all_eq_false]
          refine ⟨i, List.mem_range.mpr hlt, ?_⟩
          rw [← h1, e]; decide)
      · rename List.contains dark _ = true => hc
        dsimp only
        have := fun tk' => hret _ tk' _ _ (by rw [Array.size_push]; omega) (own_of hgB F') rh.1
        simp only [no (by rw [isS, hc, Bool.not_true, Bool.false_and])] at this
        exact this _
      · rename List.contains dark _ = false => hc
        rename namedV _ _ = _ => eN
        refine' LoopEnd.next _ F' ?N2 ?n2 (LeastJ.intro (its := its₁.push (.ref ?c)) (n := n₁ + 1) ?h2 ?m12 ?m22 ?hj2)
        case N2 => exact News.cut N' (by k_extra "my_sub")
        case h2 => rw [Array.size_push]; omega
        case m12 => with_unfolding_all rfl
        case m22 => with_unfolding_all rfl
        case n2 => k_all
        intro j hj'
        by_cases q : j = i
        · subst q; rw [← h1, isS, hc, ← eT, eN]; rfl
        · exact hj j (by omega)
      · rename List.contains dark _ = false => hc
        rename namedV _ _ = _ => eN
        dsimp only
        have := fun tk' => hret _ tk' _ _ (by rw [Array.size_push]; omega) (own_of hgB F') rh.1
        simp only [no (by rw [isS, ← eT, eN, Option.isNone_some, Bool.and_false])] at this
        exact this _
    case hR =>
      intro h₂ tk₂ m₁ news₁ F₁ N₁ J₁
      cases J₁ with
      | @intro its₁ n₁ h1 m1 m2 hj =>
      rw [pin m1, pin m2] at F₁
      k_steps
      rename Fr _ _ _ _ => F'
      rename News _ _ _ _ => N'
      dsimp only
      have e : ilV H dark its.size ks = true := by
        rw [ilV, hU, Bool.true_and, List.all_eq_true]
        intro j hj'
        exact hj j (List.mem_range.mp hj')
      have rh := N' (hrd, _) (by k_mem)
      have := fun tk' => hret _ tk' _ _ (by omega) (own_of hgB F') rh.1
      simp only [e] at this
      exact this _
  case _ =>
    rename News _ _ _ _ => N'
    rename Fr _ _ _ _ => F'
    rename isU _ _ _ _ = false => hU
    rename Array.size _ = _ => hS1
    dsimp only
    have e : ilV H dark its.size ks = false := by rw [ilV, hU, Bool.false_and]
    have rh := N' (hrd, _) (by k_mem)
    have := fun tk' => hret _ tk' _ _ (by omega) (own_of hgB F') rh.1
    simp only [e] at this
    exact this _
end
section
variable {prog : Program} {w : World} {h₀ : Heap} {p : Program} {loose : List Str} {mean : ExcName → Option Value} {mg mb : Str → Option Value}
theorem isLeast_K {A : Around} {s : Shared} {g : Heap} {L fn hid drk hrd kl : Addr} {m₀ : Str → Option Value} {news : List (Addr × Obj)} {g1 : Obj → List (Addr × Obj)} {H : List (List Int)} {its : Array Value} {n : Nat} {vs : List Value} {ks dark : List Int} {Q E : Value → Shared → Prop}
   (F : Fr g L s.heap m₀) (N : News g L s.heap news) (X : (hd.heap_1 w.params).In g) (T : Top p loose mean mg mb g) (env : AskEnv w g fn hid drk hrd H dark)
   (U1 : UpdF hrd (W.listOf its n) news g1) (hh : A.handled = none) (hd : A.depth + 60 < recursionLimit) (hu : A.units + 1000 < cLine) (hsz : its.size ≤ 1000)
   (hk : s.heap.IsList kl vs.toArray) (hi : IntsAre vs ks) (hlen : ks.length ≤ 50) (hne : @Ne Nat kl hrd)
   (hret : ∀ h' tk' its' n', its'.size ≤ its.size + ks.length + 1 → Fr g L h' m₀ → News g L h' (g1 (W.listOf its' n')) → Q (.bool (ilV H dark its.size ks)) { s with heap := h', toks := tk' }) :
   wpAny (model prog w) A (call (.ref 195) [.ref kl, .ref fn]) Q E s := by
  have hr := N (hrd, W.listOf its n) (by obtain ⟨pre, post, e, _⟩ := U1.split; rw [e]; exact List.mem_append_right _ (.head _))
  refine isLeast X T F.keep hh hd hu env hr.1 hr.2.2 hsz hk hi hlen hne fun h' tk' its' n' e ow eh => ?_
  obtain ⟨F', N'⟩ := own1 F N U1 ow eh
  exact hret _ _ _ _ e F' N'
end
end
section
section
variable {prog : Program} {w : World} {A : Around} {E : Value → Shared → Prop} {s : Shared} {h₀ : Heap} {L : Addr} {m : Str → Option Value} {env : Env}
open PyProof.Rows.LCg
theorem ledOff {g h : Heap} {a : Addr} {o o' : Obj} {pre post : List (Addr × Obj)} {h' : Heap} (N : News g L h (pre ++ (a, o) :: post)) (x : ∀ b p, b ≠ a → h.get? b = some p → h'.get? b = some p) (e : h'.get? a = some o') (off : ∀ p ∈ pre ++ post, p.1 ≠ a) : News g L h' (pre ++ (a, o') :: post) := fun p hp => by
  have ha := N (a, o) (List.mem_append_right _ (.head _))
  rcases List.mem_append.mp hp with hp | hp
  · exact ⟨x _ _ (off p (List.mem_append_left _ hp)) (N p (List.mem_append_left _ hp)).1, (N p (List.mem_append_left _ hp)).2⟩
  · rcases List.mem_cons.mp hp with rfl | hp
    · exact ⟨e, ha.2⟩
    · exact ⟨x _ _ (off p (List.mem_append_right _ hp)) (N p (List.mem_append_right _ (.tail _ hp))).1, (N p (List.mem_append_right _ (.tail _ hp))).2⟩
theorem frOff {g h h' : Heap} {a : Addr} (F : Fr g L h m) (x : ∀ b p, b ≠ a → h.get? b = some p → h'.get? b = some p) (hL : a ≠ L) (hg : g.get? a = none) : Fr g L h' m :=
  ⟨F.ns.at' fun o e => x L o (Ne.symm hL) e, fun b o e => x b o (fun q => by rw [q, hg] at e; cases e) (F.keep b o e), F.above⟩
/-- the four of a comprehension, apart from one another and from the rest -/
structure Four (I C ce D : Addr) (news : List (Addr × Obj)) : Prop where
  ic : @Ne Nat I C
  ie : @Ne Nat I ce
  id : @Ne Nat I D
  cc : @Ne Nat C ce
  cd : @Ne Nat C D
  ed : @Ne Nat ce D
  i : ∀ p ∈ news, p.1 ≠ I
  c : ∀ p ∈ news, p.1 ≠ C
  e : ∀ p ∈ news, p.1 ≠ ce
  d : ∀ p ∈ news, p.1 ≠ D
theorem four_of {g h : Heap} {news : List (Addr × Obj)} (N : News g L h news) : Four h.objs.size (h.objs.size + 2) (h.objs.size + 3) (h.objs.size + 1) news := by
  have z : ∀ p ∈ news, p.1 < h.objs.size := fun p hp => Heap.lt_size (N p hp).1
  exact ⟨neN (by omega), neN (by omega), neN (by omega), neN (by omega), neN (by omega), neN (by omega), fun p hp => Nat.ne_of_lt (z p hp), fun p hp => Nat.ne_of_lt (Nat.lt_add_right 2 (z p hp)), fun p hp => Nat.ne_of_lt (Nat.lt_add_right 3 (z p hp)), fun p hp => Nat.ne_of_lt (Nat.lt_add_right 1 (z p hp))⟩

theorem comp_cell_loop {ct iter : Expr} {x : Str} {px pe pos : Pos} {scope : Scope} {cl : List (Str × Addr)} {vs : List Value} {ns : List Int} {f : Int → Bool} {ax I C ce D : Addr} {oI oC oc : Obj} {m₂ : Str → Option Value} {news : List (Addr × Obj)} {Q : Value → Shared → Prop}
    (hh : A.handled = none) (F : Fr h₀ L s.heap m) (N : News h₀ L s.heap ((I, oI) :: (C, oC) :: (ce, oc) :: (D, lst []) :: news)) (four : Four I C ce D news) (hit : s.heap.IsListIter I ax 0) (hC : NsObj oC m₂) (hc : oc.data = .cell none)
    (hkind : scope.kind = .function) (hx : ∀ cl' C, (compEnvC scope cl' C env).kindOf x = some .cell) (hd : (x == ("__debug__" : Str)) = false)
    (hl : h₀.IsList ax vs.toArray) (hi : IntsAre vs ns) (hsz : vs.length ≤ 1000)
    (turn : ∀ (i : Nat) (n : Int) (t : Tok) (ys : List Value) I oI C oC ce oc D h tk (E' : Value → Shared → Prop), ns[i]? = some n → oc.data = .cell (some (.int n t)) → Fr h₀ L h m →
      News h₀ L h ((I, oI) :: (C, oC) :: (ce, oc) :: (D, lst ys) :: news) → Four I C ce D news →
      wpAny (model prog w) A (isTrue ct (compEnvC scope ((x, ce) :: cl) C env) (eval ct (compEnvC scope ((x, ce) :: cl) C env)))
        (fun ok s' => ok = f n ∧ ∃ h' tk', s' = { s with heap := h', toks := tk' } ∧ Fr h₀ L h' m ∧ News h₀ L h' ((I, oI) :: (C, oC) :: (ce, oc) :: (D, lst ys) :: news)) E' { s with heap := h, toks := tk })
    (fin : ∀ ys h tk, IntsAre ys (ns.filter f) → Fr h₀ L h m → News h₀ L h ((D, lst ys) :: news) → Q (.ref D) { s with heap := h, toks := tk }) :
    codeAny (model prog w) A (.compStart (.ListComp (.Name x pe) [⟨.Name x px, iter, [ct], 0⟩] scope pos) 0 (.ref I) (.ref D) (compEnvC scope ((x, ce) :: cl) C env)) (compPost (model prog w) A E none Q (.ref D) C) s := by
  have hk : (compEnvC scope ((x, ce) :: cl) C env).scope.kind = .function := by simp [compEnvC, relabel, hkind]
  have hxc : (compEnvC scope ((x, ce) :: cl) C env).cells.lookup x = some ce := by simp [compEnvC]
  have hnI := (N (I, oI) (.head _)).2
  have hnC := (N (C, oC) (.tail _ (.head _))).2
  have hnE := (N (ce, oc) (.tail _ (.tail _ (.head _)))).2
  have hnD := (N (D, lst []) (.tail _ (.tail _ (.tail _ (.head _))))).2
  have hne : ax ≠ I := fun q => by obtain ⟨o, e, _⟩ := hl; rw [q, hnI.2] at e; cases e
  have W := Walks.list (prog := prog) (w := w) hh I ax hne vs.toArray
  have offI : ∀ {oC oc oD : Obj}, ∀ p ∈ ([] ++ (C, oC) :: (ce, oc) :: (D, oD) :: news : List (Addr × Obj)), p.1 ≠ I := fun p hp => by
    rcases List.mem_cons.mp hp with rfl | hp
    · exact Ne.symm four.ic
    · rcases List.mem_cons.mp hp with rfl | hp
      · exact Ne.symm four.ie
      · rcases List.mem_cons.mp hp with rfl | hp
        · exact Ne.symm four.id
        · exact four.i p hp
  have offE : ∀ {oI oC oD : Obj}, ∀ p ∈ ([(I, oI), (C, oC)] ++ (D, oD) :: news : List (Addr × Obj)), p.1 ≠ ce := fun p hp => by
    rcases List.mem_cons.mp hp with rfl | hp
    · exact four.ie
    · rcases List.mem_cons.mp hp with rfl | hp
      · exact four.cc
      · rcases List.mem_cons.mp hp with rfl | hp
        · exact Ne.symm four.ed
        · exact four.e p hp
  have offD : ∀ {oI oC oc : Obj}, ∀ p ∈ ([(I, oI), (C, oC), (ce, oc)] ++ news : List (Addr × Obj)), p.1 ≠ D := fun p hp => by
    rcases List.mem_cons.mp hp with rfl | hp
    · exact four.id
    · rcases List.mem_cons.mp hp with rfl | hp
      · exact four.cd
      · rcases List.mem_cons.mp hp with rfl | hp
        · exact four.ed
        · exact four.d p hp
  have loop : codeAny (model prog w) A (.compLoop (.ListComp (.Name x pe) [⟨.Name x px, iter, [ct], 0⟩] scope pos) 0 (.ref I) (.ref D) (compEnvC scope ((x, ce) :: cl) C env)) (compPost (model prog w) A E none Q (.ref D) C) s := by
    refine codeAny_compLoop_tests
      (fun k s' => ∃ h' tk i ys oI oc, s' = { s with heap := h', toks := tk } ∧ i ≤ vs.length ∧ k = vs.length + 1 - i ∧ ys.length ≤ i ∧ h'.IsListIter I ax i ∧ Fr h₀ L h' m ∧ News h₀ L h' ((I, oI) :: (C, oC) :: (ce, oc) :: (D, lst ys) :: news) ∧
        (∃ v, oc.data = .cell v) ∧ IntsAre ys ((ns.take i).filter f)) ?_ (vs.length + 1)
      ⟨s.heap, s.toks, 0, [], oI, oc, rfl, Nat.zero_le _, rfl, Nat.le_refl _, hit, F, N, ⟨_, hc⟩, by simpa using IntsAre.nil⟩
    rintro k s' ⟨h', tk, i, ys, oI₁, oc₁, rfl, hiv, rfl, hyl, hit', F', N', ⟨v₁, hc₁⟩, hys⟩
    by_cases hlt : i < vs.length
    · refine W.item i _ _ _ (by simpa using hlt) ⟨hit', stays_list F'.keep hl⟩ fun v h₂ tk₂ hPv hst₂ hk₂ => ?_
      obtain ⟨n, t, rfl, hn⟩ := hi.at i v (by simpa using hPv)
      obtain ⟨oI₂, heI, hIo⟩ := hst₂.1
      have hk₂' : ∀ b p, b ≠ I → h'.get? b = some p → h₂.get? b = some p := fun b p q e => hk₂ b p (by simpa using q) e
      have F₂ := frOff F' hk₂' hnI.1 hnI.2
      have N₂ := ledOff (pre := []) N' hk₂' heI offI
      refine wpAny_assign_Name (wpAny_storeName_cell hk (hx _ _) hxc ⟨oc₁, (N₂ (ce, oc₁) (.tail _ (.tail _ (.head _)))).1, hc₁⟩ fun h₃ hc₃ hs₃ => ?_)
      obtain ⟨oc₃, he₃, hd₃⟩ := hc₃
      have F₃ := F₂.change hs₃ hnE.1 hnE.2
      have N₃ := ledOff (pre := [(I, oI₂), (C, oC)]) N₂ (fun b p q e => hs₃.extBut b p q e) he₃ offE
      refine wpAny_tests_one ?_
      refine wpAny_mono (turn i n t ys I oI₂ C oC ce oc₃ D h₃ tk₂ _ hn hd₃ F₃ N₃ four) (fun ok s₄ h₄ => ?_) fun _ _ e => e
      obtain ⟨hok, h₄, tk₄, rfl, F₄, N₄⟩ := h₄
      have tk1 : (ns.take (i + 1)).filter f = (ns.take i).filter f ++ (if f n then [n] else []) := take_succ_filter f ns i n hn
      have eI := (N₄ (I, oI₂) (.head _)).1
      cases ok with
      | true =>
        simp only [if_true]
        refine wpAny_Name (wpAny_loadName_cell hk (hx _ _) hxc ⟨oc₃, (N₄ (ce, oc₃) (.tail _ (.tail _ (.head _)))).1, hd₃⟩ ?_) hd
        refine append_at (hsz := by rw [List.size_toArray, sizeLine_eq]; omega) (N₄ (D, lst ys) (.tail _ (.tail _ (.tail _ (.head _))))).1 fun h₅ hs₅ hD₅ => ?_
        have N₅ := ledOff (pre := [(I, oI₂), (C, oC), (ce, oc₃)]) N₄ (fun b p q e => hs₅.extBut b p q e) (hD₅.trans (congrArg some (lst_snoc ys (.int n t)))) offD
        refine ⟨vs.length + 1 - (i + 1), by omega, h₅, tk₄, i + 1, ys ++ [Value.int n t], oI₂, oc₃, rfl, hlt, rfl, by rw [List.length_append, List.length_singleton]; omega, ⟨oI₂, (N₅ (I, oI₂) (.head _)).1, hIo⟩, F₄.change hs₅ hnD.1 hnD.2, N₅, ⟨_, hd₃⟩, ?_⟩
        rw [tk1, ← hok]; exact ints_snoc hys n t
      | false =>
        simp only [Bool.false_eq_true, if_false]
        refine ⟨vs.length + 1 - (i + 1), by omega, h₄, tk₄, i + 1, ys, oI₂, oc₃, rfl, hlt, rfl, Nat.le_succ_of_le hyl, ⟨oI₂, eI, hIo⟩, F₄, N₄, ⟨_, hd₃⟩, ?_⟩
        rw [tk1, ← hok]; simpa using hys
    · obtain rfl : i = vs.length := by omega
      have hW := W.done
      simp only [List.size_toArray] at hW
      refine hW _ _ _ ⟨hit', stays_list F'.keep hl⟩ fun h₂ tk₂ hk₂ => ?_
      have hk₂' : ∀ b p, b ≠ I → h'.get? b = some p → h₂.get? b = some p := fun b p q e => hk₂ b p (by simpa using q) e
      have F₂ := frOff F' hk₂' hnI.1 hnI.2
      have hNs : h₂.Ns C m₂ := hC.ns (hk₂' C _ (Ne.symm four.ic) (N' (C, oC) (.tail _ (.head _))).1)
      refine ⟨m₂, hNs, fun h₃ hs₃ => ?_⟩
      rw [List.take_of_length_le (by rw [hi.length]; exact Nat.le_refl _)] at hys
      refine fin ys h₃ tk₂ hys (F₂.change hs₃ hnC.1 hnC.2) fun p hp => ?_
      have hp' : p ∈ (I, oI₁) :: (C, oC) :: (ce, oc₁) :: (D, lst ys) :: news := .tail _ (.tail _ (.tail _ hp))
      refine ⟨hs₃.extBut _ _ ?_ (hk₂' _ _ ?_ (N' p hp').1), (N' p hp').2⟩
      · rcases List.mem_cons.mp hp with rfl | hp
        · exact Ne.symm four.cd
        · exact four.c p hp
      · rcases List.mem_cons.mp hp with rfl | hp
        · exact Ne.symm four.id
        · exact four.i p hp
  exact codeAny_compStart_list loop (W.self 0 _ _ _ ⟨hit, stays_list F.keep hl⟩ loop)

theorem comp_cell {ct iter : Expr} {x : Str} {px pe pos : Pos} {scope : Scope} {cl : List (Str × Addr)} {vs : List Value} {ns : List Int} {f : Int → Bool} {ax : Addr} {news : List (Addr × Obj)} {Q : Value → Shared → Prop}
    (hh : A.handled = none) (F : Fr h₀ L s.heap m) (N : News h₀ L s.heap news)
    (hclos : closureFor scope env = pure cl) (hkind : scope.kind = .function) (hnames : ∀ y ∈ scope.names, y.2 = .local → scope.names.lookup y.1 = some .local)
    (hone : ∀ n, cellsFrom n scope.names cl = (x, n) :: cl) (hpush : ∀ h : Heap, pushCells h scope.names = h.push { cls := .type "cell", data := .cell none })
    (hx : ∀ cl' C, (compEnvC scope cl' C env).kindOf x = some .cell) (hd : (x == ("__debug__" : Str)) = false)
    (hl : h₀.IsList ax vs.toArray) (hi : IntsAre vs ns) (hsz : vs.length ≤ 1000)
    (he : wpAny (model prog w) A (eval iter env) (fun xv s₁ => ∃ tk, xv = .ref ax ∧ s₁ = { s with toks := tk }) E s)
    (turn : ∀ (i : Nat) (n : Int) (t : Tok) (ys : List Value) I oI C oC ce oc D h tk (E' : Value → Shared → Prop), ns[i]? = some n → oc.data = .cell (some (.int n t)) → Fr h₀ L h m →
      News h₀ L h ((I, oI) :: (C, oC) :: (ce, oc) :: (D, lst ys) :: news) → Four I C ce D news →
      wpAny (model prog w) A (isTrue ct (compEnvC scope ((x, ce) :: cl) C env) (eval ct (compEnvC scope ((x, ce) :: cl) C env)))
        (fun ok s' => ok = f n ∧ ∃ h' tk', s' = { s with heap := h', toks := tk' } ∧ Fr h₀ L h' m ∧ News h₀ L h' ((I, oI) :: (C, oC) :: (ce, oc) :: (D, lst ys) :: news)) E' { s with heap := h, toks := tk })
    (fin : ∀ ys D h tk, IntsAre ys (ns.filter f) → Fr h₀ L h m → News h₀ L h ((D, lst ys) :: news) → (∀ p ∈ news, p.1 ≠ D) → Q (.ref D) { s with heap := h, toks := tk })
    (hs : ∀ x, foldedSetIterable iter env x = pure x := by intro _; rfl) :
    wpAny (model prog w) A (eval (.ListComp (.Name x pe) [⟨.Name x px, iter, [ct], 0⟩] scope pos) env) Q E s := by
  rw [eval_ListComp]
  refine wpAny_comprehension_free (use := none) rfl hs hclos hkind hnames (wpAny_mono he (fun xv s₁ h₁ => ?_) fun _ _ e => e)
  obtain ⟨tk, rfl, rfl⟩ := h₁
  have hlS : s.heap.IsList ax vs.toArray := stays_list F.keep hl
  refine wpAny_pyIter_list hlS ?_
  have F1 := F.push { cls := .type "list_iterator", data := .fields #[.ref ax, .int 0 0] }
  have N1 := N.push F { cls := .type "list_iterator", data := .fields #[.ref ax, .int 0 0] }
  have four := four_of N
  have eL : L < s.heap.objs.size := F.ns.lt
  refine wpAny_newObj_type ?_
  dsimp only
  have F2 := F1.push { cls := .type "list", dict := none, data := .seq ([] : List Value).toArray }
  have N2 := N1.push F1 { cls := .type "list", dict := none, data := .seq ([] : List Value).toArray }
  simp only [newFunctionEnv, Option.isSome_some, if_true]
  refine wpAny_bind (wpAny_alloc ?_)
  dsimp only
  have F3 := F2.push { cls := .type "dict", data := .dict #[] }
  have N3 := N2.push F2 { cls := .type "dict", data := .dict #[] }
  refine wpAny_bind (wpAny_layCells _ (fun name kind cells => by cases hkc : kind == NameKind.cell <;> simp [hkc]) _ _ _ _ ?_)
  rw [hone]
  simp only [hpush]
  have F4 := F3.push { cls := .type "cell", data := .cell none }
  have N4 := N3.push F3 { cls := .type "cell", data := .cell none }
  refine wpAny_bind ?_
  rw [List.forIn_nil]
  refine wpAny_pure (wpAny_pure ?_)
  simp only [Heap.size_push] at N1 N2 N3 N4 F1 F2 F3 F4 ⊢
  refine comp_cell_loop (oI := { cls := .type "list_iterator", data := .fields #[.ref ax, .int 0 0] }) (oc := { cls := .type "cell", data := .cell none }) (oC := { cls := .type "dict", data := .dict #[] }) (m₂ := fun _ => none) hh F4 (fun p hp => N4 p ?sub) four ?hit ?hC rfl hkind hx hd hl hi hsz (fun i n t ys I oI C oC ce oc D h tk E' => turn i n t ys I oI C oC ce oc D h tk E') fun ys h tk a b c => fin ys _ h tk a b c four.d
  case sub =>
    rcases List.mem_cons.mp hp with rfl | hp
    · exact .tail _ (.tail _ (.tail _ (.head _)))
    · rcases List.mem_cons.mp hp with rfl | hp
      · exact .tail _ (.head _)
      · rcases List.mem_cons.mp hp with rfl | hp
        · exact .head _
        · rcases List.mem_cons.mp hp with rfl | hp
          · exact .tail _ (.tail _ (.head _))
          · exact .tail _ (.tail _ (.tail _ (.tail _ hp)))
  case hit => exact ⟨_, (N4 _ (.tail _ (.tail _ (.tail _ (.head _))))).1, rfl, rfl⟩
  case hC => exact ⟨_, _, rfl, fun _ h => by simp at h, fun _ => rfl⟩
end
end
section
theorem lines_LLeast : True := by
  w_top off
  k_with_none
  (k_with "my_pj" => (with_reducible first | assumption | exact Mine.pj1l (by assumption) | exact Mine.pj1r (by assumption) | exact Mine.pj2l (by assumption) | exact Mine.pj2r (by assumption) | exact Mine.pj3l (by assumption) | exact Mine.pj3r (by assumption) | exact Mine.pj4l (by assumption) | exact Mine.pj4r (by assumption) | exact Mine.pj5l (by assumption) | exact Mine.pj5r (by assumption) | exact Mine.pj6l (by assumption) | exact Mine.pj6r (by assumption) | exact Mine.pj7l (by assumption) | exact Mine.pj7r (by assumption) | exact Mine.pj8l (by assumption) | exact Mine.pj8r (by assumption) | exact Mine.pj9l (by assumption) | exact Mine.pj9r (by assumption) | exact Mine.pj10l (by assumption) | exact Mine.pj10r (by assumption) | exact Mine.pj11l (by assumption) | exact Mine.pj11r (by assumption) | exact Mine.pj12l (by assumption) | exact Mine.pj12r (by assumption) | exact Mine.pj13l (by assumption) | exact Mine.pj13r (by assumption) | exact Mine.pj14l (by assumption) | exact Mine.pj14r (by assumption) | exact Mine.pj15l (by assumption) | exact Mine.pj15r (by assumption) | exact Mine.pj16l (by assumption) | exact Mine.pj16r (by assumption)))
  (k_with "my_ne" => (refine neN ?_; (try dsimp only); first | with_reducible assumption | exact Ne.symm (by with_reducible assumption) | (refine Mine.neOr ?_; simp only [*, true_or, or_true, ne_eq, not_false_eq_true]; done) | (refine Ne.symm (Mine.neOr ?_); simp only [*, true_or, or_true, ne_eq, not_false_eq_true]; done) | omega))
  (k_with "my_room" => first | exact room1 (by with_reducible assumption) rfl rfl | exact room0 (by with_reducible assumption) rfl rfl | ((simp only [Around.deeper, Around.in1, recursionLimit, cLine] at *); omega))
  (k_with "my_fill" => ((have hfill : (fun (_ : OpenLaw) (_ : Params → Frag) => True) PySem.Challenge.rw_rg0207_01 Mine.hd.heap_1 := by k_fill; trivial); clear hfill))
  (k_with "my_in" => ((case k6 => k_is); (case k7 => k_is); (case k8 => first | exact Nat.lt_of_le_of_lt (Nat.le_add_right _ _) (by with_reducible assumption) | (simp only [recursionLimit] at *; omega)); (case k9 => first | exact BindsTo.of_eq rfl | exact binds_K (Frag.In.keeps (by assumption) (by assumption)) rfl (by k_is) rfl rfl rfl); (case c5 => decide); (case kB => exact locs rfl); (case c2 => exact rfl); (case c3 => exact rfl); (case c4 => exact rfl)))
  (k_with "my_sub" => repeat' (first | exact List.forall_mem_nil _ | refine List.forall_mem_cons.mpr ⟨?_, ?_⟩ | k_mem))
  (k_with "exec For Name Call cons nil" => (k_here; k_dflt (refine my_For ?_)))
  (k_with "exec For Name Name cons nil" => (k_here; k_dflt (refine my_For ?_)))
  (k_with "newTuple" => (k_here; k_dflt (refine my_newTuple (by k_asm) (by k_asm) ?_ (by size_fits); k_whole); intro l' h' F' N' l1; (try k_lt l1); (try k_sweep)))
  (k_with "call type:range" => (k_here; (with_reducible rename Fr _ _ _ _ => F'); (with_reducible rename News _ _ _ _ => N'); first | (with_unfolding_all refine range1_rows F' N' ?_; intro h' tk' t' u' v' R' F' N' k'; (try k_sweep)) | (with_unfolding_all refine range2_rows F' N' ?_; intro h' tk' t' u' v' R' F' N' k'; (try k_sweep))))
  (k_with "my_inC" => ((case k6 => k_is); (case k7 => k_is); (case k8 => first | exact Nat.lt_of_le_of_lt (Nat.le_add_right _ _) (by with_reducible assumption) | (simp only [recursionLimit] at *; omega)); (case k9 => exact BindsTo.of_eq rfl); (case kB => exact rfl); (case kD => decide +kernel); (case c2 => exact rfl); (case c3 => exact rfl); (case c4 => exact rfl)))
  (k_with "eval Name" => (k_here; kc_free; k_dflt (refine name_free (by k_asm) (by rfl) (by assumption) (by assumption) ?_ (by rfl) (by rfl); k_whole)))
  (k_with "last call builtin:len" => (k_here; k_dflt (refine call_len_list (by is_list) (by ((try simp only [Array.size_push, List.size_toArray]); omega)) ?_; k_whole); (try simp only [Array.size_push])))
  (k_with "my_ints" => first | assumption | l_ints | l_intsW)
  (k_with "my_fit" => ((try simp only [sizeLine_eq, List.length_append, List.length_cons, List.length_nil, List.length_reverse, List.length_map, List.size_toArray, Array.size_push]); omega))
  (k_with "binaryOp Add ref ref" => (k_here; (with_reducible show wpAny _ _ (binaryOp _ (Value.ref _) (Value.ref _)) _ _ _); k_dflt (refine my_addL (by k_asm) (by k_asm) (by kmk_list) (by kmk_list) (by k_extra "my_ints") (by k_extra "my_ints") ?_ (by k_extra "my_fit"); k_whole); intro D' h' F' N' l1 hI'; (try k_lt l1); (try k_sweep)))
  (k_with "exec While Compare cons nil" => (k_here; k_dflt (refine my_While ?_)))
  (k_with "my_len" => ((try simp only [Around.deeper, Around.in1, recursionLimit, cLine, List.length_append, List.length_take, List.length_drop, List.length_cons, List.length_nil] at *); omega))
  (k_with "eval ListComp" => (k_here; first | (lct_look; k_dflt (refine LCt.ListComp_T (F₀ := by k_asm) (by with_unfolding_all rfl) (by decide) (by rfl) (by decide) (by rfl) ?_)) | k_dflt (refine LCg.ListComp_U (F₀ := by k_asm) (by with_unfolding_all rfl) (by decide) (by rfl) (by decide) (by rfl) ?_)))
  (k_with "exec Assign cons ListComp" => (k_here; first | (lct_look; k_dflt (refine LCt.Assign_ListComp_T (F₀ := by k_asm) (by rfl) (by with_unfolding_all rfl) (by with_unfolding_all rfl) (by decide) (by rfl) (by decide) (by rfl) (by rfl) (by rfl) ?_)) | k_dflt (refine LCg.Assign_ListComp_U (F₀ := by k_asm) (by rfl) (by with_unfolding_all rfl) (by with_unfolding_all rfl) (by decide) (by rfl) (by decide) (by rfl) (by rfl) (by rfl) ?_)))
  (k_with "call ref" => (k_here; (with_reducible show wpAny _ _ (call (Value.ref 228) _) _ _ _); k_dflt (refine named_K (by k_asm) (by k_asm) (by k_asm) (by k_asm) (by rfl) (by k_extra "my_room") (by k_extra "my_room") (by assumption) (by is_list) (by first | assumption | l_ints | l_intsW) (by assumption) ?_; k_whole); intro h' tk' rK F' N' hNm; (try k_sweep); (rcases hNm with ⟨hr', eNm⟩ | ⟨aN, vsN, fN, hr', eNm, hlN, hiN⟩ <;> subst hr'); all_goals (try (have hzN := named_len (by assumption) eNm hiN; have hfN := named_len2 (by assumption) eNm))))
  (k_with "eval ListComp" => (k_here; (with_reducible show wpAny _ _ (eval (PySem.Expr.ListComp _ [⟨_, _, [PySem.Expr.Compare (PySem.Expr.Call _ _ _ _) _ _ _], _⟩] _ _) _) _ _ _); k_dflt (refine my_Comp ?_)))
  trivial
def MyComp (prog : Program) (w : World) (A : Around) (env : Env) (e : Expr) (Q E : Value → Shared → Prop) (s : Shared) : Prop := wpAny (model prog w) A (eval e env) Q E s
theorem my_Comp {prog : Program} {w : World} {A : Around} {env : Env} {e : Expr} {Q E : Value → Shared → Prop} {s : Shared} (h : MyComp prog w A env e Q E s) : wpAny (model prog w) A (eval e env) Q E s := h
def llV (H : List (List Int)) (ks : List Int) : Bool := (namedV H ks).isSome && ks.all fun k => (namedV H (ks.filter fun x => x != k)).isNone
section
variable {prog : Program} {w : World} {h₀ : Heap} {p : Program} {loose : List Str} {mean : ExcName → Option Value} {mg mb : Str → Option Value}
theorem lleast {A : Around} {s : Shared} {hid kl : Addr} {H : List (List Int)} {vs : List Value} {ks : List Int} {Q E : Value → Shared → Prop}
   (X : (hd.heap_1 w.params).In h₀) (T : Top p loose mean mg mb h₀) (st : h₀.StaysIn s.heap) (hh : A.handled = none) (hd : A.depth + 30 < recursionLimit) (hu : A.units + 600 < cLine)
   (hH : HidAt s.heap hid H) (hk : s.heap.IsList kl vs.toArray) (hi : IntsAre vs ks) (hlen : ks.length ≤ 50) (hHr : ∀ f ∈ H, f.length ≤ 100)
   (hret : ∀ h' tk', Own [] s.heap h' → Q (.bool (llV H ks)) { s with heap := h', toks := tk' }) :
   wpAny (model prog w) A (call (.ref 245) [.ref hid, .ref kl]) Q E s := by
  k_extra "my_fill"
  obtain ⟨_, dp, fr, gd, un⟩ := A
  obtain rfl : _ = none := hh
  refine wpAny_call ?_
  refine' code_inC (news := []) X T st ?kN ?k6 ?k7 ?k8 ?k9 ?kB ?kD ?_ ?c2 ?c3 ?c4
  case kN => exact led0
  k_extra "my_inC"
  intro g L h₁ tk cells hgB F N Y X' T' lL lN
  k_cells Y
  try simp only [List.cons_append, List.nil_append] at N
  clear lN
  have kg : ∀ b o, s.heap.get? b = some o → g.get? b = some o := fun b o e => base_get hgB e (by simp)
  have hk' : g.IsList kl vs.toArray := stays_list kg hk
  have hH' : HidAt g hid H := hH.keep kg
  have hvl := hi.length
  dsimp only
  try k_fold
  k_steps
  case _ =>
    rename Fr _ _ _ _ => F'
    rename namedV _ _ = none => eN
    dsimp only
    have e : llV H ks = false := by rw [llV, eN]; rfl
    have := fun tk' => hret _ tk' (own_of hgB F')
    simp only [e] at this
    exact this _
  case _ =>
    rename Fr _ _ _ _ => F'
    rename News _ _ _ _ => N'
    rename namedV _ _ = some _ => eN
    clear hlN hiN hzN hfN
    unfold MyComp
    refine comp_cell (f := fun n => (namedV H (ks.filter fun x => x != n)).isSome) rfl F' N' (by with_unfolding_all rfl) rfl (by decide) (fun _ => rfl) (fun _ => rfl) (fun _ _ => by with_unfolding_all rfl) (by decide) hk' hi (by omega) ?he ?turn ?fin
    case he => k_steps
    case turn =>
      intro i n t ys I oI C oC ce oc D h tk E' hn hoc F₁ N₁ four
      obtain ⟨q1, q2, q3, q4, q5, q6, q7, q8, q9, q10⟩ := four
      clear F' N'
      k_steps
      rename Fr _ _ _ _ => F'
      rename News _ _ _ _ => N'
      refine LCt.CompSrcT.base rfl F' N' hk' (by rw [List.size_toArray, sizeLine_eq]; omega) fun g' => filter_rest (fun x => x != n) hi (Or.inl hk') rfl (fun _ => rfl) rfl (fun ys2 hy2 => ?fin2) (fun i' n' t' ys' I' oI' C' oC' D' m₂ h₃ tk₃ E' hn' hC' hx' F₃ N₃ => ?cond)
      case cond => k_steps
      case fin2 =>
        clear F' N'
        have hfl : (ks.filter fun x => x != n).length ≤ 50 := Nat.le_trans (List.length_filter_le _ _) hlen
        k_steps
        all_goals first
          | (rename namedV _ _ = none => eNm; rw [eNm]; rfl)
          | (rename namedV _ _ = some _ => eNm; rw [eNm]; rfl)
          | (rename Fr _ _ _ _ => F'; exact F')
          | (rename News _ _ _ _ => N'; exact News.cut N' fun p hp => .tail _ hp)
    case fin =>
      intro ys D h tk hys F₁ N₁ off
      clear F' N'
      k_steps
      rename Fr _ _ _ _ => F'
      have e : llV H ks = decide (ks.filter (fun n => (namedV H (ks.filter fun x => x != n)).isSome) = []) := by
        rw [llV, eN, Option.isSome_some, Bool.true_and]
        apply Bool.eq_iff_iff.mpr
        rw [List.all_eq_true, decide_eq_true_eq, List.filter_eq_nil_iff]
        exact ⟨fun h a ha => by have := h a ha; cases q : namedV H (ks.filter fun x => x != a) <;> simp_all, fun h a ha => by have := h a ha; cases q : namedV H (ks.filter fun x => x != a) <;> simp_all⟩
      rw [← e]
      exact hret _ _ (own_of hgB F')
theorem lleast_K {A : Around} {s : Shared} {g : Heap} {L hid kl : Addr} {m₀ : Str → Option Value} {news : List (Addr × Obj)} {H : List (List Int)} {vs : List Value} {ks : List Int} {Q E : Value → Shared → Prop}
   (F : Fr g L s.heap m₀) (N : News g L s.heap news) (X : (hd.heap_1 w.params).In g) (T : Top p loose mean mg mb g) (hh : A.handled = none) (hd : A.depth + 30 < recursionLimit) (hu : A.units + 600 < cLine)
   (hH : HidAt g hid H) (hk : s.heap.IsList kl vs.toArray) (hi : IntsAre vs ks) (hlen : ks.length ≤ 50) (hHr : ∀ f ∈ H, f.length ≤ 100)
   (hret : ∀ h' tk', Fr g L h' m₀ → News g L h' news → Q (.bool (llV H ks)) { s with heap := h', toks := tk' }) :
   wpAny (model prog w) A (call (.ref 245) [.ref hid, .ref kl]) Q E s :=
  lleast X T F.keep hh hd hu (hH.keep F.keep) hk hi hlen hHr fun h' tk' ow => let ⟨F', N'⟩ := own0 F N ow; hret h' tk' F' N'
end
end
section
theorem lines_Res : True := by
  w_top off
  k_with_none
  (k_with "my_pj" => (with_reducible first | assumption | exact Mine.pj1l (by assumption) | exact Mine.pj1r (by assumption) | exact Mine.pj2l (by assumption) | exact Mine.pj2r (by assumption) | exact Mine.pj3l (by assumption) | exact Mine.pj3r (by assumption) | exact Mine.pj4l (by assumption) | exact Mine.pj4r (by assumption) | exact Mine.pj5l (by assumption) | exact Mine.pj5r (by assumption) | exact Mine.pj6l (by assumption) | exact Mine.pj6r (by assumption) | exact Mine.pj7l (by assumption) | exact Mine.pj7r (by assumption) | exact Mine.pj8l (by assumption) | exact Mine.pj8r (by assumption) | exact Mine.pj9l (by assumption) | exact Mine.pj9r (by assumption) | exact Mine.pj10l (by assumption) | exact Mine.pj10r (by assumption) | exact Mine.pj11l (by assumption) | exact Mine.pj11r (by assumption) | exact Mine.pj12l (by assumption) | exact Mine.pj12r (by assumption) | exact Mine.pj13l (by assumption) | exact Mine.pj13r (by assumption) | exact Mine.pj14l (by assumption) | exact Mine.pj14r (by assumption) | exact Mine.pj15l (by assumption) | exact Mine.pj15r (by assumption) | exact Mine.pj16l (by assumption) | exact Mine.pj16r (by assumption)))
  (k_with "my_ne" => (refine neN ?_; (try dsimp only); first | with_reducible assumption | exact Ne.symm (by with_reducible assumption) | (refine Mine.neOr ?_; simp only [*, true_or, or_true, ne_eq, not_false_eq_true]; done) | (refine Ne.symm (Mine.neOr ?_); simp only [*, true_or, or_true, ne_eq, not_false_eq_true]; done) | omega))
  (k_with "my_room" => first | exact room1 (by with_reducible assumption) rfl rfl | exact room0 (by with_reducible assumption) rfl rfl | ((simp only [Around.deeper, Around.in1, recursionLimit, cLine] at *); omega))
  (k_with "my_fill" => ((have hfill : (fun (_ : OpenLaw) (_ : Params → Frag) => True) PySem.Challenge.rw_rg0207_01 Mine.hd.heap_1 := by k_fill; trivial); clear hfill))
  (k_with "my_in" => ((case k6 => k_is); (case k7 => k_is); (case k8 => first | exact Nat.lt_of_le_of_lt (Nat.le_add_right _ _) (by with_reducible assumption) | (simp only [recursionLimit] at *; omega)); (case k9 => first | exact BindsTo.of_eq rfl | exact binds_K (Frag.In.keeps (by assumption) (by assumption)) rfl (by k_is) rfl rfl rfl); (case c5 => decide); (case kB => exact locs rfl); (case c2 => exact rfl); (case c3 => exact rfl); (case c4 => exact rfl)))
  (k_with "my_sub" => repeat' (first | exact List.forall_mem_nil _ | refine List.forall_mem_cons.mpr ⟨?_, ?_⟩ | k_mem))
  (k_with "exec For Name Call cons nil" => (k_here; k_dflt (refine my_For ?_)))
  (k_with "exec For Name Name cons nil" => (k_here; k_dflt (refine my_For ?_)))
  (k_with "newTuple" => (k_here; k_dflt (refine my_newTuple (by k_asm) (by k_asm) ?_ (by size_fits); k_whole); intro l' h' F' N' l1; (try k_lt l1); (try k_sweep)))
  (k_with "call type:range" => (k_here; (with_reducible rename Fr _ _ _ _ => F'); (with_reducible rename News _ _ _ _ => N'); first | (with_unfolding_all refine range1_rows F' N' ?_; intro h' tk' t' u' v' R' F' N' k'; (try k_sweep)) | (with_unfolding_all refine range2_rows F' N' ?_; intro h' tk' t' u' v' R' F' N' k'; (try k_sweep))))
  (k_with "my_inC" => ((case k6 => k_is); (case k7 => k_is); (case k8 => first | exact Nat.lt_of_le_of_lt (Nat.le_add_right _ _) (by with_reducible assumption) | (simp only [recursionLimit] at *; omega)); (case k9 => exact BindsTo.of_eq rfl); (case kB => exact rfl); (case kD => decide +kernel); (case c2 => exact rfl); (case c3 => exact rfl); (case c4 => exact rfl)))
  (k_with "eval Name" => (k_here; kc_free; k_dflt (refine name_free (by k_asm) (by rfl) (by assumption) (by assumption) ?_ (by rfl) (by rfl); k_whole)))
  (k_with "last call builtin:len" => (k_here; k_dflt (refine call_len_list (by is_list) (by ((try simp only [Array.size_push, List.size_toArray]); omega)) ?_; k_whole); (try simp only [Array.size_push])))
  (k_with "my_ints" => first | assumption | l_ints | l_intsW)
  (k_with "my_fit" => ((try simp only [sizeLine_eq, List.length_append, List.length_cons, List.length_nil, List.length_reverse, List.length_map, List.size_toArray, Array.size_push]); omega))
  (k_with "binaryOp Add ref ref" => (k_here; (with_reducible show wpAny _ _ (binaryOp _ (Value.ref _) (Value.ref _)) _ _ _); k_dflt (refine my_addL (by k_asm) (by k_asm) (by kmk_list) (by kmk_list) (by k_extra "my_ints") (by k_extra "my_ints") ?_ (by k_extra "my_fit"); k_whole); intro D' h' F' N' l1 hI'; (try k_lt l1); (try k_sweep)))
  (k_with "exec While Compare cons nil" => (k_here; k_dflt (refine my_While ?_)))
  (k_with "my_len" => ((try simp only [Around.deeper, Around.in1, recursionLimit, cLine, List.length_append, List.length_take, List.length_drop, List.length_cons, List.length_nil] at *); omega))
  trivial
section
variable {prog : Program} {w : World} {h₀ : Heap} {p : Program} {loose : List Str} {mean : ExcName → Option Value} {mg mb : Str → Option Value}
def resL : List Str := [Str.ofString "!", Str.ofString "_", Str.ofString "as", Str.ofString "BINARY", Str.ofString "DECIMAL", Str.ofString "exists", Str.ofString "forall", Str.ofString "HEXADECIMAL", Str.ofString "let", Str.ofString "match", Str.ofString "NUMERAL", Str.ofString "par", Str.ofString "STRING"]
theorem res_tup {h : Heap} (X : (hd.heap_1 w.params).In h) : ∃ items, IsTup h 72 items ∧ StrsAre items.toList resL := by
  k_extra "my_fill"
  refine ⟨_, ⟨_, X 72 _ (by k_is), rfl, _, rfl⟩, ?_⟩
  repeat constructor
theorem res_in {A : Around} {s : Shared} {g : Heap} {L : Addr} {m : Str → Option Value} {x : Str} {u : Tok} {Q E : Value → Shared → Prop} (F : Fr g L s.heap m) (X : (hd.heap_1 w.params).In g) (h : Q (.bool (resL.any (· == x))) s) : wpAny (model prog w) A (compareOp .In (.str x u) (.ref 72)) Q E s :=
  let ⟨_, a, b⟩ := res_tup (X.keeps F.keep)
  in_tuple_strs a b h
end
end
section
theorem lines_StrIt : True := by
  w_top off
  k_with_none
  (k_with "my_pj" => (with_reducible first | assumption | exact Mine.pj1l (by assumption) | exact Mine.pj1r (by assumption) | exact Mine.pj2l (by assumption) | exact Mine.pj2r (by assumption) | exact Mine.pj3l (by assumption) | exact Mine.pj3r (by assumption) | exact Mine.pj4l (by assumption) | exact Mine.pj4r (by assumption) | exact Mine.pj5l (by assumption) | exact Mine.pj5r (by assumption) | exact Mine.pj6l (by assumption) | exact Mine.pj6r (by assumption) | exact Mine.pj7l (by assumption) | exact Mine.pj7r (by assumption) | exact Mine.pj8l (by assumption) | exact Mine.pj8r (by assumption) | exact Mine.pj9l (by assumption) | exact Mine.pj9r (by assumption) | exact Mine.pj10l (by assumption) | exact Mine.pj10r (by assumption) | exact Mine.pj11l (by assumption) | exact Mine.pj11r (by assumption) | exact Mine.pj12l (by assumption) | exact Mine.pj12r (by assumption) | exact Mine.pj13l (by assumption) | exact Mine.pj13r (by assumption) | exact Mine.pj14l (by assumption) | exact Mine.pj14r (by assumption) | exact Mine.pj15l (by assumption) | exact Mine.pj15r (by assumption) | exact Mine.pj16l (by assumption) | exact Mine.pj16r (by assumption)))
  (k_with "my_ne" => (refine neN ?_; (try dsimp only); first | with_reducible assumption | exact Ne.symm (by with_reducible assumption) | (refine Mine.neOr ?_; simp only [*, true_or, or_true, ne_eq, not_false_eq_true]; done) | (refine Ne.symm (Mine.neOr ?_); simp only [*, true_or, or_true, ne_eq, not_false_eq_true]; done) | omega))
  (k_with "my_room" => first | exact room1 (by with_reducible assumption) rfl rfl | exact room0 (by with_reducible assumption) rfl rfl | ((simp only [Around.deeper, Around.in1, recursionLimit, cLine] at *); omega))
  (k_with "my_fill" => ((have hfill : (fun (_ : OpenLaw) (_ : Params → Frag) => True) PySem.Challenge.rw_rg0207_01 Mine.hd.heap_1 := by k_fill; trivial); clear hfill))
  (k_with "my_in" => ((case k6 => k_is); (case k7 => k_is); (case k8 => first | exact Nat.lt_of_le_of_lt (Nat.le_add_right _ _) (by with_reducible assumption) | (simp only [recursionLimit] at *; omega)); (case k9 => first | exact BindsTo.of_eq rfl | exact binds_K (Frag.In.keeps (by assumption) (by assumption)) rfl (by k_is) rfl rfl rfl); (case c5 => decide); (case kB => exact locs rfl); (case c2 => exact rfl); (case c3 => exact rfl); (case c4 => exact rfl)))
  (k_with "my_sub" => repeat' (first | exact List.forall_mem_nil _ | refine List.forall_mem_cons.mpr ⟨?_, ?_⟩ | k_mem))
  (k_with "exec For Name Call cons nil" => (k_here; k_dflt (refine my_For ?_)))
  (k_with "exec For Name Name cons nil" => (k_here; k_dflt (refine my_For ?_)))
  (k_with "newTuple" => (k_here; k_dflt (refine my_newTuple (by k_asm) (by k_asm) ?_ (by size_fits); k_whole); intro l' h' F' N' l1; (try k_lt l1); (try k_sweep)))
  (k_with "call type:range" => (k_here; (with_reducible rename Fr _ _ _ _ => F'); (with_reducible rename News _ _ _ _ => N'); first | (with_unfolding_all refine range1_rows F' N' ?_; intro h' tk' t' u' v' R' F' N' k'; (try k_sweep)) | (with_unfolding_all refine range2_rows F' N' ?_; intro h' tk' t' u' v' R' F' N' k'; (try k_sweep))))
  (k_with "my_inC" => ((case k6 => k_is); (case k7 => k_is); (case k8 => first | exact Nat.lt_of_le_of_lt (Nat.le_add_right _ _) (by with_reducible assumption) | (simp only [recursionLimit] at *; omega)); (case k9 => exact BindsTo.of_eq rfl); (case kB => exact rfl); (case kD => decide +kernel); (case c2 => exact rfl); (case c3 => exact rfl); (case c4 => exact rfl)))
  (k_with "eval Name" => (k_here; kc_free; k_dflt (refine name_free (by k_asm) (by rfl) (by assumption) (by assumption) ?_ (by rfl) (by rfl); k_whole)))
  (k_with "last call builtin:len" => (k_here; k_dflt (refine call_len_list (by is_list) (by ((try simp only [Array.size_push, List.size_toArray]); omega)) ?_; k_whole); (try simp only [Array.size_push])))
  (k_with "my_ints" => first | assumption | l_ints | l_intsW)
  (k_with "my_fit" => ((try simp only [sizeLine_eq, List.length_append, List.length_cons, List.length_nil, List.length_reverse, List.length_map, List.size_toArray, Array.size_push]); omega))
  (k_with "binaryOp Add ref ref" => (k_here; (with_reducible show wpAny _ _ (binaryOp _ (Value.ref _) (Value.ref _)) _ _ _); k_dflt (refine my_addL (by k_asm) (by k_asm) (by kmk_list) (by kmk_list) (by k_extra "my_ints") (by k_extra "my_ints") ?_ (by k_extra "my_fit"); k_whole); intro D' h' F' N' l1 hI'; (try k_lt l1); (try k_sweep)))
  (k_with "exec While Compare cons nil" => (k_here; k_dflt (refine my_While ?_)))
  (k_with "my_len" => ((try simp only [Around.deeper, Around.in1, recursionLimit, cLine, List.length_append, List.length_take, List.length_drop, List.length_cons, List.length_nil] at *); omega))
  trivial
section
variable {prog : Program} {w : World} {A : Around} {E : Value → Shared → Prop} {s : Shared} {h₀ : Heap} {env : Env}
theorem MyIter.str {x : Str} {px : Pos} {body : List Stmt} {Q : Flow → Shared → Prop} {y : Str} {t : Tok} {m : Str → Option Value} {news : List (Addr × Obj)}
    (hh : A.handled = none) (hx : env.kindOf x = some .local) (hp : (env.scope.kind == .class || (env.scope.kind == .module && env.locals != env.globals)) = false)
    (F : Fr h₀ env.locals s.heap m) (N : News h₀ env.locals s.heap news) (ha : y.cps.all (· < 128) = true)
    (J : Nat → (Str → Option Value) → List (Addr × Obj) → Prop) (h0 : J 0 m news)
    (step : ∀ i c u m₁ news₁ h₁ tk₁ I oI, y.cps[i]? = some c → J i m₁ news₁ → Fr h₀ env.locals h₁ (fun z => if z = x then some (.str ⟨#[c]⟩ u) else m₁ z) → News h₀ env.locals h₁ ((I, oI) :: news₁) → (∀ p ∈ news₁, p.1 ≠ I) → (∀ p ∈ news, p.1 < I) →
      wpAny (model prog w) A (execs body env) (LoopEnd h₀ env.locals I oI (J (i + 1)) { s with heap := h₁, toks := tk₁ } Q) (fun _ _ => False) { s with heap := h₁, toks := tk₁ })
    (hR : ∀ h' tk m' news', Fr h₀ env.locals h' m' → News h₀ env.locals h' news' → J y.cps.size m' news' → Q .next { s with heap := h', toks := tk }) :
    MyIter prog w A env x px body Q (.str y t) s := by
  refine wpAny_pyIter_ascii ha ?_
  have up : ∀ z o v, s.heap.get? z = some o → (s.heap.push v).get? z = some o := fun z o v e => Heap.get?_push_of_some _ e
  refine my_loop (Walks.strAscii hh s.heap.objs.size y t) hx hp (fun q => ?_) (next_is_new F) ⟨_, Heap.get?_push_size _ rfl, rfl, rfl⟩ (F.keeps fun z o => up z o _) (N.grown fun z o => up z o _) (fun p hp => Nat.ne_of_lt (Heap.lt_size (N p hp).1)) J h0 (fun b hb n => absurd (List.mem_singleton.mp hb) n) (fun i h st => let ⟨o, e, _⟩ := st; ⟨o, e⟩)
    (fun i v m₁ news₁ h₁ tk₁ oI hi hP hJ F₁ N₁ n₁ => ?_) hR fun _ _ q => q
  · exact Nat.ne_of_lt F.ns.lt (List.mem_singleton.mp q)
  · obtain ⟨c, u, hc, rfl⟩ := hP
    exact step i c u m₁ news₁ h₁ tk₁ _ oI hc hJ F₁ N₁ n₁ fun p hp => Heap.lt_size (N p hp).1
end
end
section
theorem lines_Sim : True := by
  w_top off
  k_with_none
  (k_with "my_pj" => (with_reducible first | assumption | exact Mine.pj1l (by assumption) | exact Mine.pj1r (by assumption) | exact Mine.pj2l (by assumption) | exact Mine.pj2r (by assumption) | exact Mine.pj3l (by assumption) | exact Mine.pj3r (by assumption) | exact Mine.pj4l (by assumption) | exact Mine.pj4r (by assumption) | exact Mine.pj5l (by assumption) | exact Mine.pj5r (by assumption) | exact Mine.pj6l (by assumption) | exact Mine.pj6r (by assumption) | exact Mine.pj7l (by assumption) | exact Mine.pj7r (by assumption) | exact Mine.pj8l (by assumption) | exact Mine.pj8r (by assumption) | exact Mine.pj9l (by assumption) | exact Mine.pj9r (by assumption) | exact Mine.pj10l (by assumption) | exact Mine.pj10r (by assumption) | exact Mine.pj11l (by assumption) | exact Mine.pj11r (by assumption) | exact Mine.pj12l (by assumption) | exact Mine.pj12r (by assumption) | exact Mine.pj13l (by assumption) | exact Mine.pj13r (by assumption) | exact Mine.pj14l (by assumption) | exact Mine.pj14r (by assumption) | exact Mine.pj15l (by assumption) | exact Mine.pj15r (by assumption) | exact Mine.pj16l (by assumption) | exact Mine.pj16r (by assumption)))
  (k_with "my_ne" => (refine neN ?_; (try dsimp only); first | with_reducible assumption | exact Ne.symm (by with_reducible assumption) | (refine Mine.neOr ?_; simp only [*, true_or, or_true, ne_eq, not_false_eq_true]; done) | (refine Ne.symm (Mine.neOr ?_); simp only [*, true_or, or_true, ne_eq, not_false_eq_true]; done) | omega))
  (k_with "my_room" => first | exact room1 (by with_reducible assumption) rfl rfl | exact room0 (by with_reducible assumption) rfl rfl | ((simp only [Around.deeper, Around.in1, recursionLimit, cLine] at *); omega))
  (k_with "my_fill" => ((have hfill : (fun (_ : OpenLaw) (_ : Params → Frag) => True) PySem.Challenge.rw_rg0207_01 Mine.hd.heap_1 := by k_fill; trivial); clear hfill))
  (k_with "my_in" => ((case k6 => k_is); (case k7 => k_is); (case k8 => first | exact Nat.lt_of_le_of_lt (Nat.le_add_right _ _) (by with_reducible assumption) | (simp only [recursionLimit] at *; omega)); (case k9 => first | exact BindsTo.of_eq rfl | exact binds_K (Frag.In.keeps (by assumption) (by assumption)) rfl (by k_is) rfl rfl rfl); (case c5 => decide); (case kB => exact locs rfl); (case c2 => exact rfl); (case c3 => exact rfl); (case c4 => exact rfl)))
  (k_with "my_sub" => repeat' (first | exact List.forall_mem_nil _ | refine List.forall_mem_cons.mpr ⟨?_, ?_⟩ | k_mem))
  (k_with "exec For Name Call cons nil" => (k_here; k_dflt (refine my_For ?_)))
  (k_with "exec For Name Name cons nil" => (k_here; k_dflt (refine my_For ?_)))
  (k_with "newTuple" => (k_here; k_dflt (refine my_newTuple (by k_asm) (by k_asm) ?_ (by size_fits); k_whole); intro l' h' F' N' l1; (try k_lt l1); (try k_sweep)))
  (k_with "call type:range" => (k_here; (with_reducible rename Fr _ _ _ _ => F'); (with_reducible rename News _ _ _ _ => N'); first | (with_unfolding_all refine range1_rows F' N' ?_; intro h' tk' t' u' v' R' F' N' k'; (try k_sweep)) | (with_unfolding_all refine range2_rows F' N' ?_; intro h' tk' t' u' v' R' F' N' k'; (try k_sweep))))
  (k_with "my_inC" => ((case k6 => k_is); (case k7 => k_is); (case k8 => first | exact Nat.lt_of_le_of_lt (Nat.le_add_right _ _) (by with_reducible assumption) | (simp only [recursionLimit] at *; omega)); (case k9 => exact BindsTo.of_eq rfl); (case kB => exact rfl); (case kD => decide +kernel); (case c2 => exact rfl); (case c3 => exact rfl); (case c4 => exact rfl)))
  (k_with "eval Name" => (k_here; kc_free; k_dflt (refine name_free (by k_asm) (by rfl) (by assumption) (by assumption) ?_ (by rfl) (by rfl); k_whole)))
  (k_with "last call builtin:len" => (k_here; k_dflt (refine call_len_list (by is_list) (by ((try simp only [Array.size_push, List.size_toArray]); omega)) ?_; k_whole); (try simp only [Array.size_push])))
  (k_with "my_ints" => first | assumption | l_ints | l_intsW)
  (k_with "my_fit" => ((try simp only [sizeLine_eq, List.length_append, List.length_cons, List.length_nil, List.length_reverse, List.length_map, List.size_toArray, Array.size_push]); omega))
  (k_with "binaryOp Add ref ref" => (k_here; (with_reducible show wpAny _ _ (binaryOp _ (Value.ref _) (Value.ref _)) _ _ _); k_dflt (refine my_addL (by k_asm) (by k_asm) (by kmk_list) (by kmk_list) (by k_extra "my_ints") (by k_extra "my_ints") ?_ (by k_extra "my_fit"); k_whole); intro D' h' F' N' l1 hI'; (try k_lt l1); (try k_sweep)))
  (k_with "exec While Compare cons nil" => (k_here; k_dflt (refine my_While ?_)))
  (k_with "my_len" => ((try simp only [Around.deeper, Around.in1, recursionLimit, cLine, List.length_append, List.length_take, List.length_drop, List.length_cons, List.length_nil] at *); omega))
  (k_with "compareOp In str ref" => (k_here; (with_reducible show wpAny _ _ (compareOp CmpOp.In (Value.str _ _) (Value.ref _)) _ _ _); k_dflt (refine res_in (by k_asm) (by k_asm) ?_; k_whole)))
  trivial
abbrev simpleS : Str := Str.ofString "abcdefghijklmnopqrstuvwxyzABCDEFGHIJKLMNOPQRSTUVWXYZ0123456789~!@$%^&*_-+=<>.?/"
abbrev noDigit (x : Str) : Bool := (Builtin.Str.occurrences (Str.ofString "0123456789") x 0 (Str.ofString "0123456789").length 1).isEmpty
abbrev noSimple (x : Str) : Bool := (Builtin.Str.occurrences simpleS x 0 simpleS.length 1).isEmpty
def simV (y : Str) : Bool := !(y == Str.ofString "") && !(resL.any fun x => x == y) && noDigit (PySem.Txt.item y 0) && y.cps.all fun c => !(noSimple ⟨#[c]⟩)
inductive SimJ (y : Str) (t : Tok) (i : Nat) (m : Str → Option Value) : List (Addr × Obj) → Prop
  | intro (m1 : m (Str.ofString "name") = some (.str y t)) (hj : ∀ j c, j < i → y.cps[j]? = some c → noSimple ⟨#[c]⟩ = false) : SimJ y t i m []
section
variable {prog : Program} {w : World} {h₀ : Heap} {p : Program} {loose : List Str} {mean : ExcName → Option Value} {mg mb : Str → Option Value}
theorem simT {y : Str} {A : Around} {s : Shared} {t : Tok} {Q E : Value → Shared → Prop}
   (X : (hd.heap_1 w.params).In h₀) (T : Top p loose mean mg mb h₀) (st : h₀.StaysIn s.heap) (hh : A.handled = none) (hd : A.depth + 20 < recursionLimit) (hu : A.units + 400 < cLine)
   (ha : y.cps.all (· < 128) = true) (_hy : y.cps.size ≤ 20)
   (hret : ∀ h' tk', Own [] s.heap h' → Q (.bool (simV y)) { s with heap := h', toks := tk' }) :
   wpAny (model prog w) A (call (.ref 79) [.str y t]) Q E s := by
  k_extra "my_fill"
  have sure : ∀ {b : Bool} {h' : Heap} {tk' : Nat}, simV y = b → Own [] s.heap h' → Q (.bool b) { s with heap := h', toks := tk' } := fun e o => e ▸ hret _ _ o
  obtain ⟨_, dp, fr, gd, un⟩ := A
  obtain rfl : _ = none := hh
  refine wpAny_call ?_
  refine' code_in (news := []) X T st ?kN ?k6 ?k7 ?k8 ?k9 ?kB ?_ ?c2 ?c3 ?c4 ?c5
  case kN => exact led0
  k_extra "my_in"
  intro g L h₁ hgB F N X' T' lL lN
  k_lt lN
  dsimp only
  try k_fold
  k_steps
  case _ =>
    rename Fr _ _ _ _ => F'
    rename (y == _) = true => e
    exact sure (by rw [simV, e]; simp) (own_of hgB F')
  case _ =>
    rename Fr _ _ _ _ => F'
    rename List.any _ _ = true => e
    exact sure (by rw [simV, e]; simp) (own_of hgB F')
  case _ =>
    rename News _ _ _ _ => N'
    rename Fr _ _ _ _ => F'
    rename (y == _) = false => e1
    rename List.any _ _ = false => e2
    rename List.isEmpty _ = true => e3
    refine' MyIter.str (news := []) rfl rfl rfl F' (fun _ q => nomatch q) ha (SimJ y t) (SimJ.intro ?m1 ?hj) ?step ?hR
    case m1 => with_unfolding_all rfl
    case hj => intro j c hj; omega
    case step =>
      intro i c u m₁ news₁ h₂ tk₂ I oI hc J₁ F₁ N₁ nI lI
      cases J₁ with
      | @intro m1 hj =>
      clear lI nI e3
      rw [pin m1] at F₁
      k_steps
      case _ =>
        rename Fr _ _ _ _ => F'
        rename List.isEmpty _ = true => e4
        refine sure ?_ (own_of hgB F')
        rw [simV, Bool.and_eq_false_iff]
        refine .inr ?_
        rw [Array.all_eq_false]
        have hlt := (Array.getElem?_eq_some_iff.mp hc).1
        refine ⟨i, hlt, ?_⟩
        have hci := (Array.getElem?_eq_some_iff.mp hc).2
        rw [hci, show noSimple ⟨#[c]⟩ = true from e4]; decide
      case _ =>
        rename Fr _ _ _ _ => F'
        rename News _ _ _ _ => N'
        rename List.isEmpty _ = false => e4
        refine' LoopEnd.next [] F' ?N2 (fun _ q => nomatch q) (SimJ.intro ?m12 ?hj2)
        case N2 => exact News.cut N' (by k_extra "my_sub")
        case m12 => with_unfolding_all rfl
        intro j c' hlt hc'
        by_cases q : j = i
        · subst q; rw [hc] at hc'; cases hc'; exact e4
        · exact hj j c' (by omega) hc'
    case hR =>
      intro h₂ tk₂ m₁ news₁ F₁ N₁ J₁
      cases J₁ with
      | @intro m1 hj =>
      rw [pin m1] at F₁
      k_steps
      rename Fr _ _ _ _ => F'
      refine sure ?_ (own_of hgB F')
      rw [simV, e1, e2, show noDigit _ = true from e3, Bool.not_false, Bool.true_and, Bool.true_and, Bool.true_and, Array.all_eq_true]
      intro i hi
      rw [hj i _ hi (by simp [hi])]; decide
  case _ =>
    rename Fr _ _ _ _ => F'
    rename List.isEmpty _ = false => e
    exact sure (by rw [simV, show noDigit _ = false from e]; simp) (own_of hgB F')
theorem sim_K {y : Str} {A : Around} {s : Shared} {g : Heap} {L : Addr} {t : Tok} {m₀ : Str → Option Value} {news : List (Addr × Obj)} {Q E : Value → Shared → Prop}
   (F : Fr g L s.heap m₀) (N : News g L s.heap news) (X : (hd.heap_1 w.params).In g) (T : Top p loose mean mg mb g) (hh : A.handled = none) (hd : A.depth + 20 < recursionLimit) (hu : A.units + 400 < cLine)
   (ha : y.cps.all (· < 128) = true) (hy : y.cps.size ≤ 20) {b : Bool} (e : simV y = b)
   (hret : ∀ h' tk', Fr g L h' m₀ → News g L h' news → Q (.bool b) { s with heap := h', toks := tk' }) :
   wpAny (model prog w) A (call (.ref 79) [.str y t]) Q E s :=
  simT X T F.keep hh hd hu ha hy fun h' tk' ow => let ⟨F', N'⟩ := own0 F N ow; by rw [e]; exact hret h' tk' F' N'
end
theorem sim0V : simV (Str.ofString "") = false := by decide +kernel
theorem sim1V : simV (Str.ofString "k1") = true := by decide +kernel
theorem sim2V : simV (Str.ofString "b c") = false := by decide +kernel
theorem sim3V : simV (Str.ofString "|let|") = false := by decide +kernel
theorem sim4V : simV (Str.ofString "4d") = false := by decide +kernel
theorem sim5V : simV (Str.ofString "k#") = false := by decide +kernel
theorem sim6V : simV (Str.ofString "|!|") = false := by decide +kernel
theorem sim7V : simV (Str.ofString "!k") = true := by decide +kernel
end
section
theorem lines_Sym : True := by
  w_top off
  k_with_none
  (k_with "my_pj" => (with_reducible first | assumption | exact Mine.pj1l (by assumption) | exact Mine.pj1r (by assumption) | exact Mine.pj2l (by assumption) | exact Mine.pj2r (by assumption) | exact Mine.pj3l (by assumption) | exact Mine.pj3r (by assumption) | exact Mine.pj4l (by assumption) | exact Mine.pj4r (by assumption) | exact Mine.pj5l (by assumption) | exact Mine.pj5r (by assumption) | exact Mine.pj6l (by assumption) | exact Mine.pj6r (by assumption) | exact Mine.pj7l (by assumption) | exact Mine.pj7r (by assumption) | exact Mine.pj8l (by assumption) | exact Mine.pj8r (by assumption) | exact Mine.pj9l (by assumption) | exact Mine.pj9r (by assumption) | exact Mine.pj10l (by assumption) | exact Mine.pj10r (by assumption) | exact Mine.pj11l (by assumption) | exact Mine.pj11r (by assumption) | exact Mine.pj12l (by assumption) | exact Mine.pj12r (by assumption) | exact Mine.pj13l (by assumption) | exact Mine.pj13r (by assumption) | exact Mine.pj14l (by assumption) | exact Mine.pj14r (by assumption) | exact Mine.pj15l (by assumption) | exact Mine.pj15r (by assumption) | exact Mine.pj16l (by assumption) | exact Mine.pj16r (by assumption)))
  (k_with "my_ne" => (refine neN ?_; (try dsimp only); first | with_reducible assumption | exact Ne.symm (by with_reducible assumption) | (refine Mine.neOr ?_; simp only [*, true_or, or_true, ne_eq, not_false_eq_true]; done) | (refine Ne.symm (Mine.neOr ?_); simp only [*, true_or, or_true, ne_eq, not_false_eq_true]; done) | omega))
  (k_with "my_room" => first | exact room1 (by with_reducible assumption) rfl rfl | exact room0 (by with_reducible assumption) rfl rfl | ((simp only [Around.deeper, Around.in1, recursionLimit, cLine] at *); omega))
  (k_with "my_fill" => ((have hfill : (fun (_ : OpenLaw) (_ : Params → Frag) => True) PySem.Challenge.rw_rg0207_01 Mine.hd.heap_1 := by k_fill; trivial); clear hfill))
  (k_with "my_in" => ((case k6 => k_is); (case k7 => k_is); (case k8 => first | exact Nat.lt_of_le_of_lt (Nat.le_add_right _ _) (by with_reducible assumption) | (simp only [recursionLimit] at *; omega)); (case k9 => first | exact BindsTo.of_eq rfl | exact binds_K (Frag.In.keeps (by assumption) (by assumption)) rfl (by k_is) rfl rfl rfl); (case c5 => decide); (case kB => exact locs rfl); (case c2 => exact rfl); (case c3 => exact rfl); (case c4 => exact rfl)))
  (k_with "my_sub" => repeat' (first | exact List.forall_mem_nil _ | refine List.forall_mem_cons.mpr ⟨?_, ?_⟩ | k_mem))
  (k_with "exec For Name Call cons nil" => (k_here; k_dflt (refine my_For ?_)))
  (k_with "exec For Name Name cons nil" => (k_here; k_dflt (refine my_For ?_)))
  (k_with "newTuple" => (k_here; k_dflt (refine my_newTuple (by k_asm) (by k_asm) ?_ (by size_fits); k_whole); intro l' h' F' N' l1; (try k_lt l1); (try k_sweep)))
  (k_with "call type:range" => (k_here; (with_reducible rename Fr _ _ _ _ => F'); (with_reducible rename News _ _ _ _ => N'); first | (with_unfolding_all refine range1_rows F' N' ?_; intro h' tk' t' u' v' R' F' N' k'; (try k_sweep)) | (with_unfolding_all refine range2_rows F' N' ?_; intro h' tk' t' u' v' R' F' N' k'; (try k_sweep))))
  (k_with "my_inC" => ((case k6 => k_is); (case k7 => k_is); (case k8 => first | exact Nat.lt_of_le_of_lt (Nat.le_add_right _ _) (by with_reducible assumption) | (simp only [recursionLimit] at *; omega)); (case k9 => exact BindsTo.of_eq rfl); (case kB => exact rfl); (case kD => decide +kernel); (case c2 => exact rfl); (case c3 => exact rfl); (case c4 => exact rfl)))
  (k_with "eval Name" => (k_here; kc_free; k_dflt (refine name_free (by k_asm) (by rfl) (by assumption) (by assumption) ?_ (by rfl) (by rfl); k_whole)))
  (k_with "last call builtin:len" => (k_here; k_dflt (refine call_len_list (by is_list) (by ((try simp only [Array.size_push, List.size_toArray]); omega)) ?_; k_whole); (try simp only [Array.size_push])))
  (k_with "my_ints" => first | assumption | l_ints | l_intsW)
  (k_with "my_fit" => ((try simp only [sizeLine_eq, List.length_append, List.length_cons, List.length_nil, List.length_reverse, List.length_map, List.size_toArray, Array.size_push]); omega))
  (k_with "binaryOp Add ref ref" => (k_here; (with_reducible show wpAny _ _ (binaryOp _ (Value.ref _) (Value.ref _)) _ _ _); k_dflt (refine my_addL (by k_asm) (by k_asm) (by kmk_list) (by kmk_list) (by k_extra "my_ints") (by k_extra "my_ints") ?_ (by k_extra "my_fit"); k_whole); intro D' h' F' N' l1 hI'; (try k_lt l1); (try k_sweep)))
  (k_with "exec While Compare cons nil" => (k_here; k_dflt (refine my_While ?_)))
  (k_with "my_len" => ((try simp only [Around.deeper, Around.in1, recursionLimit, cLine, List.length_append, List.length_take, List.length_drop, List.length_cons, List.length_nil] at *); omega))
  (k_with "compareOp In str ref" => (k_here; (with_reducible show wpAny _ _ (compareOp CmpOp.In (Value.str _ _) (Value.ref _)) _ _ _); k_dflt (refine res_in (by k_asm) (by k_asm) ?_; k_whole)))
  (k_with "call ref" => (k_here; (with_reducible show wpAny _ _ (call (Value.ref 79) _) _ _ _); k_dflt (refine sim_K (by k_asm) (by k_asm) (by k_asm) (by k_asm) (by rfl) (by k_extra "my_room") (by k_extra "my_room") (by assumption) (by assumption) (by exact rfl) ?_; k_whole); intro h' tk' F' N'; (try k_sweep)))
  (k_with "execs cons" => (k_here; (fail_if_success (with_reducible show wpAny _ _ _ _ _ { heap := _, gens := _, drawn := _, toks := tk, os := _ })); refine gentok ?_; intro tk))
  (k_with "execs nil" => (k_here; (fail_if_success (with_reducible show wpAny _ _ _ _ _ { heap := _, gens := _, drawn := _, toks := tk, os := _ })); refine gentok ?_; intro tk))
  trivial
def calledL : List (Str × Str) := [(Str.ofString "", Str.ofString "||"), (Str.ofString "k1", Str.ofString "k1"), (Str.ofString "b c", Str.ofString "|b c|"), (Str.ofString "|let|", Str.ofString "|let|"), (Str.ofString "4d", Str.ofString "|4d|"), (Str.ofString "k#", Str.ofString "|k#|"), (Str.ofString "|!|", Str.ofString "|!|"), (Str.ofString "!k", Str.ofString "!k")]
theorem called_ascii : ∀ q ∈ calledL, q.1.cps.all (· < 128) = true ∧ q.1.cps.size ≤ 20 ∧ q.2.cps.size ≤ 20 := by decide +kernel
abbrev noIn (y z : Str) : Bool := (Builtin.Str.occurrences y z 0 y.length 1).isEmpty
theorem symL1 : ∀ q ∈ calledL, (resL.any fun x => x == q.1) = true → q.1 = q.2 := by decide +kernel
theorem symL2 : ∀ q ∈ calledL, simV q.1 = true → q.1 = q.2 := by decide +kernel
theorem symL3 : ∀ q ∈ calledL, (resL.any fun x => x == PySem.Txt.slice q.1 (some 1) (some (-1))) = true → (PySem.Txt.item q.1 0 == Str.ofString "|") = true → q.1 = q.2 := by decide +kernel
theorem symL4 : ∀ q ∈ calledL, simV q.1 = false → noIn q.1 (Str.ofString "|") = true → Str.ofString "|" ++ q.1 ++ Str.ofString "|" = q.2 := by decide +kernel
theorem symL5 : ∀ q ∈ calledL, noIn q.1 (Str.ofString "\\") = true := by decide +kernel
theorem symL6 : ∀ q ∈ calledL, noIn q.1 (Str.ofString "|") = false → 2 < (q.1.length : Int) ∧ (PySem.Txt.item q.1 0 == Str.ofString "|") = true ∧ (PySem.Txt.item q.1 (-1) == Str.ofString "|") = true ∧ (resL.any fun x => x == PySem.Txt.slice q.1 (some 1) (some (-1))) = true := by decide +kernel
section
variable {prog : Program} {w : World} {h₀ : Heap} {p : Program} {loose : List Str} {mean : ExcName → Option Value} {mg mb : Str → Option Value}
theorem symT {A : Around} {s : Shared} {y tx : Str} {t : Tok} {Q E : Value → Shared → Prop}
   (X : (hd.heap_1 w.params).In h₀) (T : Top p loose mean mg mb h₀) (st : h₀.StaysIn s.heap) (hh : A.handled = none) (hd : A.depth + 30 < recursionLimit) (hu : A.units + 800 < cLine)
   (hy : (y, tx) ∈ calledL) (hret : ∀ h' tk' t', Own [] s.heap h' → Q (.str tx t') { s with heap := h', toks := tk' }) :
   wpAny (model prog w) A (call (.ref 86) [.str y t]) Q E s := by
  k_extra "my_fill"
  have fin : ∀ {z : Str} {h' : Heap} {tk' : Nat} {t' : Tok}, z = tx → Own [] s.heap h' → Q (.str z t') { s with heap := h', toks := tk' } := fun e o => e ▸ hret _ _ _ o
  obtain ⟨_, dp, fr, gd, un⟩ := A
  obtain rfl : _ = none := hh
  have ha := (called_ascii _ hy).1
  have hz := (called_ascii _ hy).2.1
  refine wpAny_call ?_
  refine' code_in (news := []) X T st ?kN ?k6 ?k7 ?k8 ?k9 ?kB ?_ ?c2 ?c3 ?c4 ?c5
  case kN => exact led0
  k_extra "my_in"
  intro g L h₁ hgB F N X' T' lL lN
  k_lt lN
  dsimp only at ha hz
  have hlen : y.length ≤ 20 := hz
  dsimp only
  try k_fold
  k_steps
  all_goals (rename Fr _ _ _ _ => F'; have ow := own_of hgB F'; try dsimp only)
  case _ => exact fin (symL1 _ hy (by assumption)) ow
  case _ => exact fin (symL2 _ hy (by assumption)) ow
  case _ => exact fin (symL3 _ hy (by assumption) (by assumption)) ow
  all_goals first
    | exact fin (symL4 _ hy (by assumption) (by assumption)) ow
    | (have e5 := symL5 _ hy; rename List.isEmpty _ = false => e; rw [show noIn _ _ = false from e] at e5; cases e5)
    | (rename List.isEmpty _ = false => e; obtain ⟨z1, z2, z3, z4⟩ := symL6 _ hy e; clear e; dsimp only at z1 z2 z3 z4; simp_all; done)
    | (rename List.isEmpty _ = false => e; obtain ⟨z1, z2, z3, z4⟩ := symL6 _ hy e; first | omega | (rename _ = false => e'; first | (rw [z2] at e'; cases e') | (rw [z3] at e'; cases e') | (rw [z4] at e'; cases e')))
theorem sym_K {y tx : Str} {A : Around} {s : Shared} {g : Heap} {L : Addr} {t : Tok} {m₀ : Str → Option Value} {news : List (Addr × Obj)} {Q E : Value → Shared → Prop}
   (F : Fr g L s.heap m₀) (N : News g L s.heap news) (X : (hd.heap_1 w.params).In g) (T : Top p loose mean mg mb g) (hh : A.handled = none) (hd : A.depth + 30 < recursionLimit) (hu : A.units + 800 < cLine)
   (hy : (y, tx) ∈ calledL)
   (hret : ∀ h' tk' t', Fr g L h' m₀ → News g L h' news → Q (.str tx t') { s with heap := h', toks := tk' }) :
   wpAny (model prog w) A (call (.ref 86) [.str y t]) Q E s :=
  symT X T F.keep hh hd hu hy fun h' tk' t' ow => let ⟨F', N'⟩ := own0 F N ow; hret h' tk' t' F' N'
end
end
section
theorem lines_Word : True := by
  w_top off
  k_with_none
  (k_with "my_pj" => (with_reducible first | assumption | exact Mine.pj1l (by assumption) | exact Mine.pj1r (by assumption) | exact Mine.pj2l (by assumption) | exact Mine.pj2r (by assumption) | exact Mine.pj3l (by assumption) | exact Mine.pj3r (by assumption) | exact Mine.pj4l (by assumption) | exact Mine.pj4r (by assumption) | exact Mine.pj5l (by assumption) | exact Mine.pj5r (by assumption) | exact Mine.pj6l (by assumption) | exact Mine.pj6r (by assumption) | exact Mine.pj7l (by assumption) | exact Mine.pj7r (by assumption) | exact Mine.pj8l (by assumption) | exact Mine.pj8r (by assumption) | exact Mine.pj9l (by assumption) | exact Mine.pj9r (by assumption) | exact Mine.pj10l (by assumption) | exact Mine.pj10r (by assumption) | exact Mine.pj11l (by assumption) | exact Mine.pj11r (by assumption) | exact Mine.pj12l (by assumption) | exact Mine.pj12r (by assumption) | exact Mine.pj13l (by assumption) | exact Mine.pj13r (by assumption) | exact Mine.pj14l (by assumption) | exact Mine.pj14r (by assumption) | exact Mine.pj15l (by assumption) | exact Mine.pj15r (by assumption) | exact Mine.pj16l (by assumption) | exact Mine.pj16r (by assumption)))
  (k_with "my_ne" => (refine neN ?_; (try dsimp only); first | with_reducible assumption | exact Ne.symm (by with_reducible assumption) | (refine Mine.neOr ?_; simp only [*, true_or, or_true, ne_eq, not_false_eq_true]; done) | (refine Ne.symm (Mine.neOr ?_); simp only [*, true_or, or_true, ne_eq, not_false_eq_true]; done) | omega))
  (k_with "my_room" => first | exact room1 (by with_reducible assumption) rfl rfl | exact room0 (by with_reducible assumption) rfl rfl | ((simp only [Around.deeper, Around.in1, recursionLimit, cLine] at *); omega))
  (k_with "my_fill" => ((have hfill : (fun (_ : OpenLaw) (_ : Params → Frag) => True) PySem.Challenge.rw_rg0207_01 Mine.hd.heap_1 := by k_fill; trivial); clear hfill))
  (k_with "my_in" => ((case k6 => k_is); (case k7 => k_is); (case k8 => first | exact Nat.lt_of_le_of_lt (Nat.le_add_right _ _) (by with_reducible assumption) | (simp only [recursionLimit] at *; omega)); (case k9 => first | exact BindsTo.of_eq rfl | exact binds_K (Frag.In.keeps (by assumption) (by assumption)) rfl (by k_is) rfl rfl rfl); (case c5 => decide); (case kB => exact locs rfl); (case c2 => exact rfl); (case c3 => exact rfl); (case c4 => exact rfl)))
  (k_with "my_sub" => repeat' (first | exact List.forall_mem_nil _ | refine List.forall_mem_cons.mpr ⟨?_, ?_⟩ | k_mem))
  (k_with "exec For Name Call cons nil" => (k_here; k_dflt (refine my_For ?_)))
  (k_with "exec For Name Name cons nil" => (k_here; k_dflt (refine my_For ?_)))
  (k_with "newTuple" => (k_here; k_dflt (refine my_newTuple (by k_asm) (by k_asm) ?_ (by size_fits); k_whole); intro l' h' F' N' l1; (try k_lt l1); (try k_sweep)))
  (k_with "call type:range" => (k_here; (with_reducible rename Fr _ _ _ _ => F'); (with_reducible rename News _ _ _ _ => N'); first | (with_unfolding_all refine range1_rows F' N' ?_; intro h' tk' t' u' v' R' F' N' k'; (try k_sweep)) | (with_unfolding_all refine range2_rows F' N' ?_; intro h' tk' t' u' v' R' F' N' k'; (try k_sweep))))
  (k_with "my_inC" => ((case k6 => k_is); (case k7 => k_is); (case k8 => first | exact Nat.lt_of_le_of_lt (Nat.le_add_right _ _) (by with_reducible assumption) | (simp only [recursionLimit] at *; omega)); (case k9 => exact BindsTo.of_eq rfl); (case kB => exact rfl); (case kD => decide +kernel); (case c2 => exact rfl); (case c3 => exact rfl); (case c4 => exact rfl)))
  (k_with "eval Name" => (k_here; kc_free; k_dflt (refine name_free (by k_asm) (by rfl) (by assumption) (by assumption) ?_ (by rfl) (by rfl); k_whole)))
  (k_with "last call builtin:len" => (k_here; k_dflt (refine call_len_list (by is_list) (by ((try simp only [Array.size_push, List.size_toArray]); omega)) ?_; k_whole); (try simp only [Array.size_push])))
  (k_with "my_ints" => first | assumption | l_ints | l_intsW)
  (k_with "my_fit" => ((try simp only [sizeLine_eq, List.length_append, List.length_cons, List.length_nil, List.length_reverse, List.length_map, List.size_toArray, Array.size_push]); omega))
  (k_with "binaryOp Add ref ref" => (k_here; (with_reducible show wpAny _ _ (binaryOp _ (Value.ref _) (Value.ref _)) _ _ _); k_dflt (refine my_addL (by k_asm) (by k_asm) (by kmk_list) (by kmk_list) (by k_extra "my_ints") (by k_extra "my_ints") ?_ (by k_extra "my_fit"); k_whole); intro D' h' F' N' l1 hI'; (try k_lt l1); (try k_sweep)))
  (k_with "exec While Compare cons nil" => (k_here; k_dflt (refine my_While ?_)))
  (k_with "my_len" => ((try simp only [Around.deeper, Around.in1, recursionLimit, cLine, List.length_append, List.length_take, List.length_drop, List.length_cons, List.length_nil] at *); omega))
  (k_with "call ref" => (k_here; (with_reducible show wpAny _ _ (call (Value.ref 86) _) _ _ _); k_dflt (refine sym_K (by k_asm) (by k_asm) (by k_asm) (by k_asm) (by rfl) (by k_extra "my_room") (by k_extra "my_room") (by assumption) ?_; k_whole); intro h' tk' t' F' N'; (try k_sweep)))
  trivial
section
variable {prog : Program} {w : World} {h₀ : Heap} {p : Program} {loose : List Str} {mean : ExcName → Option Value} {mg mb : Str → Option Value}
theorem wordT {A : Around} {s : Shared} {y tx : Str} {a : Addr} {t1 t2 : Tok} {Q E : Value → Shared → Prop}
   (X : (hd.heap_1 w.params).In h₀) (T : Top p loose mean mg mb h₀) (st : h₀.StaysIn s.heap) (hh : A.handled = none) (hd : A.depth + 40 < recursionLimit) (hu : A.units + 1000 < cLine)
   (ht : IsTup s.heap a #[.str (Str.ofString "sym") t1, .str y t2]) (hy : (y, tx) ∈ calledL)
   (hret : ∀ h' tk' t', Own [] s.heap h' → Q (.str tx t') { s with heap := h', toks := tk' }) :
   wpAny (model prog w) A (call (.ref 128) [.ref a]) Q E s := by
  k_extra "my_fill"
  obtain ⟨_, dp, fr, gd, un⟩ := A
  obtain rfl : _ = none := hh
  refine wpAny_call ?_
  refine' code_in (news := []) X T st ?kN ?k6 ?k7 ?k8 ?k9 ?kB ?_ ?c2 ?c3 ?c4 ?c5
  case kN => exact led0
  k_extra "my_in"
  intro g L h₁ hgB F N X' T' lL lN
  k_lt lN
  have ht' : IsTup g a #[.str (Str.ofString "sym") t1, .str y t2] := by obtain ⟨o, e, r⟩ := ht; exact ⟨o, by rw [hgB]; exact hideAll_get _ e (by simp), r⟩
  dsimp only
  try k_fold
  k_steps
  rename Fr _ _ _ _ => F'
  exact hret _ _ _ (own_of hgB F')
theorem word_K {y tx : Str} {A : Around} {s : Shared} {g : Heap} {L a : Addr} {t1 t2 : Tok} {m₀ : Str → Option Value} {news : List (Addr × Obj)} {Q E : Value → Shared → Prop}
   (F : Fr g L s.heap m₀) (N : News g L s.heap news) (X : (hd.heap_1 w.params).In g) (T : Top p loose mean mg mb g) (hh : A.handled = none) (hd : A.depth + 40 < recursionLimit) (hu : A.units + 1000 < cLine)
   (ht : IsTup g a #[.str (Str.ofString "sym") t1, .str y t2]) (hy : (y, tx) ∈ calledL)
   (hret : ∀ h' tk' t', Fr g L h' m₀ → News g L h' news → Q (.str tx t') { s with heap := h', toks := tk' }) :
   wpAny (model prog w) A (call (.ref 128) [.ref a]) Q E s :=
  wordT X T F.keep hh hd hu (let ⟨o, e, r⟩ := ht; ⟨o, F.keep _ _ e, r⟩) hy fun h' tk' t' ow => let ⟨F', N'⟩ := own0 F N ow; hret h' tk' t' F' N'
end
end
section
theorem lines_Item0 : True := by
  w_top off
  k_with_none
  (k_with "my_pj" => (with_reducible first | assumption | exact Mine.pj1l (by assumption) | exact Mine.pj1r (by assumption) | exact Mine.pj2l (by assumption) | exact Mine.pj2r (by assumption) | exact Mine.pj3l (by assumption) | exact Mine.pj3r (by assumption) | exact Mine.pj4l (by assumption) | exact Mine.pj4r (by assumption) | exact Mine.pj5l (by assumption) | exact Mine.pj5r (by assumption) | exact Mine.pj6l (by assumption) | exact Mine.pj6r (by assumption) | exact Mine.pj7l (by assumption) | exact Mine.pj7r (by assumption) | exact Mine.pj8l (by assumption) | exact Mine.pj8r (by assumption) | exact Mine.pj9l (by assumption) | exact Mine.pj9r (by assumption) | exact Mine.pj10l (by assumption) | exact Mine.pj10r (by assumption) | exact Mine.pj11l (by assumption) | exact Mine.pj11r (by assumption) | exact Mine.pj12l (by assumption) | exact Mine.pj12r (by assumption) | exact Mine.pj13l (by assumption) | exact Mine.pj13r (by assumption) | exact Mine.pj14l (by assumption) | exact Mine.pj14r (by assumption) | exact Mine.pj15l (by assumption) | exact Mine.pj15r (by assumption) | exact Mine.pj16l (by assumption) | exact Mine.pj16r (by assumption)))
  (k_with "my_ne" => (refine neN ?_; (try dsimp only); first | with_reducible assumption | exact Ne.symm (by with_reducible assumption) | (refine Mine.neOr ?_; simp only [*, true_or, or_true, ne_eq, not_false_eq_true]; done) | (refine Ne.symm (Mine.neOr ?_); simp only [*, true_or, or_true, ne_eq, not_false_eq_true]; done) | omega))
  (k_with "my_room" => first | exact room1 (by with_reducible assumption) rfl rfl | exact room0 (by with_reducible assumption) rfl rfl | ((simp only [Around.deeper, Around.in1, recursionLimit, cLine] at *); omega))
  (k_with "my_fill" => ((have hfill : (fun (_ : OpenLaw) (_ : Params → Frag) => True) PySem.Challenge.rw_rg0207_01 Mine.hd.heap_1 := by k_fill; trivial); clear hfill))
  (k_with "my_in" => ((case k6 => k_is); (case k7 => k_is); (case k8 => first | exact Nat.lt_of_le_of_lt (Nat.le_add_right _ _) (by with_reducible assumption) | (simp only [recursionLimit] at *; omega)); (case k9 => first | exact BindsTo.of_eq rfl | exact binds_K (Frag.In.keeps (by assumption) (by assumption)) rfl (by k_is) rfl rfl rfl); (case c5 => decide); (case kB => exact locs rfl); (case c2 => exact rfl); (case c3 => exact rfl); (case c4 => exact rfl)))
  (k_with "my_sub" => repeat' (first | exact List.forall_mem_nil _ | refine List.forall_mem_cons.mpr ⟨?_, ?_⟩ | k_mem))
  (k_with "exec For Name Call cons nil" => (k_here; k_dflt (refine my_For ?_)))
  (k_with "exec For Name Name cons nil" => (k_here; k_dflt (refine my_For ?_)))
  (k_with "newTuple" => (k_here; k_dflt (refine my_newTuple (by k_asm) (by k_asm) ?_ (by size_fits); k_whole); intro l' h' F' N' l1; (try k_lt l1); (try k_sweep)))
  (k_with "call type:range" => (k_here; (with_reducible rename Fr _ _ _ _ => F'); (with_reducible rename News _ _ _ _ => N'); first | (with_unfolding_all refine range1_rows F' N' ?_; intro h' tk' t' u' v' R' F' N' k'; (try k_sweep)) | (with_unfolding_all refine range2_rows F' N' ?_; intro h' tk' t' u' v' R' F' N' k'; (try k_sweep))))
  (k_with "my_inC" => ((case k6 => k_is); (case k7 => k_is); (case k8 => first | exact Nat.lt_of_le_of_lt (Nat.le_add_right _ _) (by with_reducible assumption) | (simp only [recursionLimit] at *; omega)); (case k9 => exact BindsTo.of_eq rfl); (case kB => exact rfl); (case kD => decide +kernel); (case c2 => exact rfl); (case c3 => exact rfl); (case c4 => exact rfl)))
  (k_with "eval Name" => (k_here; kc_free; k_dflt (refine name_free (by k_asm) (by rfl) (by assumption) (by assumption) ?_ (by rfl) (by rfl); k_whole)))
  (k_with "last call builtin:len" => (k_here; k_dflt (refine call_len_list (by is_list) (by ((try simp only [Array.size_push, List.size_toArray]); omega)) ?_; k_whole); (try simp only [Array.size_push])))
  (k_with "my_ints" => first | assumption | l_ints | l_intsW)
  (k_with "my_fit" => ((try simp only [sizeLine_eq, List.length_append, List.length_cons, List.length_nil, List.length_reverse, List.length_map, List.size_toArray, Array.size_push]); omega))
  (k_with "binaryOp Add ref ref" => (k_here; (with_reducible show wpAny _ _ (binaryOp _ (Value.ref _) (Value.ref _)) _ _ _); k_dflt (refine my_addL (by k_asm) (by k_asm) (by kmk_list) (by kmk_list) (by k_extra "my_ints") (by k_extra "my_ints") ?_ (by k_extra "my_fit"); k_whole); intro D' h' F' N' l1 hI'; (try k_lt l1); (try k_sweep)))
  (k_with "exec While Compare cons nil" => (k_here; k_dflt (refine my_While ?_)))
  (k_with "my_len" => ((try simp only [Around.deeper, Around.in1, recursionLimit, cLine, List.length_append, List.length_take, List.length_drop, List.length_cons, List.length_nil] at *); omega))
  trivial
section
variable {prog : Program} {w : World} {A : Around} {E : Value → Shared → Prop} {s : Shared} {h₀ : Heap} {env : Env} {L D : Addr} {m : Str → Option Value} {news : List (Addr × Obj)} {gg : Obj → List (Addr × Obj)} {n : Nat}
theorem MyIter.down {x : Str} {px : Pos} {body : List Stmt} {Q : Flow → Shared → Prop} {r : Addr} {a b : Int} {t u v : Tok} {n : Nat} {m : Str → Option Value} {news : List (Addr × Obj)}
    (hh : A.handled = none) (hx : env.kindOf x = some .local) (hp : (env.scope.kind == .class || (env.scope.kind == .module && env.locals != env.globals)) = false)
    (F : Fr h₀ env.locals s.heap m) (N : News h₀ env.locals s.heap news) (hr : IsRange s.heap r a b (-1) t u v) (hsm : Builtin.Range.small a b (-1) = true) (hn : Builtin.Range.rangeSize a b (-1) = ((n : Nat) : Int))
    (J : Nat → (Str → Option Value) → List (Addr × Obj) → Prop) (h0 : J 0 m news)
    (step : ∀ i t m₁ news₁ h₁ tk₁ I oI, i < n → J i m₁ news₁ → Fr h₀ env.locals h₁ (fun y => if y = x then some (.int (a + (i : Int) * (-1)) t) else m₁ y) → News h₀ env.locals h₁ ((I, oI) :: news₁) → (∀ p ∈ news₁, p.1 ≠ I) → (∀ p ∈ news, p.1 < I) →
      wpAny (model prog w) A (execs body env) (LoopEnd h₀ env.locals I oI (J (i + 1)) { s with heap := h₁, toks := tk₁ } Q) (fun _ _ => False) { s with heap := h₁, toks := tk₁ })
    (hR : ∀ h' tk m' news', Fr h₀ env.locals h' m' → News h₀ env.locals h' news' → J n m' news' → Q .next { s with heap := h', toks := tk }) :
    MyIter prog w A env x px body Q (.ref r) s := by
  refine wpAny_pyIter_range hr hsm ?_
  have up : ∀ z o, s.heap.get? z = some o → (s.heap.push { cls := .type "range_iterator", data := .fields #[rawInt a, rawInt (Builtin.Range.rangeSize a b (-1)), rawInt (-1)] }).get? z = some o := fun z o e => Heap.get?_push_of_some _ e
  refine my_loop (Walks.range hh s.heap.objs.size a (-1) n) hx hp (fun q => ?_) (next_is_new F) ?_ (F.keeps up) (N.grown up) (fun p hp => Nat.ne_of_lt (Heap.lt_size (N p hp).1)) J h0 (fun b hb n => absurd (List.mem_singleton.mp hb) n) (fun i h st => ⟨_, st⟩)
    (fun i v m₁ news₁ h₁ tk₁ oI hi hP hJ F₁ N₁ n₁ => ?_) hR fun _ _ q => q
  · exact Nat.ne_of_lt F.ns.lt (List.mem_singleton.mp q)
  · show IsRangeIter _ _ _ _ _
    rw [hn]; simpa using Heap.get?_push_size _ rfl
  · obtain ⟨t, rfl⟩ := hP
    exact step i t m₁ news₁ h₁ tk₁ _ oI hi hJ F₁ N₁ n₁ fun p hp => Heap.lt_size (N p hp).1
def WhStep (h₀ : Heap) (L : Addr) (s : Shared) (J : Nat → (Str → Option Value) → List (Addr × Obj) → Prop) (n : Nat) (Q : Flow → Shared → Prop) (f : Flow) (s₃ : Shared) : Prop :=
  match f with
  | .next | .cont => ∃ h' tk m₂ news₂ n', s₃ = { s with heap := h', toks := tk } ∧ Fr h₀ L h' m₂ ∧ News h₀ L h' news₂ ∧ n' < n ∧ J n' m₂ news₂
  | .brk => Q .next s₃
  | .ret v => Q (.ret v) s₃
theorem MyWhile.inv2 {L : Addr} {test : Expr} {body : List Stmt} {pos : Pos} {Q : Flow → Shared → Prop} {m : Str → Option Value} {news : List (Addr × Obj)} (J : Nat → (Str → Option Value) → List (Addr × Obj) → Prop) {n₀ : Nat}
    (F : Fr h₀ L s.heap m) (N : News h₀ L s.heap news) (hJ : J n₀ m news)
    (turn : ∀ n m₁ news₁ h₁ tk₁, Fr h₀ L h₁ m₁ → News h₀ L h₁ news₁ → J n m₁ news₁ →
      wpAny (model prog w) A (isTrue test env (eval test env)) (fun b s₂ =>
        if b = true then wpAny (model prog w) A (execs body env) (WhStep h₀ L s J n Q) (fun _ _ => False) s₂ else Q .next s₂) (fun _ _ => False) { s with heap := h₁, toks := tk₁ }) :
    MyWhile prog w A env test body pos Q s := by
  refine wpAny_While (codeAny_whileLoop (fun n s' => ∃ h₁ tk₁ m₁ news₁, s' = { s with heap := h₁, toks := tk₁ } ∧ Fr h₀ L h₁ m₁ ∧ News h₀ L h₁ news₁ ∧ J n m₁ news₁) ?_ n₀ ⟨s.heap, s.toks, m, news, rfl, F, N, hJ⟩)
  rintro n s' ⟨h₁, tk₁, m₁, news₁, rfl, F₁, N₁, J₁⟩
  refine wpAny_mono (turn n m₁ news₁ h₁ tk₁ F₁ N₁ J₁) (fun b s₂ h₂ => ?_) fun _ _ e => e.elim
  cases b with
  | false =>
    simp only [Bool.false_eq_true, if_false] at h₂ ⊢
    exact wpAny_execs_nil h₂
  | true =>
    simp only [if_true] at h₂ ⊢
    refine wpAny_mono h₂ (fun f s₃ h₃ => ?_) fun _ _ e => e.elim
    cases f with
    | next => obtain ⟨h', tk, m₂, news₂, n', rfl, F₂, N₂, hn, J₂⟩ := h₃; exact ⟨n', hn, h', tk, m₂, news₂, rfl, F₂, N₂, J₂⟩
    | cont => obtain ⟨h', tk, m₂, news₂, n', rfl, F₂, N₂, hn, J₂⟩ := h₃; exact ⟨n', hn, h', tk, m₂, news₂, rfl, F₂, N₂, J₂⟩
    | brk => exact h₃
    | ret v => exact h₃
theorem WhStep.cont {h' : Heap} {L : Addr} {J : Nat → (Str → Option Value) → List (Addr × Obj) → Prop} {Q : Flow → Shared → Prop} {n n' tk : Nat} {m₂ : Str → Option Value} {news₂ : List (Addr × Obj)}
    (F : Fr h₀ L h' m₂) (N : News h₀ L h' news₂) (hn : n' < n) (hJ : J n' m₂ news₂) : WhStep h₀ L s J n Q .cont { s with heap := h', toks := tk } := ⟨h', tk, m₂, news₂, n', rfl, F, N, hn, hJ⟩
theorem WhStep.next {h' : Heap} {L : Addr} {J : Nat → (Str → Option Value) → List (Addr × Obj) → Prop} {Q : Flow → Shared → Prop} {n n' tk : Nat} {m₂ : Str → Option Value} {news₂ : List (Addr × Obj)}
    (F : Fr h₀ L h' m₂) (N : News h₀ L h' news₂) (hn : n' < n) (hJ : J n' m₂ news₂) : WhStep h₀ L s J n Q .next { s with heap := h', toks := tk } := ⟨h', tk, m₂, news₂, n', rfl, F, N, hn, hJ⟩
theorem istup_fr {a : Addr} {its : Array Value} (F : Fr h₀ L s.heap m) (h : IsTup h₀ a its) : IsTup s.heap a its := let ⟨o, e, r⟩ := h; ⟨o, F.keep _ _ e, r⟩
theorem my_popLast {p : List Value} {y : Value} {Q : Value → Shared → Prop} (F : Fr h₀ L s.heap m) (N : News h₀ L s.heap news) (U : UpdF D (W.listOf (p ++ [y]).toArray n) news gg) (hz : (p ++ [y]).length ≤ 1000)
    (h : ∀ h', Fr h₀ L h' m → News h₀ L h' (gg (W.listOf p.toArray (n + 1))) → Q y { s with heap := h' }) : wpAny (model prog w) A (call (.builtin "list.pop") [.ref D]) Q E s := by
  obtain ⟨pre, post, rfl, hg, a, b⟩ := U.split
  have z := N (D, W.listOf (p ++ [y]).toArray n) (List.mem_append.mpr (.inr (.head _)))
  have hz' : (p ++ [y]).toArray.size ≤ sizeLine := by rw [List.size_toArray, sizeLine_eq]; omega
  have hk : (p ++ [y]).toArray.size - 1 = p.length := by rw [List.size_toArray, List.length_append]; rfl
  have hy : (p ++ [y]).toArray[(p ++ [y]).toArray.size - 1]? = some y := by rw [hk]; simp
  refine call_meets PySem.F.slot_list_pop ⟨_, z.1, rfl⟩ PySem.F.entry_list_pop (PySem.F.args_list_pop_1 _) (PySem.MeetsSeq.list_pop_last D _ n y hy hz') ⟨z.1, h _ (F.change (Heap.SameBut.update ..) z.2.1 z.2.2) ?_⟩
  rw [hg]
  refine kl_turn _ N a b ?_ ?_
  · rw [hk]
    unfold Array.eraseIdxIfInBounds
    rw [dif_pos (by simp)]
    apply Array.toList_inj.mp
    rw [Array.toList_eraseIdx]
    show (p ++ [y]).eraseIdx p.length = p
    rw [List.eraseIdx_append_of_length_le (Nat.le_refl _)]
    simp
  · rw [List.size_toArray, List.size_toArray, List.length_append]; simp
end
end
section
local macro_rules | `(tactic| k_all) => `(tactic| assumption)
local macro_rules | `(tactic| k_all) => `(tactic| exact List.forall_mem_nil _)
local macro_rules | `(tactic| k_all) => `(tactic| (refine' List.forall_mem_cons.mpr ⟨?a, ?b⟩; (case a => k_ne); (case b => k_all)))
theorem lines_Item : True := by
  w_top off
  k_with_none
  (k_with "my_pj" => (with_reducible first | assumption | exact Mine.pj1l (by assumption) | exact Mine.pj1r (by assumption) | exact Mine.pj2l (by assumption) | exact Mine.pj2r (by assumption) | exact Mine.pj3l (by assumption) | exact Mine.pj3r (by assumption) | exact Mine.pj4l (by assumption) | exact Mine.pj4r (by assumption) | exact Mine.pj5l (by assumption) | exact Mine.pj5r (by assumption) | exact Mine.pj6l (by assumption) | exact Mine.pj6r (by assumption) | exact Mine.pj7l (by assumption) | exact Mine.pj7r (by assumption) | exact Mine.pj8l (by assumption) | exact Mine.pj8r (by assumption) | exact Mine.pj9l (by assumption) | exact Mine.pj9r (by assumption) | exact Mine.pj10l (by assumption) | exact Mine.pj10r (by assumption) | exact Mine.pj11l (by assumption) | exact Mine.pj11r (by assumption) | exact Mine.pj12l (by assumption) | exact Mine.pj12r (by assumption) | exact Mine.pj13l (by assumption) | exact Mine.pj13r (by assumption) | exact Mine.pj14l (by assumption) | exact Mine.pj14r (by assumption) | exact Mine.pj15l (by assumption) | exact Mine.pj15r (by assumption) | exact Mine.pj16l (by assumption) | exact Mine.pj16r (by assumption)))
  (k_with "my_ne" => (refine neN ?_; (try dsimp only); first | with_reducible assumption | exact Ne.symm (by with_reducible assumption) | (refine Mine.neOr ?_; simp only [*, true_or, or_true, ne_eq, not_false_eq_true]; done) | (refine Ne.symm (Mine.neOr ?_); simp only [*, true_or, or_true, ne_eq, not_false_eq_true]; done) | omega))
  (k_with "my_room" => first | exact room1 (by with_reducible assumption) rfl rfl | exact room0 (by with_reducible assumption) rfl rfl | ((simp only [Around.deeper, Around.in1, recursionLimit, cLine] at *); omega))
  (k_with "my_fill" => ((have hfill : (fun (_ : OpenLaw) (_ : Params → Frag) => True) PySem.Challenge.rw_rg0207_01 Mine.hd.heap_1 := by k_fill; trivial); clear hfill))
  (k_with "my_in" => ((case k6 => k_is); (case k7 => k_is); (case k8 => first | exact Nat.lt_of_le_of_lt (Nat.le_add_right _ _) (by with_reducible assumption) | (simp only [recursionLimit] at *; omega)); (case k9 => first | exact BindsTo.of_eq rfl | exact binds_K (Frag.In.keeps (by assumption) (by assumption)) rfl (by k_is) rfl rfl rfl); (case c5 => decide); (case kB => exact locs rfl); (case c2 => exact rfl); (case c3 => exact rfl); (case c4 => exact rfl)))
  (k_with "my_sub" => repeat' (first | exact List.forall_mem_nil _ | refine List.forall_mem_cons.mpr ⟨?_, ?_⟩ | k_mem))
  (k_with "exec For Name Call cons nil" => (k_here; k_dflt (refine my_For ?_)))
  (k_with "exec For Name Name cons nil" => (k_here; k_dflt (refine my_For ?_)))
  (k_with "newTuple" => (k_here; k_dflt (refine my_newTuple (by k_asm) (by k_asm) ?_ (by size_fits); k_whole); intro l' h' F' N' l1; (try k_lt l1); (try k_sweep)))
  (k_with "call type:range" => (k_here; (with_reducible rename Fr _ _ _ _ => F'); (with_reducible rename News _ _ _ _ => N'); first | (with_unfolding_all refine range1_rows F' N' ?_; intro h' tk' t' u' v' R' F' N' k'; (try k_sweep)) | (with_unfolding_all refine range2_rows F' N' ?_; intro h' tk' t' u' v' R' F' N' k'; (try k_sweep))))
  (k_with "my_inC" => ((case k6 => k_is); (case k7 => k_is); (case k8 => first | exact Nat.lt_of_le_of_lt (Nat.le_add_right _ _) (by with_reducible assumption) | (simp only [recursionLimit] at *; omega)); (case k9 => exact BindsTo.of_eq rfl); (case kB => exact rfl); (case kD => decide +kernel); (case c2 => exact rfl); (case c3 => exact rfl); (case c4 => exact rfl)))
  (k_with "eval Name" => (k_here; kc_free; k_dflt (refine name_free (by k_asm) (by rfl) (by assumption) (by assumption) ?_ (by rfl) (by rfl); k_whole)))
  (k_with "last call builtin:len" => (k_here; k_dflt (refine call_len_list (by is_list) (by ((try simp only [Array.size_push, List.size_toArray]); omega)) ?_; k_whole); (try simp only [Array.size_push])))
  (k_with "my_ints" => first | assumption | l_ints | l_intsW)
  (k_with "my_fit" => ((try simp only [sizeLine_eq, List.length_append, List.length_cons, List.length_nil, List.length_reverse, List.length_map, List.size_toArray, Array.size_push]); omega))
  (k_with "binaryOp Add ref ref" => (k_here; (with_reducible show wpAny _ _ (binaryOp _ (Value.ref _) (Value.ref _)) _ _ _); k_dflt (refine my_addL (by k_asm) (by k_asm) (by kmk_list) (by kmk_list) (by k_extra "my_ints") (by k_extra "my_ints") ?_ (by k_extra "my_fit"); k_whole); intro D' h' F' N' l1 hI'; (try k_lt l1); (try k_sweep)))
  (k_with "exec While Compare cons nil" => (k_here; k_dflt (refine my_While ?_)))
  (k_with "my_len" => ((try simp only [Around.deeper, Around.in1, recursionLimit, cLine, List.length_append, List.length_take, List.length_drop, List.length_cons, List.length_nil] at *); omega))
  (k_with "call ref" => (k_here; (with_reducible show wpAny _ _ (call (Value.ref 128) _) _ _ _); k_dflt (refine word_K (by k_asm) (by k_asm) (by k_asm) (by k_asm) (by rfl) (by k_extra "my_room") (by k_extra "my_room") (by assumption) (by assumption) ?_; k_whole); intro h' tk' t' F' N'; (try k_sweep)))
  (k_with "call builtin:list.pop" => (k_here; (try dsimp only); (with_reducible show wpAny _ _ (call (Value.builtin _) [Value.ref _]) _ _ _); k_dflt (refine my_popLast (by k_asm) (by k_asm) (by k_updF) (by k_extra "my_fit") ?_; k_whole); intro h' F' N'; (try dsimp only at N'); (try k_sweep)))
  (k_with "call type:range" => (k_here; (with_reducible rename Fr _ _ _ _ => F'); (with_reducible rename News _ _ _ _ => N'); (with_unfolding_all refine range3_rows F' N' (by decide) ?_ ?_); rotate_left; (exact Or.inl (PyProof.noPylong_small (by omega))); intro h' tk' t' u' v' R' F' N' k'; (try k_sweep)))
  (k_with "call builtin:str.join" => (k_here; k_dflt (refine join_listW (by is_list) (by assumption) (by decide) (by assumption) ?_); intro t' k'; (try k_sweep)))
  (k_with "call builtin:len" => (k_here; (with_reducible show wpAny _ _ (call (Value.builtin "len") [Value.ref _]) _ _ _); k_dflt (refine kun_lenT (by exact istup_fr (by k_asm) (by assumption)) (by exact rfl) (by (simp only [List.size_toArray, List.length_map]; omega)) ?_; k_whole)))
  trivial
inductive ItemsAt (h : Heap) : List Addr → List Str → Prop
  | nil : ItemsAt h [] []
  | cons {a : Addr} {as : List Addr} {y tx : Str} {txs : List Str} {t1 t2 : Tok} : IsTup h a #[.str (Str.ofString "sym") t1, .str y t2] → (y, tx) ∈ calledL → ItemsAt h as txs → ItemsAt h (a :: as) (tx :: txs)
theorem ItemsAt.at {h : Heap} {as : List Addr} {txs : List Str} (x : ItemsAt h as txs) : ∀ (i : Nat) (a : Addr), as[i]? = some a → ∃ y tx t1 t2, txs[i]? = some tx ∧ IsTup h a #[.str (Str.ofString "sym") t1, .str y t2] ∧ (y, tx) ∈ calledL := by
  induction x with
  | nil => intro i a e; simp at e
  | cons ht hy _ ih =>
    intro i a e
    cases i with
    | zero => simp at e; subst e; exact ⟨_, _, _, _, rfl, ht, hy⟩
    | succ i => simpa using ih i a (by simpa using e)
theorem ItemsAt.length {h : Heap} {as : List Addr} {txs : List Str} (x : ItemsAt h as txs) : as.length = txs.length := by induction x with | nil => rfl | cons _ _ _ ih => simp [ih]
theorem ItemsAt.keep {h h' : Heap} (k : ∀ b o, h.get? b = some o → h'.get? b = some o) {as : List Addr} {txs : List Str} (x : ItemsAt h as txs) : ItemsAt h' as txs := by
  induction x with
  | nil => exact .nil
  | cons ht hy _ ih => exact .cons (let ⟨o, e, r⟩ := ht; ⟨o, k _ _ e, r⟩) hy ih
def sepW : Bool → List Str → List Str
  | _, [] => []
  | b, x :: r => (if b then [Str.ofString " "] else []) ++ x :: sepW true r
theorem sepW_snoc (x : Str) : ∀ (l : List Str) (b : Bool), sepW b (l ++ [x]) = sepW b l ++ (if b || !l.isEmpty then [Str.ofString " "] else []) ++ [x]
  | [], b => by cases b <;> simp [sepW]
  | y :: l, b => by simp [sepW, sepW_snoc x l true]
/-- the stack for the items from k on, and its tuples -/
inductive Stk (as : List Addr) (wt pc : Addr) : List Value → List (Addr × Obj) → Nat → Prop
  | bot {t : Addr} (n1 : @Ne Nat t wt) (n2 : @Ne Nat t pc) : Stk as wt pc [.ref t] [(t, tupOf #[.none, .bool false] 0)] as.length
  | push {ws : List Value} {tl : List (Addr × Obj)} {k : Nat} {t a : Addr} (n1 : @Ne Nat t wt) (n2 : @Ne Nat t pc) (ha : as[k]? = some a) (r : Stk as wt pc ws tl (k + 1)) : Stk as wt pc (ws ++ [.ref t]) ((t, tupOf #[.ref a, .bool (decide ((k : Int) > 0))] 0) :: tl) k
theorem Stk.off {as : List Addr} {wt pc : Addr} {ws : List Value} {tl : List (Addr × Obj)} {k : Nat} (x : Stk as wt pc ws tl k) : (∀ p ∈ tl, p.1 ≠ wt) ∧ (∀ p ∈ tl, p.1 ≠ pc) ∧ k ≤ as.length ∧ ws.length = as.length - k + 1 := by
  induction x with
  | bot n1 n2 => exact ⟨fun p hp => by rw [List.mem_singleton.mp hp]; exact n1, fun p hp => by rw [List.mem_singleton.mp hp]; exact n2, Nat.le_refl _, by simp⟩
  | push n1 n2 ha r ih =>
    obtain ⟨i1, i2, i3, i4⟩ := ih
    refine ⟨fun p hp => ?_, fun p hp => ?_, by omega, by rw [List.length_append, i4]; simp; omega⟩
    · rcases List.mem_cons.mp hp with rfl | hp
      · exact n1
      · exact i1 p hp
    · rcases List.mem_cons.mp hp with rfl | hp
      · exact n2
      · exact i2 p hp
inductive WrJ (w : World) (as : List Addr) (txs : List Str) (it wt pc : Addr) : Nat → (Str → Option Value) → List (Addr × Obj) → Prop
  | start {m : Str → Option Value} {c d : Nat} {t : Addr} (m1 : m (Str.ofString "waiting") = some (.ref wt)) (m2 : m (Str.ofString "pieces") = some (.ref pc)) (n1 : @Ne Nat t wt) (n2 : @Ne Nat t pc) :
      WrJ w as txs it wt pc (as.length + 2) m [(wt, W.listOf #[.ref t] c), (pc, W.listOf #[] d), (t, tupOf #[.ref it, .bool false] 0)]
  | mid {m : Str → Option Value} {c d k : Nat} {ws ps : List Value} {tl : List (Addr × Obj)} (m1 : m (Str.ofString "waiting") = some (.ref wt)) (m2 : m (Str.ofString "pieces") = some (.ref pc)) (hs : Stk as wt pc ws tl k) (hp : StrsAre ps (Str.ofString "(" :: sepW false (txs.take k))) :
      WrJ w as txs it wt pc (as.length - k + 1) m ((wt, W.listOf ws.toArray c) :: (pc, W.listOf ps.toArray d) :: tl)
  | fin {m : Str → Option Value} {c d : Nat} {ps : List Value} (m1 : m (Str.ofString "waiting") = some (.ref wt)) (m2 : m (Str.ofString "pieces") = some (.ref pc)) (hp : StrsAre ps (Str.ofString "(" :: sepW false txs ++ [Str.ofString ")"])) :
      WrJ w as txs it wt pc 0 m [(wt, W.listOf #[] c), (pc, W.listOf ps.toArray d)]
/-- the for loop inside -/
inductive PuJ (w : World) (as : List Addr) (it wt pc : Addr) (i : Nat) (m : Str → Option Value) : List (Addr × Obj) → Prop
  | intro {c d : Nat} {ws : List Value} {tl : List (Addr × Obj)} {t0 : Tok} (m1 : m (Str.ofString "waiting") = some (.ref wt)) (m2 : m (Str.ofString "pieces") = some (.ref pc)) (m3 : m (Str.ofString "thing") = some (.ref it)) (hs : Stk as wt pc ws tl (as.length - i)) :
      PuJ w as it wt pc i m ((wt, W.listOf ws.toArray c) :: (pc, W.listOf #[.str (Str.ofString "(") t0] d) :: tl)
theorem strsLen {vs : List Value} {ys : List Str} (h : StrsAre vs ys) : vs.length = ys.length := by induction h with | nil => rfl | cons _ _ _ ih => simp [ih]
theorem strsSnoc {vs : List Value} {ys : List Str} (h : StrsAre vs ys) (y : Str) (t : Tok) : StrsAre (vs ++ [.str y t]) (ys ++ [y]) := by induction h with | nil => exact .cons _ _ .nil | cons _ _ _ ih => exact .cons _ _ ih
theorem sepW_len : ∀ (l : List Str) (b : Bool), (sepW b l).length ≤ 2 * l.length
  | [], _ => by simp [sepW]
  | x :: r, b => by have := sepW_len r true; cases b <;> simp [sepW] <;> omega
theorem sepW_sum {k : Nat} : ∀ (l : List Str) (b : Bool), (∀ x ∈ l, x.length ≤ k) → ((sepW b l).map (·.length)).sum ≤ (k + 1) * l.length
  | [], _, _ => by simp [sepW]
  | x :: r, b, h => by
    have i := sepW_sum r true fun y hy => h y (.tail _ hy)
    have hx := h x (.head _)
    have e : (Str.ofString " ").length = 1 := by decide
    have e2 : (k + 1) * (r.length + 1) = (k + 1) * r.length + (k + 1) := by rw [Nat.mul_add, Nat.mul_one]
    cases b <;> simp [sepW, e] <;> rw [e2] <;> omega
theorem ItemsAt.len20 {h : Heap} {as : List Addr} {txs : List Str} (x : ItemsAt h as txs) : ∀ t ∈ txs, t.length ≤ 20 := by
  induction x with
  | nil => intro t ht; cases ht
  | cons _ hy _ ih =>
    intro t ht
    rcases List.mem_cons.mp ht with rfl | ht
    · exact (called_ascii _ hy).2.2
    · exact ih t ht
theorem subTail {a b : List (Addr × Obj)} (x : Addr × Obj) (h : ∀ p ∈ a, p ∈ b) : ∀ p ∈ a, p ∈ x :: b := fun p hp => .tail _ (h p hp)
section
variable {prog : Program} {w : World} {h₀ : Heap} {p : Program} {loose : List Str} {mean : ExcName → Option Value} {mg mb : Str → Option Value}
theorem writeT {A : Around} {s : Shared} {it tup : Addr} {as : List Addr} {txs : List Str} {t1 : Tok} {Q E : Value → Shared → Prop}
   (X : (hd.heap_1 w.params).In h₀) (T : Top p loose mean mg mb h₀) (st : h₀.StaysIn s.heap) (hh : A.handled = none) (hd : A.depth + 60 < recursionLimit) (hu : A.units + 1500 < cLine)
   (h1 : IsTup s.heap it #[.str (Str.ofString "list") t1, .ref tup]) (h2 : IsTup s.heap tup (as.map Value.ref).toArray) (hI : ItemsAt s.heap as txs) (hlen : as.length ≤ 20)
   (hret : ∀ h' tk' t', Own [] s.heap h' → Q (.str (PySem.Txt.join (Str.ofString "") (Str.ofString "(" :: sepW false txs ++ [Str.ofString ")"])) t') { s with heap := h', toks := tk' }) :
   wpAny (model prog w) A (call (.ref 135) [.ref it]) Q E s := by
  k_extra "my_fill"
  obtain ⟨_, dp, fr, gd, un⟩ := A
  obtain rfl : _ = none := hh
  refine wpAny_call ?_
  refine' code_in (news := []) X T st ?kN ?k6 ?k7 ?k8 ?k9 ?kB ?_ ?c2 ?c3 ?c4 ?c5
  case kN => exact led0
  k_extra "my_in"
  intro g L h₁ hgB F N X' T' lL lN
  k_lt lN
  have kg : ∀ b o, s.heap.get? b = some o → g.get? b = some o := fun b o e => by rw [hgB]; exact hideAll_get _ e (by simp)
  have h1' : IsTup g it #[.str (Str.ofString "list") t1, .ref tup] := let ⟨o, e, r⟩ := h1; ⟨o, kg _ _ e, r⟩
  have h2' : IsTup g tup (as.map Value.ref).toArray := let ⟨o, e, r⟩ := h2; ⟨o, kg _ _ e, r⟩
  have hI' := hI.keep kg
  dsimp only
  try k_fold
  k_steps
  rename News _ _ _ _ => N'
  rename Fr _ _ _ _ => F'
  refine' MyWhile.inv2 (WrJ w as txs it _ _) F' (News.cut N' ?sub) (WrJ.start (c := 0) (d := 0) ?m1 ?m2 ?n1 ?n2) ?turn
  case sub => k_extra "my_sub"
  case m1 => with_unfolding_all rfl
  case m2 => with_unfolding_all rfl
  case n1 => omega
  case n2 => omega
  case turn =>
    clear F' N'
    intro mz m₁ news₁ h₂ tk₂ F₁ N₁ J₁
    cases J₁ with
    | @start _ c d t m1 m2 n1 n2 =>
      rw [pin m1, pin m2] at F₁
      k_steps
      rename News _ _ _ _ => N'
      rename Fr _ _ _ _ => F'
      rename IsRange _ _ _ _ _ _ _ _ => R'
      refine' MyIter.down (news := ?news) (n := as.length) rfl rfl rfl F' ?N R' ?rs ?rz (PuJ w as it _ _) (PuJ.intro (ws := [.ref ?tn]) (tl := [(?tn, tupOf #[.none, .bool false] 0)]) ?p1 ?p2 ?p3 ?ps) ?step ?hR
      case p1 => with_unfolding_all rfl
      case p2 => with_unfolding_all rfl
      case p3 => with_unfolding_all rfl
      case N => exact News.cut N' (by k_extra "my_sub")
      case rs => simp only [List.size_toArray, List.length_map]; exact small_down (by omega) (by omega) (by decide) (by decide)
      case rz => rw [rangeSize_downNat]; simp only [List.size_toArray, List.length_map]; omega
      case ps => exact Stk.bot (by omega) (by omega)
      case step =>
        clear R' F' N'
        intro i t m₁ news₁ h₂ tk₂ I oI hlt J₁ F₁ N₁ nI lI
        cases J₁ with
        | @intro c d ws tl t0 m1 m2 m3 hs =>
        obtain ⟨q1, q2, q3, q4⟩ := hs.off
        have hwl : ws.length ≤ 100 := by omega
        have hwl' : ws.toArray.size ≤ 100 := by rw [List.size_toArray]; omega
        rw [pin m1, pin m2, pin m3] at F₁
        k_lt lI
        k_steps
        obtain ⟨a, ha⟩ : ∃ a, as[as.length - (i + 1)]? = some a := ⟨as[as.length - (i + 1)]'(by omega), List.getElem?_eq_getElem _⟩
        refine' item_tupleT (j := as.length - (i + 1)) (x := .ref a) (l := as.map Value.ref) (istup_fr F₁ h2') ?lo ?hi ?hj ?hx ?_
        case lo => simp only [List.size_toArray, List.length_map]; omega
        case hi => simp only [List.size_toArray, List.length_map]; omega
        case hj =>
          simp only [List.size_toArray, List.length_map]
          have e : ((as.length : Int) - 1 + (i : Int) * -1) = ((as.length - (i + 1) : Nat) : Int) := by omega
          rw [e]
          exact seqIndex_of (by omega) (by simp; omega)
        case hx => rw [List.getElem?_map, ha]; rfl
        k_steps
        rename Fr _ _ _ _ => F'
        rename News _ _ _ _ => N'
        have eb : decide (((as.map Value.ref).toArray.size : Int) - 1 + (i : Int) * -1 > 0) = decide (((as.length - (i + 1) : Nat) : Int) > 0) := by
          rw [List.size_toArray, List.length_map]; exact decide_eq_decide.mpr ⟨fun h => by omega, fun h => by omega⟩
        rw [eb] at N'
        rw [show as.length - i = as.length - (i + 1) + 1 from by omega] at hs
        simp only [List.push_toArray] at N'
        refine' LoopEnd.next (news₂ := ?n2) F' ?N2 ?off (PuJ.intro ?y1 ?y2 ?y3 (Stk.push ?n3 ?n4 ha hs))
        case y1 => with_unfolding_all rfl
        case y2 => with_unfolding_all rfl
        case y3 => with_unfolding_all rfl
        case N2 => exact News.cut N' (List.forall_mem_cons.mpr ⟨by k_mem, List.forall_mem_cons.mpr ⟨by k_mem, List.forall_mem_cons.mpr ⟨by k_mem, List.forall_mem_cons.mpr ⟨by k_mem, subTail _ (subTail _ (subTail _ (subTail _ fun p hp => hp)))⟩⟩⟩⟩)
        case n3 => omega
        case n4 => omega
        case off => exact List.forall_mem_cons.mpr ⟨by k_ne, List.forall_mem_cons.mpr ⟨by k_ne, List.forall_mem_cons.mpr ⟨by k_ne, fun p hp => nI p (.tail _ (.tail _ hp))⟩⟩⟩
      case hR =>
        clear R' F' N'
        intro h₂ tk₂ m₁ news₁ F₁ N₁ J₁
        cases J₁ with
        | @intro c d ws tl t0 m1 m2 m3 hs =>
        rw [pin m1, pin m2, pin m3] at F₁
        k_steps
        rename Fr _ _ _ _ => F'
        rename News _ _ _ _ => N'
        rw [Nat.sub_self] at hs
        refine' WhStep.next (n' := as.length - 0 + 1) F' N' (by omega) (WrJ.mid (k := 0) (ps := [_]) ?y1 ?y2 hs ?y3)
        case y1 => with_unfolding_all rfl
        case y2 => with_unfolding_all rfl
        case y3 => exact .cons _ _ .nil
    | @mid _ c d k ws ps tl m1 m2 hs hp =>
      rw [pin m1, pin m2] at F₁
      obtain ⟨o1, o2, o3, o4⟩ := hs.off
      have hpl : ps.length ≤ 100 := by
        have := strsLen hp
        have := sepW_len (txs.take k) false
        have := hI'.length
        have : (txs.take k).length ≤ txs.length := by rw [List.length_take]; omega
        simp only [List.length_cons] at *
        omega
      have hpl' : ps.toArray.size ≤ 100 := by rw [List.size_toArray]; exact hpl
      cases hs with
      | @bot t n1 n2 =>
        k_steps
        rename News _ _ _ _ => N'
        rename Fr _ _ _ _ => F'
        simp only [List.push_toArray] at N'
        refine' WhStep.cont (n' := 0) F' (News.cut N' ?zs) (Nat.succ_pos _) (WrJ.fin (ps := ps ++ [.str (Str.ofString ")") _]) ?p1 ?p2 ?p3)
        case p1 => with_unfolding_all rfl
        case p2 => with_unfolding_all rfl
        case zs => k_extra "my_sub"
        case p3 =>
          rw [List.take_of_length_le (Nat.le_of_eq hI'.length.symm)] at hp
          exact strsSnoc hp _ _
      | @push ws tl k t a n1 n2 ha r =>
        obtain ⟨q1, q2, q3, q4⟩ := r.off
        obtain ⟨y, tx, ty1, ty2, htx, hta, hcl⟩ := hI'.at k a ha
        have hwl : (ws ++ [Value.ref t]).length ≤ 100 := by rw [List.length_append, q4]; simp; omega
        have hkl : k < txs.length := (List.getElem?_eq_some_iff.mp htx).1
        have etk : txs.take (k + 1) = txs.take k ++ [tx] := by rw [List.take_add_one, htx]; rfl
        k_steps
        case _ =>
          rename News _ _ _ _ => N'
          rename Fr _ _ _ _ => F'
          rename (k : Int) > 0 => hk0
          simp only [List.push_toArray] at N'
          refine' WhStep.cont (n' := as.length - (k + 1) + 1) F' (News.cut N' ?zs) (by omega) (WrJ.mid (ps := ps ++ [.str (Str.ofString " ") _] ++ [.str tx _]) ?p1 ?p2 r ?p3)
          case p1 => with_unfolding_all rfl
          case p2 => with_unfolding_all rfl
          case zs => exact List.forall_mem_cons.mpr ⟨by k_mem, List.forall_mem_cons.mpr ⟨by k_mem, subTail _ (subTail _ (subTail _ fun p hp => hp))⟩⟩
          case p3 =>
            have hne : (txs.take k).isEmpty = false := by cases q : txs.take k with | nil => (have := congrArg List.length q; rw [List.length_take, Nat.min_eq_left (Nat.le_of_lt hkl), List.length_nil] at this; omega) | cons _ _ => rfl
            rw [etk, sepW_snoc, hne]
            simpa using strsSnoc (strsSnoc hp (Str.ofString " ") _) tx _
        case _ =>
          rename News _ _ _ _ => N'
          rename Fr _ _ _ _ => F'
          rename ¬ (k : Int) > 0 => hk0
          simp only [List.push_toArray] at N'
          refine' WhStep.cont (n' := as.length - (k + 1) + 1) F' (News.cut N' ?zs) (by omega) (WrJ.mid (ps := ps ++ [.str tx _]) ?p1 ?p2 r ?p3)
          case p1 => with_unfolding_all rfl
          case p2 => with_unfolding_all rfl
          case zs => exact List.forall_mem_cons.mpr ⟨by k_mem, List.forall_mem_cons.mpr ⟨by k_mem, subTail _ (subTail _ (subTail _ fun p hp => hp))⟩⟩
          case p3 =>
            have hk : k = 0 := by omega
            subst hk
            rw [etk]
            simpa [sepW] using strsSnoc hp tx _
    | @fin _ c d ps m1 m2 hp =>
      have hw : ((Str.ofString "(" :: sepW false txs ++ [Str.ofString ")"]).map (·.length)).sum + (Str.ofString "(" :: sepW false txs ++ [Str.ofString ")"]).length ≤ 1048576 := by
        have a1 := sepW_len txs false
        have a2 := sepW_sum txs false hI'.len20
        have a3 := hI'.length
        have e1 : (Str.ofString "(").length = 1 := by decide
        have e2 : (Str.ofString ")").length = 1 := by decide
        simp [e1, e2]
        omega
      rw [pin m1, pin m2] at F₁
      k_steps
      rename Fr _ _ _ _ => F'
      exact hret _ _ _ (own_of hgB F')
end
end
section
theorem lines_Text : True := by
  w_top off
  k_with_none
  (k_with "my_pj" => (with_reducible first | assumption | exact Mine.pj1l (by assumption) | exact Mine.pj1r (by assumption) | exact Mine.pj2l (by assumption) | exact Mine.pj2r (by assumption) | exact Mine.pj3l (by assumption) | exact Mine.pj3r (by assumption) | exact Mine.pj4l (by assumption) | exact Mine.pj4r (by assumption) | exact Mine.pj5l (by assumption) | exact Mine.pj5r (by assumption) | exact Mine.pj6l (by assumption) | exact Mine.pj6r (by assumption) | exact Mine.pj7l (by assumption) | exact Mine.pj7r (by assumption) | exact Mine.pj8l (by assumption) | exact Mine.pj8r (by assumption) | exact Mine.pj9l (by assumption) | exact Mine.pj9r (by assumption) | exact Mine.pj10l (by assumption) | exact Mine.pj10r (by assumption) | exact Mine.pj11l (by assumption) | exact Mine.pj11r (by assumption) | exact Mine.pj12l (by assumption) | exact Mine.pj12r (by assumption) | exact Mine.pj13l (by assumption) | exact Mine.pj13r (by assumption) | exact Mine.pj14l (by assumption) | exact Mine.pj14r (by assumption) | exact Mine.pj15l (by assumption) | exact Mine.pj15r (by assumption) | exact Mine.pj16l (by assumption) | exact Mine.pj16r (by assumption)))
  (k_with "my_ne" => (refine neN ?_; (try dsimp only); first | with_reducible assumption | exact Ne.symm (by with_reducible assumption) | (refine Mine.neOr ?_; simp only [*, true_or, or_true, ne_eq, not_false_eq_true]; done) | (refine Ne.symm (Mine.neOr ?_); simp only [*, true_or, or_true, ne_eq, not_false_eq_true]; done) | omega))
  (k_with "my_room" => first | exact room1 (by with_reducible assumption) rfl rfl | exact room0 (by with_reducible assumption) rfl rfl | ((simp only [Around.deeper, Around.in1, recursionLimit, cLine] at *); omega))
  (k_with "my_fill" => ((have hfill : (fun (_ : OpenLaw) (_ : Params → Frag) => True) PySem.Challenge.rw_rg0207_01 Mine.hd.heap_1 := by k_fill; trivial); clear hfill))
  (k_with "my_in" => ((case k6 => k_is); (case k7 => k_is); (case k8 => first | exact Nat.lt_of_le_of_lt (Nat.le_add_right _ _) (by with_reducible assumption) | (simp only [recursionLimit] at *; omega)); (case k9 => first | exact BindsTo.of_eq rfl | exact binds_K (Frag.In.keeps (by assumption) (by assumption)) rfl (by k_is) rfl rfl rfl); (case c5 => decide); (case kB => exact locs rfl); (case c2 => exact rfl); (case c3 => exact rfl); (case c4 => exact rfl)))
  (k_with "my_sub" => repeat' (first | exact List.forall_mem_nil _ | refine List.forall_mem_cons.mpr ⟨?_, ?_⟩ | k_mem))
  (k_with "exec For Name Call cons nil" => (k_here; k_dflt (refine my_For ?_)))
  (k_with "exec For Name Name cons nil" => (k_here; k_dflt (refine my_For ?_)))
  (k_with "newTuple" => (k_here; k_dflt (refine my_newTuple (by k_asm) (by k_asm) ?_ (by size_fits); k_whole); intro l' h' F' N' l1; (try k_lt l1); (try k_sweep)))
  (k_with "call type:range" => (k_here; (with_reducible rename Fr _ _ _ _ => F'); (with_reducible rename News _ _ _ _ => N'); first | (with_unfolding_all refine range1_rows F' N' ?_; intro h' tk' t' u' v' R' F' N' k'; (try k_sweep)) | (with_unfolding_all refine range2_rows F' N' ?_; intro h' tk' t' u' v' R' F' N' k'; (try k_sweep))))
  (k_with "my_inC" => ((case k6 => k_is); (case k7 => k_is); (case k8 => first | exact Nat.lt_of_le_of_lt (Nat.le_add_right _ _) (by with_reducible assumption) | (simp only [recursionLimit] at *; omega)); (case k9 => exact BindsTo.of_eq rfl); (case kB => exact rfl); (case kD => decide +kernel); (case c2 => exact rfl); (case c3 => exact rfl); (case c4 => exact rfl)))
  (k_with "eval Name" => (k_here; kc_free; k_dflt (refine name_free (by k_asm) (by rfl) (by assumption) (by assumption) ?_ (by rfl) (by rfl); k_whole)))
  (k_with "last call builtin:len" => (k_here; k_dflt (refine call_len_list (by is_list) (by ((try simp only [Array.size_push, List.size_toArray]); omega)) ?_; k_whole); (try simp only [Array.size_push])))
  (k_with "my_ints" => first | assumption | l_ints | l_intsW)
  (k_with "my_fit" => ((try simp only [sizeLine_eq, List.length_append, List.length_cons, List.length_nil, List.length_reverse, List.length_map, List.size_toArray, Array.size_push]); omega))
  (k_with "binaryOp Add ref ref" => (k_here; (with_reducible show wpAny _ _ (binaryOp _ (Value.ref _) (Value.ref _)) _ _ _); k_dflt (refine my_addL (by k_asm) (by k_asm) (by kmk_list) (by kmk_list) (by k_extra "my_ints") (by k_extra "my_ints") ?_ (by k_extra "my_fit"); k_whole); intro D' h' F' N' l1 hI'; (try k_lt l1); (try k_sweep)))
  (k_with "exec While Compare cons nil" => (k_here; k_dflt (refine my_While ?_)))
  (k_with "my_len" => ((try simp only [Around.deeper, Around.in1, recursionLimit, cLine, List.length_append, List.length_take, List.length_drop, List.length_cons, List.length_nil] at *); omega))
  (k_with "eval ListComp" => (k_here; first | (lct_look; k_dflt (refine LCt.ListComp_T (F₀ := by k_asm) (by with_unfolding_all rfl) (by decide) (by rfl) (by decide) (by rfl) ?_)) | k_dflt (refine LCg.ListComp_U (F₀ := by k_asm) (by with_unfolding_all rfl) (by decide) (by rfl) (by decide) (by rfl) ?_)))
  (k_with "exec Assign cons ListComp" => (k_here; first | (lct_look; k_dflt (refine LCt.Assign_ListComp_T (F₀ := by k_asm) (by rfl) (by with_unfolding_all rfl) (by with_unfolding_all rfl) (by decide) (by rfl) (by decide) (by rfl) (by rfl) (by rfl) ?_)) | k_dflt (refine LCg.Assign_ListComp_U (F₀ := by k_asm) (by rfl) (by with_unfolding_all rfl) (by with_unfolding_all rfl) (by decide) (by rfl) (by decide) (by rfl) (by rfl) (by rfl) ?_)))
  trivial
inductive NamesAt : List Value → List Str → Prop
  | nil : NamesAt [] []
  | cons {y tx : Str} {t : Tok} {vs : List Value} {txs : List Str} : (y, tx) ∈ calledL → NamesAt vs txs → NamesAt (.str y t :: vs) (tx :: txs)
theorem NamesAt.length {vs : List Value} {txs : List Str} (x : NamesAt vs txs) : vs.length = txs.length := by induction x with | nil => rfl | cons _ _ ih => simp [ih]
theorem NamesAt.at {vs : List Value} {txs : List Str} (x : NamesAt vs txs) : ∀ (i : Nat) (v : Value), vs[i]? = some v → ∃ y tx t, v = .str y t ∧ txs[i]? = some tx ∧ (y, tx) ∈ calledL := by
  induction x with
  | nil => intro i v e; simp at e
  | cons hy _ ih =>
    intro i v e
    cases i with
    | zero => simp at e; subst e; exact ⟨_, _, _, rfl, rfl, hy⟩
    | succ i => simpa using ih i v (by simpa using e)
theorem NamesAt.snoc {vs : List Value} {txs : List Str} (x : NamesAt vs txs) {y tx : Str} (t : Tok) (hy : (y, tx) ∈ calledL) : NamesAt (vs ++ [.str y t]) (txs ++ [tx]) := by
  induction x with
  | nil => exact .cons hy .nil
  | cons h _ ih => exact .cons h ih
/-- the items made so far, in the ledger -/
inductive ItL : List Addr → List Str → List (Addr × Obj) → Prop
  | nil : ItL [] [] []
  | snoc {as : List Addr} {txs : List Str} {news : List (Addr × Obj)} {a : Addr} {y tx : Str} {t1 t2 : Tok} : (y, tx) ∈ calledL → ItL as txs news → ItL (as ++ [a]) (txs ++ [tx]) ((a, tupOf #[.str (Str.ofString "sym") t1, .str y t2] 0) :: news)
theorem ItemsAt.snoc {h : Heap} {as : List Addr} {txs : List Str} (x : ItemsAt h as txs) {a : Addr} {y tx : Str} {t1 t2 : Tok} (ht : IsTup h a #[.str (Str.ofString "sym") t1, .str y t2]) (hy : (y, tx) ∈ calledL) : ItemsAt h (as ++ [a]) (txs ++ [tx]) := by
  induction x with
  | nil => exact .cons ht hy .nil
  | cons h1 h2 _ ih => exact .cons h1 h2 ih
theorem ItL.items {g h : Heap} {L : Addr} {as : List Addr} {txs : List Str} {news : List (Addr × Obj)} (x : ItL as txs news) (N : News g L h news) : ItemsAt h as txs := by
  induction x with
  | nil => exact .nil
  | snoc hy _ ih => exact (ih fun p hp => N p (.tail _ hp)).snoc (News.isTup N (.head _)) hy
theorem ItL.length {as : List Addr} {txs : List Str} {news : List (Addr × Obj)} (x : ItL as txs news) : as.length = txs.length := by induction x with | nil => rfl | snoc _ _ ih => simp [ih]
section
variable {prog : Program} {w : World} {h₀ : Heap} {p : Program} {loose : List Str} {mean : ExcName → Option Value} {mg mb : Str → Option Value}
theorem write_K {A : Around} {s : Shared} {g : Heap} {L it tup : Addr} {m₀ : Str → Option Value} {news : List (Addr × Obj)} {as : List Addr} {txs : List Str} {t1 : Tok} {Q E : Value → Shared → Prop}
   (F : Fr g L s.heap m₀) (N : News g L s.heap news) (X : (hd.heap_1 w.params).In g) (T : Top p loose mean mg mb g) (hh : A.handled = none) (hd : A.depth + 60 < recursionLimit) (hu : A.units + 1500 < cLine)
   (h1 : IsTup s.heap it #[.str (Str.ofString "list") t1, .ref tup]) (h2 : IsTup s.heap tup (as.map Value.ref).toArray) (hI : ItemsAt s.heap as txs) (hlen : as.length ≤ 20)
   (hret : ∀ h' tk' t', Fr g L h' m₀ → News g L h' news → Q (.str (PySem.Txt.join (Str.ofString "") (Str.ofString "(" :: sepW false txs ++ [Str.ofString ")"])) t') { s with heap := h', toks := tk' }) :
   wpAny (model prog w) A (call (.ref 135) [.ref it]) Q E s :=
  writeT X T F.keep hh hd hu h1 h2 hI hlen fun h' tk' t' ow => let ⟨F', N'⟩ := own0 F N ow; hret h' tk' t' F' N'
theorem textT {A : Around} {s : Shared} {nl : Addr} {vs : List Value} {txs : List Str} {Q E : Value → Shared → Prop}
   (X : (hd.heap_1 w.params).In h₀) (T : Top p loose mean mg mb h₀) (st : h₀.StaysIn s.heap) (hh : A.handled = none) (hd : A.depth + 80 < recursionLimit) (hu : A.units + 2000 < cLine)
   (hk : s.heap.IsList nl vs.toArray) (hI : NamesAt vs txs) (hlen : txs.length ≤ 20)
   (hret : ∀ h' tk' t', Own [] s.heap h' → Q (.str (PySem.Txt.join (Str.ofString "") (Str.ofString "(" :: sepW false txs ++ [Str.ofString ")"])) t') { s with heap := h', toks := tk' }) :
   wpAny (model prog w) A (call (.ref 200) [.ref nl]) Q E s := by
  k_extra "my_fill"
  obtain ⟨_, dp, fr, gd, un⟩ := A
  obtain rfl : _ = none := hh
  refine wpAny_call ?_
  refine' code_in (news := []) X T st ?kN ?k6 ?k7 ?k8 ?k9 ?kB ?_ ?c2 ?c3 ?c4 ?c5
  case kN => exact led0
  k_extra "my_in"
  intro g L h₁ hgB F N X' T' lL lN
  k_lt lN
  have hk' : g.IsList nl vs.toArray := isList_base hgB hk (by simp)
  have hvl := hI.length
  dsimp only
  try k_fold
  k_steps
  rename Fr _ _ _ _ => F'
  rename News _ _ _ _ => N'
  refine LCg.CompSrc.base rfl F' N' hk' (by rw [List.size_toArray, sizeLine_eq]; omega) fun g' => restU_ind (n := vs.toArray.size) (fun i ys nw => ∃ as, ys = as.map Value.ref ∧ ItL as (txs.take i) nw) (fun ys nw hj => ?fin) (fun i ys nw v I oI C oC D m₂ h tk E' hlt hj hP hC hx F₁ N₁ off ne => ?turn) _ 0 [] [] (by omega) ⟨[], rfl, by simpa using ItL.nil⟩
  case turn =>
    clear F' N'
    obtain ⟨as, rfl, hI1⟩ := hj
    obtain ⟨y, tx, t, rfl, htx, hy⟩ := hI.at i v (by simpa using hP)
    k_steps
    rename Fr _ _ _ _ => F'
    rename News _ _ _ _ => N'
    rename _ ∧ _ ∧ AllLt2 _ _ => l1
    have hlt' : i < txs.length := (List.getElem?_eq_some_iff.mp htx).1
    refine LCg.CompEnd.intro F' N' ((l', tupOf #[Value.str (Str.ofString "sym") tk, Value.str y t] 0) :: nw) ?sub ⟨⟨Nat.ne_of_gt l1.1, Nat.ne_of_gt l1.2.1, Nat.ne_of_gt (lt2_head l1.2.2)⟩, off⟩ (Or.inl hk') ⟨as ++ [_], by rw [List.map_append]; rfl, ?it⟩
    case sub =>
      intro p hp
      rcases List.mem_cons.mp hp with q | hp
      · rw [q]; k_mem
      · rcases List.mem_cons.mp hp with q | hp
        · rw [q]; k_mem
        · rcases List.mem_cons.mp hp with q | hp
          · rw [q]; k_mem
          · rcases List.mem_cons.mp hp with q | hp
            · rw [q]; exact .head _
            · exact .tail _ (.tail _ (.tail _ (.tail _ hp)))
    case it =>
      rw [List.take_add_one, htx]
      exact ItL.snoc hy hI1
  case fin =>
    clear F' N'
    obtain ⟨as, rfl, hI1⟩ := hj
    rw [List.take_of_length_le (by rw [List.size_toArray]; omega)] at hI1
    k_steps
    rename Fr _ _ _ _ => F'
    rename News _ _ _ _ => N'
    have hal := hI1.length
    refine kde_tupleOf F' N' (News.isList N' (.head _)) (by simp; omega) rfl fun D h1 F1 N1 l1 => ?_
    clear F' N'
    k_steps
    rename Fr _ _ _ _ => F'
    rename News _ _ _ _ => N'
    refine write_K F' N' X' T' rfl (by k_extra "my_room") (by k_extra "my_room") (News.isTup N' (.head _)) (News.isTup N' (by k_mem)) (hI1.items (News.cut N' fun p hp => .tail _ (.tail _ (.tail _ hp)))) (by omega) fun h' tk' t' F' N' => ?_
    exact hret _ _ _ (own_of hgB F')
theorem text_K {A : Around} {s : Shared} {g : Heap} {L nl : Addr} {m₀ : Str → Option Value} {news : List (Addr × Obj)} {vs : List Value} {txs : List Str} {Q E : Value → Shared → Prop}
   (F : Fr g L s.heap m₀) (N : News g L s.heap news) (X : (hd.heap_1 w.params).In g) (T : Top p loose mean mg mb g) (hh : A.handled = none) (hd : A.depth + 80 < recursionLimit) (hu : A.units + 2000 < cLine)
   (hk : s.heap.IsList nl vs.toArray) (hI : NamesAt vs txs) (hlen : txs.length ≤ 20)
   (hret : ∀ h' tk' t', Fr g L h' m₀ → News g L h' news → Q (.str (PySem.Txt.join (Str.ofString "") (Str.ofString "(" :: sepW false txs ++ [Str.ofString ")"])) t') { s with heap := h', toks := tk' }) :
   wpAny (model prog w) A (call (.ref 200) [.ref nl]) Q E s :=
  textT X T F.keep hh hd hu hk hI hlen fun h' tk' t' ow => let ⟨F', N'⟩ := own0 F N ow; hret h' tk' t' F' N'
end
end
section
theorem lines_Written : True := by
  w_top off
  k_with_none
  (k_with "my_pj" => (with_reducible first | assumption | exact Mine.pj1l (by assumption) | exact Mine.pj1r (by assumption) | exact Mine.pj2l (by assumption) | exact Mine.pj2r (by assumption) | exact Mine.pj3l (by assumption) | exact Mine.pj3r (by assumption) | exact Mine.pj4l (by assumption) | exact Mine.pj4r (by assumption) | exact Mine.pj5l (by assumption) | exact Mine.pj5r (by assumption) | exact Mine.pj6l (by assumption) | exact Mine.pj6r (by assumption) | exact Mine.pj7l (by assumption) | exact Mine.pj7r (by assumption) | exact Mine.pj8l (by assumption) | exact Mine.pj8r (by assumption) | exact Mine.pj9l (by assumption) | exact Mine.pj9r (by assumption) | exact Mine.pj10l (by assumption) | exact Mine.pj10r (by assumption) | exact Mine.pj11l (by assumption) | exact Mine.pj11r (by assumption) | exact Mine.pj12l (by assumption) | exact Mine.pj12r (by assumption) | exact Mine.pj13l (by assumption) | exact Mine.pj13r (by assumption) | exact Mine.pj14l (by assumption) | exact Mine.pj14r (by assumption) | exact Mine.pj15l (by assumption) | exact Mine.pj15r (by assumption) | exact Mine.pj16l (by assumption) | exact Mine.pj16r (by assumption)))
  (k_with "my_ne" => (refine neN ?_; (try dsimp only); first | with_reducible assumption | exact Ne.symm (by with_reducible assumption) | (refine Mine.neOr ?_; simp only [*, true_or, or_true, ne_eq, not_false_eq_true]; done) | (refine Ne.symm (Mine.neOr ?_); simp only [*, true_or, or_true, ne_eq, not_false_eq_true]; done) | omega))
  (k_with "my_room" => first | exact room1 (by with_reducible assumption) rfl rfl | exact room0 (by with_reducible assumption) rfl rfl | ((simp only [Around.deeper, Around.in1, recursionLimit, cLine] at *); omega))
  (k_with "my_fill" => ((have hfill : (fun (_ : OpenLaw) (_ : Params → Frag) => True) PySem.Challenge.rw_rg0207_01 Mine.hd.heap_1 := by k_fill; trivial); clear hfill))
  (k_with "my_in" => ((case k6 => k_is); (case k7 => k_is); (case k8 => first | exact Nat.lt_of_le_of_lt (Nat.le_add_right _ _) (by with_reducible assumption) | (simp only [recursionLimit] at *; omega)); (case k9 => first | exact BindsTo.of_eq rfl | exact binds_K (Frag.In.keeps (by assumption) (by assumption)) rfl (by k_is) rfl rfl rfl); (case c5 => decide); (case kB => exact locs rfl); (case c2 => exact rfl); (case c3 => exact rfl); (case c4 => exact rfl)))
  (k_with "my_sub" => repeat' (first | exact List.forall_mem_nil _ | refine List.forall_mem_cons.mpr ⟨?_, ?_⟩ | k_mem))
  (k_with "exec For Name Call cons nil" => (k_here; k_dflt (refine my_For ?_)))
  (k_with "exec For Name Name cons nil" => (k_here; k_dflt (refine my_For ?_)))
  (k_with "newTuple" => (k_here; k_dflt (refine my_newTuple (by k_asm) (by k_asm) ?_ (by size_fits); k_whole); intro l' h' F' N' l1; (try k_lt l1); (try k_sweep)))
  (k_with "call type:range" => (k_here; (with_reducible rename Fr _ _ _ _ => F'); (with_reducible rename News _ _ _ _ => N'); first | (with_unfolding_all refine range1_rows F' N' ?_; intro h' tk' t' u' v' R' F' N' k'; (try k_sweep)) | (with_unfolding_all refine range2_rows F' N' ?_; intro h' tk' t' u' v' R' F' N' k'; (try k_sweep))))
  (k_with "my_inC" => ((case k6 => k_is); (case k7 => k_is); (case k8 => first | exact Nat.lt_of_le_of_lt (Nat.le_add_right _ _) (by with_reducible assumption) | (simp only [recursionLimit] at *; omega)); (case k9 => exact BindsTo.of_eq rfl); (case kB => exact rfl); (case kD => decide +kernel); (case c2 => exact rfl); (case c3 => exact rfl); (case c4 => exact rfl)))
  (k_with "eval Name" => (k_here; kc_free; k_dflt (refine name_free (by k_asm) (by rfl) (by assumption) (by assumption) ?_ (by rfl) (by rfl); k_whole)))
  (k_with "last call builtin:len" => (k_here; k_dflt (refine call_len_list (by is_list) (by ((try simp only [Array.size_push, List.size_toArray]); omega)) ?_; k_whole); (try simp only [Array.size_push])))
  (k_with "my_ints" => first | assumption | l_ints | l_intsW)
  (k_with "my_fit" => ((try simp only [sizeLine_eq, List.length_append, List.length_cons, List.length_nil, List.length_reverse, List.length_map, List.size_toArray, Array.size_push]); omega))
  (k_with "binaryOp Add ref ref" => (k_here; (with_reducible show wpAny _ _ (binaryOp _ (Value.ref _) (Value.ref _)) _ _ _); k_dflt (refine my_addL (by k_asm) (by k_asm) (by kmk_list) (by kmk_list) (by k_extra "my_ints") (by k_extra "my_ints") ?_ (by k_extra "my_fit"); k_whole); intro D' h' F' N' l1 hI'; (try k_lt l1); (try k_sweep)))
  (k_with "exec While Compare cons nil" => (k_here; k_dflt (refine my_While ?_)))
  (k_with "my_len" => ((try simp only [Around.deeper, Around.in1, recursionLimit, cLine, List.length_append, List.length_take, List.length_drop, List.length_cons, List.length_nil] at *); omega))
  (k_with "eval ListComp" => (k_here; first | (lct_look; k_dflt (refine LCt.ListComp_T (F₀ := by k_asm) (by with_unfolding_all rfl) (by decide) (by rfl) (by decide) (by rfl) ?_)) | k_dflt (refine LCg.ListComp_U (F₀ := by k_asm) (by with_unfolding_all rfl) (by decide) (by rfl) (by decide) (by rfl) ?_)))
  (k_with "exec Assign cons ListComp" => (k_here; first | (lct_look; k_dflt (refine LCt.Assign_ListComp_T (F₀ := by k_asm) (by rfl) (by with_unfolding_all rfl) (by with_unfolding_all rfl) (by decide) (by rfl) (by decide) (by rfl) (by rfl) (by rfl) ?_)) | k_dflt (refine LCg.Assign_ListComp_U (F₀ := by k_asm) (by rfl) (by with_unfolding_all rfl) (by with_unfolding_all rfl) (by decide) (by rfl) (by decide) (by rfl) (by rfl) (by rfl) ?_)))
  (k_with "call ref" => (k_here; (with_reducible show wpAny _ _ (call (Value.ref 200) _) _ _ _); k_dflt (refine text_K (by k_asm) (by k_asm) (by k_asm) (by k_asm) (by rfl) (by k_extra "my_room") (by k_extra "my_room") (by is_list) (by assumption) (by k_extra "my_fit") ?_; k_whole); intro h' tk' tK F' N'; (try k_sweep)))
  (k_with "call builtin:str.join" => (k_here; k_dflt (refine join_listW (by is_list) (by assumption) (by decide) (by assumption) ?_); intro t' k'; (try k_sweep)))
  (k_with "subscriptTail" => (k_here; (with_reducible show wpAny _ _ (subscriptTail _ _ (Value.ref 209) (Value.int _ _)) _ _ _); k_dflt (refine item8 (istup_fr (by k_asm) (by with_reducible assumption)) (by with_reducible assumption) (by with_reducible assumption) (by with_reducible assumption) (by with_reducible assumption) ?_ (by with_unfolding_all rfl); k_whole)))
  trivial
def calV (k : Int) : Str × Str := calledL.getD k.toNat (Str.ofString "", Str.ofString "")
theorem calV_mem {k : Int} (h0 : 0 ≤ k) (h7 : k ≤ 7) : calV k ∈ calledL := by
  have h : k = 0 ∨ k = 1 ∨ k = 2 ∨ k = 3 ∨ k = 4 ∨ k = 5 ∨ k = 6 ∨ k = 7 := by omega
  rcases h with h | h | h | h | h | h | h | h <;> subst h <;> decide +kernel
theorem calV_len : ∀ {ks : List Int}, (∀ k ∈ ks, 0 ≤ k ∧ k ≤ 7) → ((ks.map fun k => (calV k).2).map (·.length)).sum ≤ 20 * ks.length
  | [], _ => Nat.le_refl _
  | k :: ks, h => by
    have i := calV_len fun x hx => h x (.tail _ hx)
    have e : (calV k).2.length ≤ 20 := (called_ascii _ (calV_mem (h k (.head _)).1 (h k (.head _)).2)).2.2
    simp only [List.map_cons, List.sum_cons, List.length_cons] at *
    omega
theorem written_sum {ks : List Int} (h : ∀ k ∈ ks, 0 ≤ k ∧ k ≤ 7) (hl : ks.length ≤ 20) : ((ks.map fun k => (calV k).2).map (·.length)).sum + (ks.map fun k => (calV k).2).length ≤ 1048576 := by
  have := calV_len h
  rw [List.length_map]; omega
theorem written_len {ks : List Int} (h : ∀ k ∈ ks, 0 ≤ k ∧ k ≤ 7) (hl : ks.length ≤ 20) : (PySem.Txt.join (Str.ofString " ") (ks.map fun k => (calV k).2)).length ≤ 1048576 := by
  have := written_sum h hl
  have e : (PySem.Txt.join (Str.ofString " ") (ks.map fun k => (calV k).2)) = Str.join (Str.ofString " ") (ks.map fun k => (calV k).2) := StrLaws.glued_eq_join _ _
  have e1 : (Str.ofString " ").length = 1 := by decide
  have := StrLaws.join_length_le (Str.ofString " ") (ks.map fun k => (calV k).2)
  rw [e1] at this
  rw [e]; omega
theorem strAssoc (a b c : Str) : a ++ b ++ c = a ++ (b ++ c) := Str.append_assoc a b c
theorem join0_cons (x : Str) : ∀ r : List Str, Str.join (Str.ofString "") (x :: r) = x ++ Str.join (Str.ofString "") r
  | [] => by
    show x = x ++ Str.empty
    exact (Str.append_empty x).symm
  | y :: r => by
    show x ++ Str.ofString "" ++ Str.join _ (y :: r) = _
    have e : x ++ Str.ofString "" = x := by
      have : Str.ofString "" = Str.empty := by decide +kernel
      rw [this]; exact Str.append_empty x
    rw [e]
theorem join_sepW (c : Str) : ∀ (x : Str) (r : List Str), Str.join (Str.ofString "") (sepW true (x :: r) ++ [c]) = Str.ofString " " ++ Str.join (Str.ofString " ") (x :: r) ++ c
  | x, [] => by
    show Str.join (Str.ofString "") [Str.ofString " ", x, c] = Str.ofString " " ++ x ++ c
    rw [join0_cons, join0_cons]
    show _ ++ (x ++ c) = _
    rw [strAssoc]
  | x, y :: r => by
    show Str.join (Str.ofString "") (Str.ofString " " :: x :: (sepW true (y :: r) ++ [c])) = Str.ofString " " ++ (x ++ Str.ofString " " ++ Str.join (Str.ofString " ") (y :: r)) ++ c
    rw [join0_cons, join0_cons, join_sepW c y r]
    simp only [strAssoc]
theorem join_all (o c : Str) : ∀ l : List Str, Str.join (Str.ofString "") (o :: sepW false l ++ [c]) = o ++ Str.join (Str.ofString " ") l ++ c
  | [] => by
    show Str.join (Str.ofString "") [o, c] = o ++ Str.empty ++ c
    rw [join0_cons]
    rw [Str.append_empty]; rfl
  | [x] => by
    show Str.join (Str.ofString "") [o, x, c] = o ++ x ++ c
    rw [join0_cons, join0_cons]
    show _ ++ (x ++ c) = _
    rw [strAssoc]
  | x :: y :: r => by
    show Str.join (Str.ofString "") (o :: x :: (sepW true (y :: r) ++ [c])) = o ++ (x ++ Str.ofString " " ++ Str.join (Str.ofString " ") (y :: r)) ++ c
    rw [join0_cons, join0_cons, join_sepW]
    simp only [strAssoc]
theorem written_eq (l : List Str) : (PySem.Txt.join (Str.ofString "") (Str.ofString "(" :: (sepW false l ++ [Str.ofString ")"])) == Str.ofString "(" ++ PySem.Txt.join (Str.ofString " ") l ++ Str.ofString ")") = true := by
  show (Builtin.Str.glued _ (Str.ofString "(" :: sepW false l ++ [Str.ofString ")"]) == _ ++ Builtin.Str.glued _ _ ++ _) = true
  rw [StrLaws.glued_eq_join, StrLaws.glued_eq_join, join_all]
  exact beq_self_eq_true _
theorem called_tup {w : World} {h : Heap} (X : (hd.heap_1 w.params).In h) : ∃ items : List Value, IsTup h 209 items.toArray ∧ items.length = 8 ∧ ∀ k : Int, 0 ≤ k → k ≤ 7 → ∃ a t1 t2, items[k.toNat]? = some (.ref a) ∧ IsTup h a #[.str (calV k).1 t1, .str (calV k).2 t2] := by
  k_extra "my_fill"
  refine ⟨_, ⟨_, X 209 _ (by k_is), rfl, _, rfl⟩, rfl, ?_⟩
  intro k h0 h7
  have h : k = 0 ∨ k = 1 ∨ k = 2 ∨ k = 3 ∨ k = 4 ∨ k = 5 ∨ k = 6 ∨ k = 7 := by omega
  rcases h with h | h | h | h | h | h | h | h <;> subst h <;> exact ⟨_, _, _, rfl, ⟨_, X _ _ (by k_is), rfl, _, rfl⟩⟩
theorem called_at {w : World} {h : Heap} (X : (hd.heap_1 w.params).In h) {k : Int} (h0 : 0 ≤ k) (h7 : k ≤ 7) : ∃ items : List Value, ∃ a t1 t2, IsTup h 209 items.toArray ∧ items.length = 8 ∧ items[k.toNat]? = some (.ref a) ∧ IsTup h a #[.str (calV k).1 t1, .str (calV k).2 t2] :=
  let ⟨items, a, b, c⟩ := called_tup X; let ⟨x, t1, t2, d, e⟩ := c k h0 h7; ⟨items, x, t1, t2, a, b, d, e⟩
theorem item8 {prog : Program} {w : World} {A : Around} {E : Value → Shared → Prop} {s : Shared} {value slice : Expr} {t a : Addr} {l : List Value} {k : Int} {u : Tok} {Q : Value → Shared → Prop} (ht : IsTup s.heap t l.toArray) (hl : l.length = 8) (h0 : 0 ≤ k) (h7 : k ≤ 7) (hx : l[k.toNat]? = some (.ref a)) (h : Q (.ref a) s)
    (hs : subscripted slice false (.ref t) (.int k u) = operate [.ref t, .int k u] (getItem (.ref t) (.int k u)) := by with_unfolding_all rfl) : wpAny (model prog w) A (subscriptTail value slice (.ref t) (.int k u)) Q E s :=
  item_tupleT ht (by omega) (by omega) (seqIndex_of h0 (by omega)) hx h hs
section
variable {prog : Program} {w : World} {h₀ : Heap} {p : Program} {loose : List Str} {mean : ExcName → Option Value} {mg mb : Str → Option Value}
theorem writtenT {A : Around} {s : Shared} {kl : Addr} {vs : List Value} {ks : List Int} {Q E : Value → Shared → Prop}
   (X : (hd.heap_1 w.params).In h₀) (T : Top p loose mean mg mb h₀) (st : h₀.StaysIn s.heap) (hh : A.handled = none) (hd : A.depth + 90 < recursionLimit) (hu : A.units + 2200 < cLine)
   (hk : s.heap.IsList kl vs.toArray) (hi : IntsAre vs ks) (hr : ∀ k ∈ ks, 0 ≤ k ∧ k ≤ 7) (hlen : ks.length ≤ 20)
   (hret : ∀ h' tk', Own [] s.heap h' → Q (.bool true) { s with heap := h', toks := tk' }) :
   wpAny (model prog w) A (call (.ref 250) [.ref kl]) Q E s := by
  k_extra "my_fill"
  obtain ⟨_, dp, fr, gd, un⟩ := A
  obtain rfl : _ = none := hh
  refine wpAny_call ?_
  refine' code_in (news := []) X T st ?kN ?k6 ?k7 ?k8 ?k9 ?kB ?_ ?c2 ?c3 ?c4 ?c5
  case kN => exact led0
  k_extra "my_in"
  intro g L h₁ hgB F N X' T' lL lN
  clear lN
  have hk' : g.IsList kl vs.toArray := isList_base hgB hk (by simp)
  have hvl := hi.length
  dsimp only
  try k_fold
  k_steps
  rename Fr _ _ _ _ => F'
  rename News _ _ _ _ => N'
  refine LCg.CompSrc.base rfl F' N' hk' (by rw [List.size_toArray, sizeLine_eq]; omega) fun g' => restU_ind (n := vs.toArray.size) (fun i ys nw => nw = [] ∧ NamesAt ys ((ks.take i).map fun k => (calV k).2)) (fun ys nw hj => ?fin) (fun i ys nw v I oI C oC D m₂ h tk E' hlt hj hP hC hx F₁ N₁ off ne => ?turn) _ 0 [] [] (by omega) ⟨rfl, .nil⟩
  case turn =>
    clear F' N'
    obtain ⟨rfl, hj⟩ := hj
    obtain ⟨n, t, rfl, hn⟩ := hi.at i v (by simpa using hP)
    obtain ⟨h0, h7⟩ := hr n (List.mem_of_getElem? hn)
    obtain ⟨items, a, t1, t2, ht, hl8, hx8, hta⟩ := called_at X' h0 h7
    k_steps
    rw [List.take_add_one, hn, List.map_append]
    exact NamesAt.snoc hj t1 (calV_mem h0 h7)
  case fin =>
    clear F' N'
    obtain ⟨rfl, hj⟩ := hj
    rw [List.take_of_length_le (by rw [List.size_toArray]; omega)] at hj
    have hml : (ks.map fun k => (calV k).2).length ≤ 20 := by rw [List.length_map]; exact hlen
    k_steps
    rename Fr _ _ _ _ => F'
    rename News _ _ _ _ => N'
    refine LCg.CompSrc.base rfl F' N' hk' (by rw [List.size_toArray, sizeLine_eq]; omega) fun g' => restU_ind (n := vs.toArray.size) (fun i ys nw => nw = _ ∧ StrsAre ys ((ks.take i).map fun k => (calV k).2)) (fun ys nw hj => ?fin2) (fun i ys nw v I oI C oC D m₂ h tk E' hlt hj hP hC hx F₁ N₁ off ne => ?turn2) _ 0 [] _ (by omega) ⟨rfl, .nil⟩
    case turn2 =>
      clear F' N'
      obtain ⟨rfl, hj⟩ := hj
      obtain ⟨n, t, rfl, hn⟩ := hi.at i v (by simpa using hP)
      obtain ⟨h0, h7⟩ := hr n (List.mem_of_getElem? hn)
      obtain ⟨items, a, t1, t2, ht, hl8, hx8, hta⟩ := called_at X' h0 h7
      k_steps
      rename Fr _ _ _ _ => F'
      rename News _ _ _ _ => N'
      refine LCg.CompEnd.intro F' N' _ ?sub off (Or.inl hk') ⟨rfl, ?it⟩
      case sub => k_extra "my_sub"
      case it =>
        rw [List.take_add_one, hn, List.map_append]
        exact strsSnoc hj (calV n).2 t2
    case fin2 =>
      clear F' N'
      obtain ⟨rfl, hj⟩ := hj
      rw [List.take_of_length_le (by rw [List.size_toArray]; omega)] at hj
      have hw : ((ks.map fun k => (calV k).2).map (·.length)).sum + (ks.map fun k => (calV k).2).length ≤ 1048576 := written_sum hr hlen
      have hJl := written_len hr hlen
      k_steps
      try dsimp only
      rename Fr _ _ _ _ => F'
      rw [written_eq]
      exact hret _ _ (own_of hgB F')
theorem written_K {A : Around} {s : Shared} {g : Heap} {L kl : Addr} {m₀ : Str → Option Value} {news : List (Addr × Obj)} {vs : List Value} {ks : List Int} {Q E : Value → Shared → Prop}
   (F : Fr g L s.heap m₀) (N : News g L s.heap news) (X : (hd.heap_1 w.params).In g) (T : Top p loose mean mg mb g) (hh : A.handled = none) (hd : A.depth + 90 < recursionLimit) (hu : A.units + 2200 < cLine)
   (hk : s.heap.IsList kl vs.toArray) (hi : IntsAre vs ks) (hr : ∀ k ∈ ks, 0 ≤ k ∧ k ≤ 7) (hlen : ks.length ≤ 20)
   (hret : ∀ h' tk', Fr g L h' m₀ → News g L h' news → Q (.bool true) { s with heap := h', toks := tk' }) :
   wpAny (model prog w) A (call (.ref 250) [.ref kl]) Q E s :=
  writtenT X T F.keep hh hd hu hk hi hr hlen fun h' tk' ow => let ⟨F', N'⟩ := own0 F N ow; hret h' tk' F' N'
end
end
section
/-- the parts of an asker, in the ledger -/
structure AskL (w : World) (fn hid drk hrd c' c1 c2 c3 : Addr) (fo o1 o2 o3 : Obj) : Prop where
  f : ∃ (name : Str) (params : Arguments) (body : List Stmt) (scope : Scope) (pos : Pos) (doc pm ctv : Value), askParts (Mine.hd.heap_1 w.params) = some (name, params, body, scope, pos) ∧ fo = fnMade name askQual params body scope [(Str.ofString "hidden", c1), (Str.ofString "heard", c3), (Str.ofString "dark", c2)] doc pm c' ctv
  d1 : o1.data = .cell (some (.ref hid))
  d2 : o2.data = .cell (some (.ref drk))
  d3 : o3.data = .cell (some (.ref hrd))
theorem AskL.fn {w : World} {g h : Heap} {L fn hid drk hrd c' c1 c2 c3 : Addr} {fo o1 o2 o3 : Obj} {news : List (Addr × Obj)} (x : AskL w fn hid drk hrd c' c1 c2 c3 fo o1 o2 o3) (N : News g L h news) (hr : h.CodeRec (.ref c') askQual)
    (m0 : (fn, fo) ∈ news) (m1 : (c1, o1) ∈ news) (m2 : (c2, o2) ∈ news) (m3 : (c3, o3) ∈ news) : AskFn w h fn hid drk hrd := by
  obtain ⟨name, params, body, scope, pos, doc, pm, ctv, e, rfl⟩ := x.f
  exact .intro e (N _ m0).1 hr (N _ m1).1 x.d1 (N _ m2).1 x.d2 (N _ m3).1 x.d3
theorem AskFn.move {w : World} {h h' : Heap} {fn hid drk hrd : Addr} (x : AskFn w h fn hid drk hrd) (k : ∀ b o, h.get? b = some o → (∀ its n, o.data ≠ .seq its n) → h'.get? b = some o) : AskFn w h' fn hid drk hrd := by
  cases x with
  | intro e hf hr h1 d1 h2 d2 h3 d3 =>
    obtain ⟨c, o, vs, t, q, e2, e3, e4⟩ := hr
    cases q
    refine .intro e (k _ _ hf fun _ _ q => ?_) ⟨_, o, vs, t, rfl, k _ _ e2 fun _ _ q => by (rw [e3] at q; cases q), e3, e4⟩ (k _ _ h1 fun _ _ q => by rw [d1] at q; cases q) d1 (k _ _ h2 fun _ _ q => by rw [d2] at q; cases q) d2 (k _ _ h3 fun _ _ q => by rw [d3] at q; cases q) d3
    exact Data.noConfusion q
theorem baseNe {g h : Heap} {L a b : Addr} {o : Obj} {its : Array Value} {news : List (Addr × Obj)} (hl : g.IsList b its) (N : News g L h news) (m : (a, o) ∈ news) : @Ne Nat b a := fun q => by
  obtain ⟨o', e, _⟩ := hl
  rw [show b = a from q, (N _ m).2.2] at e; cases e
theorem askEnv_hide {w : World} {g h : Heap} {L fn hid drk hrd : Addr} {m : Str → Option Value} {H : List (List Int)} {dark : List Int} {its : Array Value} {n : Nat} {ds : List Value} (F : Fr g L h m) (ehr : h.get? hrd = some (W.listOf its n)) (hr0 : g.get? hrd = none)
    (x : AskFn w h fn hid drk hrd) (hH : HidAt g hid H) (hHr : ∀ f ∈ H, f.length ≤ 100) (hdk : h.IsList drk ds.toArray) (hdi : IntsAre ds dark) (hdn : @Ne Nat drk hrd) : AskEnv w (hideAll h [hrd]) fn hid drk hrd H dark :=
  ⟨x.move fun b o e n => hideAll_get _ e fun q => by rw [List.mem_singleton.mp q, ehr] at e; cases e; exact n _ _ rfl,
   hH.keep (led_keep F.keep (led1 ehr hr0 led0)), hHr, ds, let ⟨o, e, r⟩ := hdk; ⟨o, hideAll_get _ e fun q => hdn (List.mem_singleton.mp q), r⟩, hdi⟩
theorem nodup_le : ∀ {l m : List Int}, l.Nodup → (∀ x ∈ l, x ∈ m) → l.length ≤ m.length
  | [], _, _, _ => Nat.zero_le _
  | x :: l, m, nd, h => by
    obtain ⟨h1, h2⟩ := List.nodup_cons.mp nd
    have hx := h x (.head _)
    have := nodup_le (m := m.erase x) h2 fun y hy => (List.mem_erase_of_ne fun q => h1 (by rw [← q]; exact hy)).mpr (h y (.tail _ hy))
    have e := List.length_erase_of_mem hx
    have := List.length_pos_of_mem hx
    simp only [List.length_cons]; omega
theorem core_good {fs f0 : List Int} (n1 : fs.Nodup) (r1 : ∀ x ∈ fs, 1 ≤ x ∧ x ≤ 7) (n2 : f0.Nodup) (r2 : ∀ x ∈ f0, 1 ≤ x ∧ x ≤ 7) :
    (fs ++ f0.filter fun x => !fs.contains x).Nodup ∧ (∀ x ∈ (fs ++ f0.filter fun x => !fs.contains x), 1 ≤ x ∧ x ≤ 7) ∧ fs.length + (f0.filter fun x => !fs.contains x).length ≤ 7 ∧ sub f0 (fs ++ f0.filter fun x => !fs.contains x) = true := by
  have nd : (fs ++ f0.filter fun x => !fs.contains x).Nodup := List.nodup_append.mpr ⟨n1, n2.filter _, fun a ha b hb q => by
    have := (List.mem_filter.mp hb).2
    rw [← q] at this
    simp [ha] at this⟩
  have rg : ∀ x ∈ (fs ++ f0.filter fun x => !fs.contains x), 1 ≤ x ∧ x ≤ 7 := fun x hx => (List.mem_append.mp hx).elim (r1 x) fun q => r2 x (List.mem_filter.mp q).1
  refine ⟨nd, rg, ?_, ?_⟩
  · have := nodup_le (m := [1, 2, 3, 4, 5, 6, 7]) nd fun x hx => by
      obtain ⟨a, b⟩ := rg x hx
      have : x = 1 ∨ x = 2 ∨ x = 3 ∨ x = 4 ∨ x = 5 ∨ x = 6 ∨ x = 7 := by omega
      rcases this with h | h | h | h | h | h | h <;> subst h <;> decide
    rw [List.length_append] at this
    exact this
  · rw [sub, List.all_eq_true]
    intro x hx
    by_cases q : x ∈ fs
    · simp [q]
    · simp [q, hx]
theorem RowsAt.base {g h : Heap} {W : List Addr} (hg : g = hideAll h W) (off : ∀ {l : Addr} {its : Array Value}, h.IsList l its → l ∉ W) {as : List Addr} {H : List (List Int)} (x : RowsAt h as H) : RowsAt g as H := by
  induction x with
  | nil => exact .nil
  | cons h1 h2 _ ih => exact .cons (isList_base hg h1 (off h1)) h2 ih
theorem HidAt.base {g h : Heap} {W : List Addr} (hg : g = hideAll h W) (off : ∀ {l : Addr} {its : Array Value}, h.IsList l its → l ∉ W) {hid : Addr} {H : List (List Int)} (x : HidAt h hid H) : HidAt g hid H := let ⟨as, hl, hR⟩ := x; ⟨as, isList_base hg hl (off hl), hR.base hg off⟩
theorem HidAt.first {h : Heap} {hid : Addr} {f : List Int} {H : List (List Int)} (x : HidAt h hid (f :: H)) : ∃ a as v, h.IsList hid (Value.ref a :: as).toArray ∧ h.IsList a (v : List Value).toArray ∧ IntsAre v f := by
  obtain ⟨as, hl, hR⟩ := x
  cases hR with
  | cons h1 h2 _ => exact ⟨_, _, _, hl, h1, h2⟩
theorem flask_off {prog : Program} {w : World} {h : Heap} {fl c l : Addr} {fo : Obj} {k : Int} {tk : Tok} {its : Array Value} (hfl : h.get? fl = some fo) (hfo : FlaskO prog w fo c k tk) (hl : h.IsList l its) : l ≠ fl := fun q => by
  obtain ⟨o, ho, hcl, _⟩ := hl
  rw [q, hfl] at ho; cases ho; rw [hfo.cls] at hcl; exact absurd hcl (by decide)
theorem tab_off {w : World} {h : Heap} {l c' : Addr} {to : Obj} {its : Array Value} (ht : h.get? 230 = some to) (hto : TabAt w to c') (hl : h.IsList l its) : l ≠ 230 := fun q => by
  obtain ⟨o, ho, hcl, _⟩ := hl
  obtain ⟨_, _, _, _, _, _, e⟩ := hto
  rw [q, ht] at ho; cases ho; rw [e] at hcl; exact Value.noConfusion hcl
theorem flask_code {prog : Program} {w : World} {h : Heap} {fl c a : Addr} {fo o : Obj} {k : Int} {tk : Tok} {vs : Array Value} (hfl : h.get? fl = some fo) (hfo : FlaskO prog w fo c k tk) (e : h.get? a = some o) (hd : o.data = .fields vs) : a ≠ fl := fun q => by
  obtain ⟨es, n, hx, hdat, _⟩ := hfo
  rw [q, hfl] at e; cases e
  rw [hd] at hdat; cases hdat
section
variable {prog : Program} {w : World} {p : Program} {loose : List Str} {mean : ExcName → Option Value} {mg mb : Str → Option Value}
theorem asker_K {A : Around} {s : Shared} {g : Heap} {L hid drk hrd c' : Addr} {m₀ : Str → Option Value} {news : List (Addr × Obj)} {to : Obj} {Q E : Value → Shared → Prop}
   (F : Fr g L s.heap m₀) (N : News g L s.heap news) (X : (hd.heap_1 w.params).In g) (T : Top p loose mean mg mb g) (C : CodeHd g 234 230) (ht : (230, to) ∈ news) (hto : TabAt w to c') (hcr : s.heap.CodeRec (.ref c') askQual) (hh : A.handled = none) (hd : A.depth + 10 < recursionLimit) (hu : A.units + 200 < cLine)
   (hret : ∀ h' tk' r c1 c2 c3 fo o1 o2 o3, Own [] s.heap h' → AskL w r hid drk hrd c' c1 c2 c3 fo o1 o2 o3 → Fr g L h' m₀ → News g L h' ((r, fo) :: (c1, o1) :: (c2, o2) :: (c3, o3) :: news) → (∀ p ∈ news, p.1 ≠ r) → (∀ p ∈ news, p.1 ≠ c1) → (∀ p ∈ news, p.1 ≠ c2) → (∀ p ∈ news, p.1 ≠ c3) → Q (.ref r) { s with heap := h', toks := tk' }) :
   wpAny (model prog w) A (call (.ref 235) [.ref hid, .ref drk, .ref hrd]) Q E s := by
  have h230 := N _ ht
  refine asker X T C F.keep hh hd hu h230.1 (.inr ⟨c', hto, hcr⟩) h230.2.2 fun h' tk' r to' c'' ow et hta hcr' hor hN => ?_
  obtain ⟨name, params, body, scope, pos, e, eto⟩ := hto
  obtain ⟨name', params', body', scope', pos', e', eto'⟩ := hta
  have htt : to' = to := hor.elim (fun q => by rw [eto] at q; simp [tabObj] at q) id
  subst htt
  have hc : c'' = c' := by rw [eto] at eto'; simp [tabObj] at eto'; exact eto'.2.2.symm
  subst hc
  have ow0 : Own [] s.heap h' := own_less ow fun o eo => by rw [h230.1] at eo; cases eo; exact et
  obtain ⟨F', N'⟩ := own0 F N ow0
  cases hN with
  | @intro name params body scope pos c1 c2 c3 o1 o2 o3 doc pm ctv e hf nf h1 d1 n1 h2 d2 n2 h3 d3 n3 =>
  exact hret _ _ _ _ _ _ _ _ _ _ ow0 ⟨⟨_, _, _, _, _, _, _, _, e, rfl⟩, d1, d2, d3⟩ F' (fresh1 F nf (fresh1 F n1 (fresh1 F n2 (fresh1 F n3 N' h3) h2) h1) hf) (fresh_ne N nf) (fresh_ne N n1) (fresh_ne N n2) (fresh_ne N n3)
/-- shrink, its asker in the ledger -/
theorem shrink_L {A : Around} {s : Shared} {g : Heap} {L fn hid drk hrd cl : Addr} {m₀ : Str → Option Value} {news : List (Addr × Obj)} {g1 : Obj → List (Addr × Obj)} {H : List (List Int)} {n : Nat} {vs ds : List Value} {core dark : List Int} {most : Nat} {tm : Tok} {Q E : Value → Shared → Prop}
   (F : Fr g L s.heap m₀) (N : News g L s.heap news) (X : (hd.heap_1 w.params).In g) (T : Top p loose mean mg mb g) (x : AskFn w s.heap fn hid drk hrd) (hH : HidAt g hid H) (hHr : ∀ f ∈ H, f.length ≤ 100)
   (U1 : UpdF hrd (W.listOf #[] n) news g1) (hdk : s.heap.IsList drk ds.toArray) (hdi : IntsAre ds dark) (hdn : @Ne Nat drk hrd) (hh : A.handled = none) (hd : A.depth + 120 < recursionLimit) (hu : A.units + 2000 < cLine)
   (hk : s.heap.IsList cl vs.toArray) (hi : IntsAre vs core) (hlen : core.length ≤ 40) (hne : @Ne Nat cl hrd)
   (hret : ∀ h' tk' t r us l na its' n' b, shV H dark most core = (l, b) → Fr g L h' m₀ → News g L h' ((t, tupOf #[.ref r, .bool b] 0) :: (r, W.listOf us.toArray na) :: g1 (W.listOf its' n')) → (∀ p ∈ news, p.1 ≠ t) → (∀ p ∈ news, p.1 ≠ r) → @Ne Nat t r → IntsAre us l → Q (.ref t) { s with heap := h', toks := tk' }) :
   wpAny (model prog w) A (call (.ref 181) [.ref cl, .ref fn, .int most tm]) Q E s := by
  have hr := N (hrd, W.listOf #[] n) (by obtain ⟨pre, post, e, _⟩ := U1.split; rw [e]; exact List.mem_append_right _ (.head _))
  have KG := led_keep F.keep (led1 hr.1 hr.2.2 led0)
  refine shrink (X.keeps KG) (T.keeps KG) (fun _ _ => of_hideAll _) hh hd hu (askEnv_hide F hr.1 hr.2.2 x hH hHr hdk hdi hdn) hr.1 (hideAll_none _ (List.mem_singleton.mpr rfl)) hk hi hlen hne fun h' tk' t r us l na its' n' b e ow eh ft et fr er hI => ?_
  obtain ⟨F', N'⟩ := own1 F N U1 ow eh
  exact hret _ _ _ _ _ _ _ _ _ _ e F' (fresh1 F ft (fresh1 F fr N' er) et) (fresh_ne N ft) (fresh_ne N fr) (apart et er (by show ¬ (Value.type "tuple" = Value.type "list"); decide)) hI
theorem isCore_L {A : Around} {s : Shared} {g : Heap} {L fn hid drk hrd kl : Addr} {m₀ : Str → Option Value} {news : List (Addr × Obj)} {g1 : Obj → List (Addr × Obj)} {H : List (List Int)} {its : Array Value} {n : Nat} {vs ds : List Value} {ks dark : List Int} {Q E : Value → Shared → Prop}
   (F : Fr g L s.heap m₀) (N : News g L s.heap news) (X : (hd.heap_1 w.params).In g) (T : Top p loose mean mg mb g) (x : AskFn w s.heap fn hid drk hrd) (hH : HidAt g hid H) (hHr : ∀ f ∈ H, f.length ≤ 100)
   (U1 : UpdF hrd (W.listOf its n) news g1) (hdk : s.heap.IsList drk ds.toArray) (hdi : IntsAre ds dark) (hdn : @Ne Nat drk hrd) (hh : A.handled = none) (hd : A.depth + 40 < recursionLimit) (hu : A.units + 600 < cLine) (hsz : its.size ≤ 1500)
   (hk : s.heap.IsList kl vs.toArray) (hi : IntsAre vs ks) (hlen : ks.length ≤ 50) (hne : @Ne Nat kl hrd)
   (hret : ∀ h' tk' its' n', its'.size = its.size + 1 → Fr g L h' m₀ → News g L h' (g1 (W.listOf its' n')) → Q (.bool (isU H dark its.size ks)) { s with heap := h', toks := tk' }) :
   wpAny (model prog w) A (call (.ref 188) [.ref kl, .ref fn]) Q E s := by
  have hr := N (hrd, W.listOf its n) (by obtain ⟨pre, post, e, _⟩ := U1.split; rw [e]; exact List.mem_append_right _ (.head _))
  have KG := led_keep F.keep (led1 hr.1 hr.2.2 led0)
  refine isCore (X.keeps KG) (T.keeps KG) (fun _ _ => of_hideAll _) hh hd hu (askEnv_hide F hr.1 hr.2.2 x hH hHr hdk hdi hdn) hr.1 (hideAll_none _ (List.mem_singleton.mpr rfl)) hsz hk hi hlen hne fun h' tk' its' n' e ow eh => ?_
  obtain ⟨F', N'⟩ := own1 F N U1 ow eh
  exact hret _ _ _ _ e F' N'
theorem isLeast_L {A : Around} {s : Shared} {g : Heap} {L fn hid drk hrd kl : Addr} {m₀ : Str → Option Value} {news : List (Addr × Obj)} {g1 : Obj → List (Addr × Obj)} {H : List (List Int)} {its : Array Value} {n : Nat} {vs ds : List Value} {ks dark : List Int} {Q E : Value → Shared → Prop}
   (F : Fr g L s.heap m₀) (N : News g L s.heap news) (X : (hd.heap_1 w.params).In g) (T : Top p loose mean mg mb g) (x : AskFn w s.heap fn hid drk hrd) (hH : HidAt g hid H) (hHr : ∀ f ∈ H, f.length ≤ 100)
   (U1 : UpdF hrd (W.listOf its n) news g1) (hdk : s.heap.IsList drk ds.toArray) (hdi : IntsAre ds dark) (hdn : @Ne Nat drk hrd) (hh : A.handled = none) (hd : A.depth + 60 < recursionLimit) (hu : A.units + 1000 < cLine) (hsz : its.size ≤ 1000)
   (hk : s.heap.IsList kl vs.toArray) (hi : IntsAre vs ks) (hlen : ks.length ≤ 50) (hne : @Ne Nat kl hrd)
   (hret : ∀ h' tk' its' n', its'.size ≤ its.size + ks.length + 1 → Fr g L h' m₀ → News g L h' (g1 (W.listOf its' n')) → Q (.bool (ilV H dark its.size ks)) { s with heap := h', toks := tk' }) :
   wpAny (model prog w) A (call (.ref 195) [.ref kl, .ref fn]) Q E s := by
  have hr := N (hrd, W.listOf its n) (by obtain ⟨pre, post, e, _⟩ := U1.split; rw [e]; exact List.mem_append_right _ (.head _))
  have KG := led_keep F.keep (led1 hr.1 hr.2.2 led0)
  refine isLeast (X.keeps KG) (T.keeps KG) (fun _ _ => of_hideAll _) hh hd hu (askEnv_hide F hr.1 hr.2.2 x hH hHr hdk hdi hdn) hr.1 (hideAll_none _ (List.mem_singleton.mpr rfl)) hsz hk hi hlen hne fun h' tk' its' n' e ow eh => ?_
  obtain ⟨F', N'⟩ := own1 F N U1 ow eh
  exact hret _ _ _ _ e F' N'
end
end
section
/-- enough -/
def en (H : List (List Int)) (ks : List Int) : Bool := (namedV H ks).isSome
theorem en_iff {H : List (List Int)} {ks : List Int} : en H ks = true ↔ ∃ f ∈ H, ∀ x ∈ f, x ∈ ks := by
  rw [en, namedV, List.find?_isSome]
  constructor
  · rintro ⟨f, hf, h⟩; exact ⟨f, hf, fun x hx => by simpa using List.all_eq_true.mp h x hx⟩
  · rintro ⟨f, hf, h⟩; exact ⟨f, hf, List.all_eq_true.mpr fun x hx => by simpa using h x hx⟩
theorem en_mono {H : List (List Int)} {a b : List Int} (s : ∀ x ∈ a, x ∈ b) (h : en H a = true) : en H b = true := by
  obtain ⟨f, hf, hs⟩ := en_iff.mp h
  exact en_iff.mpr ⟨f, hf, fun x hx => s x (hs x hx)⟩
theorem en_down {H : List (List Int)} {a b : List Int} (s : ∀ x ∈ a, x ∈ b) (h : en H b = false) : en H a = false := by
  cases q : en H a with
  | false => rfl
  | true => rw [en_mono s q] at h; cases h
theorem named_sub {H : List (List Int)} {ks f : List Int} (h : namedV H ks = some f) : f ∈ H ∧ ∀ x ∈ f, x ∈ ks :=
  by
  have h' : H.find? (fun one => sub one ks) = some f := h
  have h2 : sub f ks = true := List.find?_some (p := fun one => sub one ks) h'
  rw [sub, List.all_eq_true] at h2
  exact ⟨List.mem_of_find?_eq_some h', fun x hx => by simpa using h2 x hx⟩
theorem enV_none {H : List (List Int)} {dark ks : List Int} {most : Nat} {st st' : Nat × Bool} (e : enV H dark most st ks = (none, st')) : (st'.2 = true → en H ks = false ∧ st.2 = true) ∧ (dark = [] → st.1 < most → st'.2 = st.2) ∧ st'.1 ≤ st.1 + 1 := by
  unfold enV at e
  split at e
  · simp only [Prod.mk.injEq, true_and] at e; subst e
    rename_i h
    exact ⟨fun q => by simp at q, fun _ l => absurd l (by omega), by simp⟩
  · split at e
    · simp only [Prod.mk.injEq, true_and] at e; subst e
      rename_i h
      exact ⟨fun q => by simp at q, fun d _ => by rw [d] at h; simp at h, by simp⟩
    · split at e
      · rename_i h
        simp only [Prod.mk.injEq, true_and] at e; subst e
        exact ⟨fun q => ⟨by rw [en, h]; rfl, q⟩, fun _ _ => rfl, by simp⟩
      · simp at e
theorem enV_some {H : List (List Int)} {dark ks l : List Int} {most : Nat} {st st' : Nat × Bool} (e : enV H dark most st ks = (some l, st')) : (∃ f, namedV H ks = some f ∧ l = ks.filter fun x => (8 :: f.reverse).contains x) ∧ st'.2 = st.2 ∧ st'.1 = st.1 + 1 := by
  unfold enV at e
  split at e
  · simp at e
  · split at e
    · simp at e
    · split at e
      · simp at e
      · rename_i f h
        simp only [Prod.mk.injEq, Option.some.injEq] at e
        obtain ⟨a, b⟩ := e
        subst b
        exact ⟨⟨f, h, a.symm⟩, rfl, rfl⟩
theorem sub_filter {core l : List Int} (s : l.Sublist core) (nd : core.Nodup) : core.filter (fun k => l.contains k) = l := by
  induction s with
  | slnil => rfl
  | cons a s ih =>
    obtain ⟨h1, h2⟩ := List.nodup_cons.mp nd
    rw [List.filter_cons_of_neg (by simpa using fun q => h1 (s.subset q))]
    exact ih h2
  | cons_cons a s ih =>
    obtain ⟨h1, h2⟩ := List.nodup_cons.mp nd
    rw [List.filter_cons_of_pos (by simp)]
    congr 1
    rw [← ih h2]
    apply List.filter_congr
    intro x hx
    have : x ≠ a := fun q => h1 (by rw [← q]; exact hx)
    rw [ih h2]
    simp [this]
theorem ob_ok {H : List (List Int)} {dark : List Int} {most : Nat} : ∀ (n : Nat) {st st' : Nat × Bool} {kept rest l : List Int}, rest.length ≤ n → obV H dark most st kept rest = (l, st') → (kept ++ rest).Nodup →
    l.Sublist (kept ++ rest) ∧ (en H (kept ++ rest) = true → en H l = true) ∧ (st'.2 = true → st.2 = true ∧ ((∀ k ∈ kept, en H ((kept ++ rest).filter fun x => x != k) = false) → ∀ k ∈ l, en H (l.filter fun x => x != k) = false)) ∧ (dark = [] → st.1 + rest.length ≤ most → st'.2 = st.2)
  | n, st, st', kept, [], l, _, e, nd => by
    rw [obV] at e
    cases e
    rw [List.append_nil]
    exact ⟨List.Sublist.refl _, id, fun h => ⟨h, id⟩, fun _ _ => rfl⟩
  | 0, _, _, _, _ :: _, _, h, _, _ => by simp at h
  | n + 1, st, st', kept, key :: r, l, hn, e, nd => by
    rw [obV] at e
    have hr : r.length ≤ n := by simpa using hn
    cases q : enV H dark most st (kept ++ r) with
    | mk o st1 =>
      rw [q] at e
      cases o with
      | none =>
        have ea : kept ++ [key] ++ r = kept ++ key :: r := by simp
        obtain ⟨z1, z2, z3⟩ := enV_none q
        obtain ⟨y1, y2, y3, y4⟩ := ob_ok n hr e (by rw [ea]; exact nd)
        rw [ea] at y1 y2 y3
        refine ⟨y1, y2, fun h => ⟨(z1 (y3 h).1).2, fun hk => (y3 h).2 fun k hk' => ?_⟩, fun d lm => ?_⟩
        · rcases List.mem_append.mp hk' with m | m
          · exact hk k m
          · rw [List.mem_singleton.mp m]
            refine en_down (fun x hx => ?_) (z1 (y3 h).1).1
            obtain ⟨a, b⟩ := List.mem_filter.mp hx
            have b' : x ≠ key := by simpa using b
            rcases List.mem_append.mp a with m | m
            · exact List.mem_append_left _ m
            · exact (List.mem_cons.mp m).elim (fun q => absurd q b') fun m => List.mem_append_right _ m
        · simp only [List.length_cons] at lm
          rw [y4 d (by omega), z2 d (by omega)]
      | some less =>
        obtain ⟨⟨f, hf, hless⟩, z2, z3⟩ := enV_some q
        have hfs := named_sub hf
        have hlen := keepIn_length less r
        have ea : keepIn less kept ++ keepIn less r = (kept ++ r).filter fun x => less.contains x := by rw [keepIn, keepIn, List.filter_append]
        have s1 : (keepIn less kept ++ keepIn less r).Sublist (kept ++ r) := by rw [ea]; exact List.filter_sublist
        have s2 : (kept ++ r).Sublist (kept ++ key :: r) := (List.Sublist.refl kept).append (List.sublist_cons_self key r)
        obtain ⟨y1, y2, y3, y4⟩ := ob_ok n (by omega) e (List.Nodup.sublist (s1.trans s2) nd)
        refine ⟨y1.trans (s1.trans s2), fun _ => y2 (en_iff.mpr ⟨f, hfs.1, fun x hx => ?_⟩), fun h => ⟨by rw [← z2]; exact (y3 h).1, fun hk => (y3 h).2 fun k hk' => ?_⟩, fun d lm => ?_⟩
        · rw [ea, List.mem_filter]
          refine ⟨hfs.2 x hx, ?_⟩
          rw [hless]
          have hm := List.mem_append.mp (hfs.2 x hx)
          simp [hm, hx]
        · have hk'' : k ∈ kept := (List.mem_filter.mp hk').1
          refine en_down (fun x hx => ?_) (hk k hk'')
          obtain ⟨a, b⟩ := List.mem_filter.mp hx
          exact List.mem_filter.mpr ⟨(s1.trans s2).subset a, b⟩
        · simp only [List.length_cons] at lm
          rw [y4 d (by omega), z2]
theorem bh_ok {H : List (List Int)} {dark : List Int} {most : Nat} : ∀ (n : Nat) {st st' : Nat × Bool} {base sm l : List Int} {new : Bool}, sm.length ≤ n → 1 ≤ sm.length → bhV H dark most st base sm new = (l, st') →
    l.Sublist sm ∧ (en H (base ++ sm) = true → en H (base ++ l) = true) ∧ (st'.2 = true → st.2 = true ∧ ((new = false → en H base = false) → ∀ k ∈ l, en H ((base ++ l).filter fun x => x != k) = false)) ∧
    (dark = [] → st.1 + 2 * sm.length ≤ most → st'.2 = st.2 ∧ st'.1 + 1 ≤ st.1 + 2 * sm.length)
  | 0, _, _, _, _, _, _, h, h1, _ => by omega
  | n + 1, st, st', base, sm, l, new, hn, h1, e => by
    rw [bhV] at e
    have first : ∀ {o : Option (List Int)} {st1 : Nat × Bool}, (if new then enV H dark most st base else (none, st)) = (o, st1) →
        (o = none → (st1.2 = true → st.2 = true ∧ ((new = false → en H base = false) → en H base = false)) ∧ (dark = [] → st.1 < most → st1.2 = st.2) ∧ st1.1 ≤ st.1 + 1) ∧ (∀ l, o = Option.some l → en H base = true ∧ st1.2 = st.2 ∧ st1.1 = st.1 + 1) := fun {o st1} q => by
      cases new with
      | true =>
        simp only [if_true] at q
        refine ⟨fun ho => ?_, fun l ho => ?_⟩
        · subst ho
          obtain ⟨a, b, c⟩ := enV_none q
          exact ⟨fun h => ⟨(a h).2, fun _ => (a h).1⟩, b, c⟩
        · subst ho
          obtain ⟨⟨f, hf, _⟩, b, c⟩ := enV_some q
          exact ⟨by rw [en, hf]; rfl, b, c⟩
      | false =>
        simp only [Bool.false_eq_true, if_false, Prod.mk.injEq] at q
        obtain ⟨rfl, rfl⟩ := q
        exact ⟨fun _ => ⟨fun h => ⟨h, fun k => k rfl⟩, fun _ _ => rfl, Nat.le_succ _⟩, fun l ho => by cases ho⟩
    cases q : (if new then enV H dark most st base else (none, st)) with
    | mk o st1 =>
      rw [q] at e
      cases o with
      | some x =>
        cases e
        obtain ⟨a, b, c⟩ := (first q).2 x rfl
        exact ⟨List.nil_sublist _, fun _ => by rw [List.append_nil]; exact a, fun h => ⟨by rw [← b]; exact h, fun _ k hk => by cases hk⟩, fun _ _ => ⟨b, by omega⟩⟩
      | none =>
        obtain ⟨a, b, c⟩ := (first q).1 rfl
        dsimp only at e
        split at e
        · rename_i hlt
          cases e
          refine ⟨List.Sublist.refl _, id, fun h => ⟨(a h).1, fun hb k hk => en_down (fun x hx => ?_) ((a h).2 hb)⟩, fun d lm => ⟨b d (by omega), by omega⟩⟩
          obtain ⟨m1, m2⟩ := List.mem_filter.mp hx
          have hne : x ≠ k := by simpa using m2
          rcases List.mem_append.mp m1 with m | m
          · exact m
          · exfalso
            obtain ⟨y, rfl⟩ : ∃ y, sm = [y] := by
              match sm, hlt, h1 with
              | [y], _, _ => exact ⟨y, rfl⟩
            rw [List.mem_singleton] at m hk
            exact hne (m.trans hk.symm)
        · rename_i hlt
          cases q1 : bhV H dark most st1 (base ++ sm.take (sm.length / 2)) (sm.drop (sm.length / 2)) true with
          | mk late st2 =>
            rw [q1] at e
            dsimp only at e
            cases q2 : bhV H dark most st2 (base ++ late) (sm.take (sm.length / 2)) (!decide (late = [])) with
            | mk early st3 =>
              rw [q2] at e
              cases e
              have ld : (sm.drop (sm.length / 2)).length = sm.length - sm.length / 2 := List.length_drop
              have lt : (sm.take (sm.length / 2)).length = sm.length / 2 := by rw [List.length_take]; omega
              obtain ⟨u1, u2, u3, u4⟩ := bh_ok n (by omega) (by omega) q1
              obtain ⟨v1, v2, v3, v4⟩ := bh_ok n (by omega) (by omega) q2
              have es : sm.take (sm.length / 2) ++ sm.drop (sm.length / 2) = sm := List.take_append_drop _ _
              refine ⟨?_, fun h => ?_, fun h => ?_, fun d lm => ?_⟩
              · have := v1.append u1; rw [es] at this; exact this
              · have h2 := u2 (by rw [List.append_assoc, es]; exact h)
                have h3 := v2 (en_mono (fun x hx => by simp only [List.mem_append] at hx ⊢; rcases hx with (hx | hx) | hx <;> simp [hx]) h2)
                exact en_mono (fun x hx => by simp only [List.mem_append] at hx ⊢; rcases hx with (hx | hx) | hx <;> simp [hx]) h3
              · obtain ⟨s2, k2⟩ := v3 h
                obtain ⟨s1, k1⟩ := u3 s2
                obtain ⟨s0, kb⟩ := a s1
                refine ⟨s0, fun hb k hk => ?_⟩
                rcases List.mem_append.mp hk with m | m
                · refine en_down (fun x hx => ?_) (k2 (fun hl => ?_) k m)
                  · simp only [List.mem_filter, List.mem_append] at hx ⊢
                    obtain ⟨hx | hx | hx, y⟩ := hx <;> simp only [hx, true_or, or_true, true_and] <;> exact y
                  · have hl' : late = [] := by simpa using hl
                    rw [hl', List.append_nil]; exact kb hb
                · refine en_down (fun x hx => ?_) (k1 (fun q => by cases q) k m)
                  simp only [List.mem_filter, List.mem_append] at hx ⊢
                  obtain ⟨hx | hx | hx, y⟩ := hx
                  · simp only [hx, true_or, or_true, true_and]; exact y
                  · simp only [v1.subset hx, true_or, or_true, true_and]; exact y
                  · simp only [hx, true_or, or_true, true_and]; exact y
              · have c1 := b d (by omega)
                have u5 := u4 d
                rw [ld] at u5
                obtain ⟨c2, c3⟩ := u5 (by omega)
                have v5 := v4 d
                rw [lt] at v5
                obtain ⟨c4, c5⟩ := v5 (by omega)
                exact ⟨by rw [c4, c2, c1], by show st3.1 + 1 ≤ _; omega⟩
theorem isU_plain {H : List (List Int)} {n : Nat} {l : List Int} : isU H [] n l = (namedV H l).isSome := by
  rw [isU]; simp
theorem leastT_filter : ∀ {l : List Int} {k : Nat} (_ : l.Nodup) (h : k < l.length), leastT l k = l.filter fun x => x != l[k]
  | x :: r, 0, nd, _ => by
    obtain ⟨h1, _⟩ := List.nodup_cons.mp nd
    show r = _
    rw [List.filter_cons_of_neg (by simp)]
    exact (List.filter_eq_self.mpr fun y hy => by
      have : y ≠ x := fun q => h1 (by rw [← q]; exact hy)
      simpa using this).symm
  | x :: r, k + 1, nd, h => by
    obtain ⟨h1, h2⟩ := List.nodup_cons.mp nd
    have hk : k < r.length := by simpa using h
    show x :: leastT r k = _
    have : x ≠ r[k] := fun q => h1 (q ▸ List.getElem_mem hk)
    rw [leastT_filter h2 hk, List.filter_cons_of_pos (by simpa using this)]
    rfl
theorem ilV_plain {H : List (List Int)} {n : Nat} {l : List Int} (nd : l.Nodup) : ilV H [] n l = llV H l := by
  rw [ilV, llV, isU_plain]
  congr 1
  apply Bool.eq_iff_iff.mpr
  rw [List.all_eq_true, List.all_eq_true]
  constructor
  · intro h k hk
    obtain ⟨i, hi, rfl⟩ := List.getElem_of_mem hk
    have := h i (List.mem_range.mpr hi)
    rw [isS, leastT_filter nd hi] at this
    simpa using this
  · intro h i hi
    have hi' := List.mem_range.mp hi
    have := h l[i] (List.getElem_mem hi')
    rw [isS, leastT_filter nd hi']
    simpa using this
theorem ilV_dark {H : List (List Int)} {spot : Nat} {l : List Int} (h : spot ≤ l.length) : ilV H [(spot : Int)] 0 l = false := by
  rw [ilV]
  cases spot with
  | zero => rw [isU]; simp
  | succ j =>
    rw [Bool.and_eq_false_iff]
    right
    rw [List.all_eq_false]
    refine ⟨j, List.mem_range.mpr (by omega), ?_⟩
    rw [isS]
    have e : ((0 + 1 + j : Nat) : Int) = ((j + 1 : Nat) : Int) := by omega
    rw [e]
    simp
/-- what a shrunk row keeps -/
structure ShOk (H : List (List Int)) (dark : List Int) (most : Nat) (core l : List Int) (b : Bool) : Prop where
  sub : core.filter (fun k => l.contains k) = l
  some : (namedV H l).isSome = true
  sure : b = true → llV H l = true
  room : b = true ∨ dark ≠ [] ∨ most < 100
theorem ll_of {H : List (List Int)} {l : List Int} (h : en H l = true) (k : ∀ k ∈ l, en H (l.filter fun x => x != k) = false) : llV H l = true := by
  rw [llV, show (namedV H l).isSome = true from h, Bool.true_and, List.all_eq_true]
  intro x hx
  have := k x hx
  rw [en] at this
  cases q : namedV H (l.filter fun y => y != x) with
  | none => rfl
  | some f => rw [q] at this; cases this
theorem shV_ok {H : List (List Int)} {dark : List Int} {most : Nat} {core l : List Int} {b : Bool} (nd : core.Nodup) (hl : core.length ≤ 7) (hn : (namedV H core).isSome = true) (_hm : most = 1000 ∨ most < 100) (_hd : dark ≠ [] ∨ most = 1000) (hd2 : dark = [] → most = 1000) (e : shV H dark most core = (l, b)) : ShOk H dark most core l b := by
  have key : l.Sublist core ∧ en H l = true ∧ (b = true → ∀ k ∈ l, en H (l.filter fun x => x != k) = false) ∧ (dark = [] → b = true) := by
    rw [shV] at e
    split at e
    · rename_i h6
      cases q : obV H dark most (0, true) [] core with
      | mk l' st' =>
        rw [q] at e
        simp only [Prod.mk.injEq] at e
        obtain ⟨rfl, rfl⟩ := e
        obtain ⟨y1, y2, y3, y4⟩ := ob_ok core.length (Nat.le_refl _) q nd
        exact ⟨y1, y2 hn, fun h => (y3 h).2 fun k hk => (by cases hk), fun d => y4 d (by rw [hd2 d]; simp; omega)⟩
    · rename_i h6
      split at e
      · rename_i x st' q
        cases e
        obtain ⟨⟨f, hf, _⟩, _⟩ := enV_some q
        exact ⟨List.nil_sublist _, by rw [en, hf]; rfl, fun _ k hk => (by cases hk), fun _ => rfl⟩
      · rename_i st q
        cases q2 : bhV H dark most st [] core false with
        | mk l' st' =>
          rw [q2] at e
          simp only [Prod.mk.injEq] at e
          obtain ⟨rfl, rfl⟩ := e
          obtain ⟨z1, z2, z3⟩ := enV_none q
          obtain ⟨y1, y2, y3, y4⟩ := bh_ok core.length (Nat.le_refl _) (by omega) q2
          refine ⟨y1, y2 hn, fun h => (y3 h).2 fun _ => (z1 (y3 h).1).1, fun d => ?_⟩
          have hmm := hd2 d
          have z3' : st.1 ≤ 1 := z3
          rw [(y4 d (by omega)).1, z2 d (by rw [hmm]; decide)]
  obtain ⟨k1, k2, k3, k4⟩ := key
  refine ⟨sub_filter k1 nd, k2, fun h => ll_of k2 (k3 h), ?_⟩
  by_cases d : dark = []
  · exact .inl (k4 d)
  · exact .inr (.inl d)
end
section
section
variable {prog : Program} {w : World} {p : Program} {loose : List Str} {mean : ExcName → Option Value} {mg mb : Str → Option Value}
theorem isCore_P {A : Around} {s : Shared} {g : Heap} {L fn hid drk hrd kl : Addr} {m₀ : Str → Option Value} {news : List (Addr × Obj)} {g1 : Obj → List (Addr × Obj)} {H : List (List Int)} {its : Array Value} {n : Nat} {vs : List Value} {ks : List Int} {Q E : Value → Shared → Prop}
   (F : Fr g L s.heap m₀) (N : News g L s.heap news) (X : (hd.heap_1 w.params).In g) (T : Top p loose mean mg mb g) (x : AskFn w s.heap fn hid drk hrd) (hH : HidAt g hid H) (hHr : ∀ f ∈ H, f.length ≤ 100)
   (U1 : UpdF hrd (W.listOf its n) news g1) (hdk : s.heap.IsList drk #[]) (hdn : @Ne Nat drk hrd) (hh : A.handled = none) (hd : A.depth + 40 < recursionLimit) (hu : A.units + 600 < cLine) (hsz : its.size ≤ 1500)
   (hk : s.heap.IsList kl vs.toArray) (hi : IntsAre vs ks) (hlen : ks.length ≤ 50) (hne : @Ne Nat kl hrd) (hs : (namedV H ks).isSome = true)
   (hret : ∀ h' tk' its' n', its'.size = its.size + 1 → Fr g L h' m₀ → News g L h' (g1 (W.listOf its' n')) → Q (.bool true) { s with heap := h', toks := tk' }) :
   wpAny (model prog w) A (call (.ref 188) [.ref kl, .ref fn]) Q E s :=
  isCore_L (ds := []) F N X T x hH hHr U1 hdk .nil hdn hh hd hu hsz hk hi hlen hne fun h' tk' its' n' a b c => by rw [isU_plain, hs]; exact hret h' tk' its' n' a b c
theorem isLeast_P {A : Around} {s : Shared} {g : Heap} {L fn hid drk hrd kl : Addr} {m₀ : Str → Option Value} {news : List (Addr × Obj)} {g1 : Obj → List (Addr × Obj)} {H : List (List Int)} {its : Array Value} {n : Nat} {vs : List Value} {ks : List Int} {Q E : Value → Shared → Prop}
   (F : Fr g L s.heap m₀) (N : News g L s.heap news) (X : (hd.heap_1 w.params).In g) (T : Top p loose mean mg mb g) (x : AskFn w s.heap fn hid drk hrd) (hH : HidAt g hid H) (hHr : ∀ f ∈ H, f.length ≤ 100)
   (U1 : UpdF hrd (W.listOf its n) news g1) (hdk : s.heap.IsList drk #[]) (hdn : @Ne Nat drk hrd) (hh : A.handled = none) (hd : A.depth + 60 < recursionLimit) (hu : A.units + 1000 < cLine) (hsz : its.size ≤ 1000)
   (hk : s.heap.IsList kl vs.toArray) (hi : IntsAre vs ks) (hlen : ks.length ≤ 50) (hne : @Ne Nat kl hrd) (nd : ks.Nodup)
   (hret : ∀ h' tk' its' n', its'.size ≤ its.size + ks.length + 1 → Fr g L h' m₀ → News g L h' (g1 (W.listOf its' n')) → Q (.bool (llV H ks)) { s with heap := h', toks := tk' }) :
   wpAny (model prog w) A (call (.ref 195) [.ref kl, .ref fn]) Q E s :=
  isLeast_L (ds := []) F N X T x hH hHr U1 hdk .nil hdn hh hd hu hsz hk hi hlen hne fun h' tk' its' n' a b c => by rw [ilV_plain nd]; exact hret h' tk' its' n' a b c
theorem isLeast_D {A : Around} {s : Shared} {g : Heap} {L fn hid drk hrd kl : Addr} {m₀ : Str → Option Value} {news : List (Addr × Obj)} {g1 : Obj → List (Addr × Obj)} {H : List (List Int)} {n nd i : Nat} {vs : List Value} {ks : List Int} {t : Tok} {Q E : Value → Shared → Prop}
   (F : Fr g L s.heap m₀) (N : News g L s.heap news) (X : (hd.heap_1 w.params).In g) (T : Top p loose mean mg mb g) (x : AskFn w s.heap fn hid drk hrd) (hH : HidAt g hid H) (hHr : ∀ f ∈ H, f.length ≤ 100)
   (U1 : UpdF hrd (W.listOf #[] n) news g1) (hdk : (drk, W.listOf [Value.int (0 + (i : Int)) t].toArray nd) ∈ news) (hdn : @Ne Nat drk hrd) (hh : A.handled = none) (hd : A.depth + 60 < recursionLimit) (hu : A.units + 1000 < cLine)
   (hk : s.heap.IsList kl vs.toArray) (hi : IntsAre vs ks) (hlen : ks.length ≤ 50) (hne : @Ne Nat kl hrd) (hs : i < ks.length + 1)
   (hret : ∀ h' tk' its' n', Fr g L h' m₀ → News g L h' (g1 (W.listOf its' n')) → Q (.bool false) { s with heap := h', toks := tk' }) :
   wpAny (model prog w) A (call (.ref 195) [.ref kl, .ref fn]) Q E s :=
  isLeast_L (ds := [.int (0 + (i : Int)) t]) (dark := [(i : Int)]) F N X T x hH hHr U1 (News.isList N hdk) (by rw [Int.zero_add]; exact .cons _ _ .nil) hdn hh hd hu (by decide) hk hi hlen hne fun h' tk' its' n' a b c => by
    have e := ilV_dark (H := H) (Nat.le_of_lt_succ hs)
    show Q (.bool (ilV H [(i : Int)] 0 ks)) _
    rw [e]; exact hret h' tk' its' n' b c
theorem named_P {A : Around} {s : Shared} {g : Heap} {L hid kl : Addr} {m₀ : Str → Option Value} {news : List (Addr × Obj)} {H : List (List Int)} {vs : List Value} {ns : List Int} {Q E : Value → Shared → Prop}
   (F : Fr g L s.heap m₀) (N : News g L s.heap news) (X : (hd.heap_1 w.params).In g) (T : Top p loose mean mg mb g) (hh : A.handled = none) (hd : A.depth + 10 < recursionLimit) (hu : A.units + 200 < cLine)
   (hH : HidAt g hid H) (hk : s.heap.IsList kl vs.toArray) (hi : IntsAre vs ns) (hHr : ∀ f ∈ H, f.length ≤ 100) (hs : (namedV H ns).isSome = true)
   (hret : ∀ h' tk' a, Fr g L h' m₀ → News g L h' news → Q (.ref a) { s with heap := h', toks := tk' }) :
   wpAny (model prog w) A (call (.ref 228) [.ref hid, .ref kl]) Q E s :=
  named_K F N X T hh hd hu hH hk hi hHr fun h' tk' r F' N' o => by
    rcases o with ⟨_, e⟩ | ⟨a, _, _, rfl, _⟩
    · rw [e] at hs; cases hs
    · exact hret _ _ _ F' N'
/-- a test that is false on every way -/
theorem isTrue_no {A : Around} {s : Shared} {g : Heap} {L : Addr} {m₀ : Str → Option Value} {news : List (Addr × Obj)} {test : Expr} {env : Env} {Q : Bool → Shared → Prop} {E : Value → Shared → Prop} (_F : Fr g L s.heap m₀) (_N : News g L s.heap news)
   (h : wpAny (model prog w) A (isTrue test env (eval test env)) (fun b s' => b = false ∧ ∃ h' tk', s' = { s with heap := h', toks := tk' } ∧ Fr g L h' m₀ ∧ News g L h' news) E s)
   (k : ∀ h' tk', Fr g L h' m₀ → News g L h' news → Q false { s with heap := h', toks := tk' }) : wpAny (model prog w) A (isTrue test env (eval test env)) Q E s :=
  wpAny_mono h (fun _ _ ⟨e, h', tk', es, F', N'⟩ => by subst e; subst es; exact k h' tk' F' N') fun _ _ e => e
end
end
section
theorem lines_ShA : True := by
  w_top off
  k_with_none
  (k_with "my_pj" => (with_reducible first | assumption | exact Mine.pj1l (by assumption) | exact Mine.pj1r (by assumption) | exact Mine.pj2l (by assumption) | exact Mine.pj2r (by assumption) | exact Mine.pj3l (by assumption) | exact Mine.pj3r (by assumption) | exact Mine.pj4l (by assumption) | exact Mine.pj4r (by assumption) | exact Mine.pj5l (by assumption) | exact Mine.pj5r (by assumption) | exact Mine.pj6l (by assumption) | exact Mine.pj6r (by assumption) | exact Mine.pj7l (by assumption) | exact Mine.pj7r (by assumption) | exact Mine.pj8l (by assumption) | exact Mine.pj8r (by assumption) | exact Mine.pj9l (by assumption) | exact Mine.pj9r (by assumption) | exact Mine.pj10l (by assumption) | exact Mine.pj10r (by assumption) | exact Mine.pj11l (by assumption) | exact Mine.pj11r (by assumption) | exact Mine.pj12l (by assumption) | exact Mine.pj12r (by assumption) | exact Mine.pj13l (by assumption) | exact Mine.pj13r (by assumption) | exact Mine.pj14l (by assumption) | exact Mine.pj14r (by assumption) | exact Mine.pj15l (by assumption) | exact Mine.pj15r (by assumption) | exact Mine.pj16l (by assumption) | exact Mine.pj16r (by assumption)))
  (k_with "my_ne" => (refine neN ?_; (try dsimp only); first | with_reducible assumption | exact Ne.symm (by with_reducible assumption) | (refine Mine.neOr ?_; simp only [*, true_or, or_true, ne_eq, not_false_eq_true]; done) | (refine Ne.symm (Mine.neOr ?_); simp only [*, true_or, or_true, ne_eq, not_false_eq_true]; done) | omega))
  (k_with "my_room" => first | exact room1 (by with_reducible assumption) rfl rfl | exact room0 (by with_reducible assumption) rfl rfl | ((simp only [Around.deeper, Around.in1, recursionLimit, cLine] at *); omega))
  (k_with "my_fill" => ((have hfill : (fun (_ : OpenLaw) (_ : Params → Frag) => True) PySem.Challenge.rw_rg0207_01 Mine.hd.heap_1 := by k_fill; trivial); clear hfill))
  (k_with "my_in" => ((case k6 => k_is); (case k7 => k_is); (case k8 => first | exact Nat.lt_of_le_of_lt (Nat.le_add_right _ _) (by with_reducible assumption) | (simp only [recursionLimit] at *; omega)); (case k9 => first | exact BindsTo.of_eq rfl | exact binds_K (Frag.In.keeps (by assumption) (by assumption)) rfl (by k_is) rfl rfl rfl); (case c5 => decide); (case kB => exact locs rfl); (case c2 => exact rfl); (case c3 => exact rfl); (case c4 => exact rfl)))
  (k_with "my_sub" => repeat' (first | exact List.forall_mem_nil _ | refine List.forall_mem_cons.mpr ⟨?_, ?_⟩ | k_mem))
  (k_with "exec For Name Call cons nil" => (k_here; k_dflt (refine my_For ?_)))
  (k_with "exec For Name Name cons nil" => (k_here; k_dflt (refine my_For ?_)))
  (k_with "newTuple" => (k_here; k_dflt (refine my_newTuple (by k_asm) (by k_asm) ?_ (by size_fits); k_whole); intro l' h' F' N' l1; (try k_lt l1); (try k_sweep)))
  (k_with "call type:range" => (k_here; (with_reducible rename Fr _ _ _ _ => F'); (with_reducible rename News _ _ _ _ => N'); first | (with_unfolding_all refine range1_rows F' N' ?_; intro h' tk' t' u' v' R' F' N' k'; (try k_sweep)) | (with_unfolding_all refine range2_rows F' N' ?_; intro h' tk' t' u' v' R' F' N' k'; (try k_sweep))))
  (k_with "my_inC" => ((case k6 => k_is); (case k7 => k_is); (case k8 => first | exact Nat.lt_of_le_of_lt (Nat.le_add_right _ _) (by with_reducible assumption) | (simp only [recursionLimit] at *; omega)); (case k9 => exact BindsTo.of_eq rfl); (case kB => exact rfl); (case kD => decide +kernel); (case c2 => exact rfl); (case c3 => exact rfl); (case c4 => exact rfl)))
  (k_with "eval Name" => (k_here; kc_free; k_dflt (refine name_free (by k_asm) (by rfl) (by assumption) (by assumption) ?_ (by rfl) (by rfl); k_whole)))
  (k_with "last call builtin:len" => (k_here; k_dflt (refine call_len_list (by is_list) (by ((try simp only [Array.size_push, List.size_toArray]); omega)) ?_; k_whole); (try simp only [Array.size_push])))
  (k_with "my_ints" => first | assumption | l_ints | l_intsW)
  (k_with "my_fit" => ((try simp only [sizeLine_eq, List.length_append, List.length_cons, List.length_nil, List.length_reverse, List.length_map, List.size_toArray, Array.size_push]); omega))
  (k_with "binaryOp Add ref ref" => (k_here; (with_reducible show wpAny _ _ (binaryOp _ (Value.ref _) (Value.ref _)) _ _ _); k_dflt (refine my_addL (by k_asm) (by k_asm) (by kmk_list) (by kmk_list) (by k_extra "my_ints") (by k_extra "my_ints") ?_ (by k_extra "my_fit"); k_whole); intro D' h' F' N' l1 hI'; (try k_lt l1); (try k_sweep)))
  (k_with "exec While Compare cons nil" => (k_here; k_dflt (refine my_While ?_)))
  (k_with "my_len" => ((try simp only [Around.deeper, Around.in1, recursionLimit, cLine, List.length_append, List.length_take, List.length_drop, List.length_cons, List.length_nil] at *); omega))
  (k_with "eval ListComp" => (k_here; first | (lct_look; k_dflt (refine LCt.ListComp_T (F₀ := by k_asm) (by with_unfolding_all rfl) (by decide) (by rfl) (by decide) (by rfl) ?_)) | k_dflt (refine LCg.ListComp_U (F₀ := by k_asm) (by with_unfolding_all rfl) (by decide) (by rfl) (by decide) (by rfl) ?_)))
  (k_with "exec Assign cons ListComp" => (k_here; first | (lct_look; k_dflt (refine LCt.Assign_ListComp_T (F₀ := by k_asm) (by rfl) (by with_unfolding_all rfl) (by with_unfolding_all rfl) (by decide) (by rfl) (by decide) (by rfl) (by rfl) (by rfl) ?_)) | k_dflt (refine LCg.Assign_ListComp_U (F₀ := by k_asm) (by rfl) (by with_unfolding_all rfl) (by with_unfolding_all rfl) (by decide) (by rfl) (by decide) (by rfl) (by rfl) (by rfl) ?_)))
  (k_with "call ref" => (k_here; (with_reducible show wpAny _ _ (call (Value.ref 228) _) _ _ _); k_dflt (refine named_K (by k_asm) (by k_asm) (by k_asm) (by k_asm) (by rfl) (by k_extra "my_room") (by k_extra "my_room") (by assumption) (by is_list) (by first | assumption | l_ints | l_intsW) (by assumption) ?_; k_whole); intro h' tk' rK F' N' hNm; (try k_sweep); (rcases hNm with ⟨hr', eNm⟩ | ⟨aN, vsN, fN, hr', eNm, hlN, hiN⟩ <;> subst hr'); all_goals (try (have hzN := named_len (by assumption) eNm hiN; have hfN := named_len2 (by assumption) eNm))))
  (k_with "my_fn" => exact AskL.fn (by with_reducible assumption) (by k_asm) (Heap.CodeRec.keeps (by with_reducible assumption) (Fr.keep (by k_asm))) (by k_mem) (by k_mem) (by k_mem) (by k_mem))
  (k_with "my_intsN" => first | assumption | exact IntsAre.nil | l_ints | l_intsW | exact IntsAre.cons _ _ IntsAre.nil)
  (k_with "call ref" => (k_here; (with_reducible show wpAny _ _ (call (Value.ref 235) _) _ _ _); k_dflt (refine asker_K (by k_asm) (by k_asm) (by k_asm) (by k_asm) (by with_reducible assumption) (by k_mem) (by with_reducible assumption) (Heap.CodeRec.keeps (by with_reducible assumption) (Fr.keep (by k_asm))) (by rfl) (by k_extra "my_room") (by k_extra "my_room") ?_); intro h' tk' rA cA1 cA2 cA3 foA oA1 oA2 oA3 owA hAL F' N' nA nA1 nA2 nA3; clear owA; (replace nA := allNe_of nA); (replace nA1 := allNe_of nA1); (replace nA2 := allNe_of nA2); (replace nA3 := allNe_of nA3); ((replace nA := Mine.toNe2 nA); dsimp only [↓Mine.ne2_cons, ↓Mine.ne2_one, ↓Mine.ne2_nil] at nA; (replace nA1 := Mine.toNe2 nA1); dsimp only [↓Mine.ne2_cons, ↓Mine.ne2_one, ↓Mine.ne2_nil] at nA1; (replace nA2 := Mine.toNe2 nA2); dsimp only [↓Mine.ne2_cons, ↓Mine.ne2_one, ↓Mine.ne2_nil] at nA2; (replace nA3 := Mine.toNe2 nA3); dsimp only [↓Mine.ne2_cons, ↓Mine.ne2_one, ↓Mine.ne2_nil] at nA3); (try k_sweep)))
  (k_with "call ref" => (k_here; (with_reducible show wpAny _ _ (call (Value.ref 181) _) _ _ _); k_dflt (refine shrink_L (by k_asm) (by k_asm) (by k_asm) (by k_asm) (by k_extra "my_fn") (by with_reducible assumption) (by with_reducible assumption) (by k_updF) (by is_list) (by k_extra "my_intsN") (by first | exact baseNe (by with_reducible assumption) (by k_asm) (by k_mem) | k_ne) (by rfl) (by k_extra "my_room") (by k_extra "my_room") (by is_list) (by k_extra "my_ints") (by k_extra "my_fit") (by k_ne) ?_); intro h' tk' tS rS usS lS naS itsS nS bS hSh F' N' nt nr ntr hIr; (replace nt := allNe_of nt); (replace nr := allNe_of nr); ((replace nt := Mine.toNe2 nt); dsimp only [↓Mine.ne2_cons, ↓Mine.ne2_one, ↓Mine.ne2_nil] at nt; (replace nr := Mine.toNe2 nr); dsimp only [↓Mine.ne2_cons, ↓Mine.ne2_one, ↓Mine.ne2_nil] at nr); (try k_sweep)))
  (k_with "call ref" => (k_here; (with_reducible show wpAny _ _ (call (Value.ref 188) _) _ _ _); k_dflt (refine isCore_L (by k_asm) (by k_asm) (by k_asm) (by k_asm) (by k_extra "my_fn") (by with_reducible assumption) (by with_reducible assumption) (by k_updF) (by is_list) (by k_extra "my_intsN") (by first | exact baseNe (by with_reducible assumption) (by k_asm) (by k_mem) | k_ne) (by rfl) (by k_extra "my_room") (by k_extra "my_room") (by k_extra "my_size") (by is_list) (by k_extra "my_ints") (by k_extra "my_fit") (by k_ne) ?_); intro h' tk' itsC nC hSzC F' N'; (try k_sweep)))
  (k_with "call ref" => (k_here; (with_reducible show wpAny _ _ (call (Value.ref 195) _) _ _ _); k_dflt (refine isLeast_D (by k_asm) (by k_asm) (by k_asm) (by k_asm) (by k_extra "my_fn") (by with_reducible assumption) (by with_reducible assumption) (by k_updF) (by k_mem) (by k_ne) (by rfl) (by k_extra "my_room") (by k_extra "my_room") (by is_list) (by k_extra "my_ints") (by k_extra "my_fit") (by k_ne) (by with_reducible assumption) ?_); intro h' tk' itsL nL F' N'; (try k_sweep)))
  (k_with "call ref" => (k_here; (with_reducible show wpAny _ _ (call (Value.ref 245) _) _ _ _); k_dflt (refine lleast_K (by k_asm) (by k_asm) (by k_asm) (by k_asm) (by rfl) (by k_extra "my_room") (by k_extra "my_room") (by with_reducible assumption) (by is_list) (by k_extra "my_ints") (by k_extra "my_fit") (by with_reducible assumption) ?_); intro h' tk' F' N'; (try k_sweep)))
  (k_with "call ref" => (k_here; (with_reducible show wpAny _ _ (call (Value.ref 250) _) _ _ _); k_dflt (refine written_K (by k_asm) (by k_asm) (by k_asm) (by k_asm) (by rfl) (by k_extra "my_room") (by k_extra "my_room") (by is_list) (by k_extra "my_ints") (by k_extra "my_range") (by k_extra "my_fit") ?_); intro h' tk' F' N'; (try k_sweep)))
  (k_with "my_range" => assumption)
  (k_with "my_size" => first | with_reducible assumption | omega | exact (by decide) | (simp; done) | (simp at *; omega))
  (k_with "call ref" => (k_here; (with_reducible show wpAny _ _ (call (Value.ref 223) _) _ _ _); k_dflt (refine keys_K (by k_asm) (by k_asm) (by k_asm) (by k_asm) (by k_updF) (by assumption) (by rfl) (by k_extra "my_room") (by k_extra "my_room") (by is_list) (by assumption) (by assumption) (by omega) (by omega) (by omega) (by omega) ?_; k_whole); intro h' tk' rK vsK nK foundsK foK tiK kk F' N' lr hfo' hk0 hk1 hv hnd hrg hlen'; (replace lr := allNe_of lr); ((replace lr := Mine.toNe2 lr); dsimp only [↓Mine.ne2_cons, ↓Mine.ne2_one, ↓Mine.ne2_nil] at lr); (try k_sweep)))
  (k_with "call ref" => (k_here; (with_reducible show wpAny _ _ (call (Value.ref 188) _) _ _ _); k_dflt (refine isCore_P (by k_asm) (by k_asm) (by k_asm) (by k_asm) (by k_extra "my_fn") (by with_reducible assumption) (by with_reducible assumption) (by k_updF) (by is_list) (by first | exact baseNe (by with_reducible assumption) (by k_asm) (by k_mem) | k_ne) (by rfl) (by k_extra "my_room") (by k_extra "my_room") (by k_extra "my_size") (by is_list) (by k_extra "my_ints") (by k_extra "my_fit") (by k_ne) (by with_reducible assumption) ?_); intro h' tk' itsC nC hSzC F' N'; (try k_sweep)))
  (k_with "call ref" => (k_here; (with_reducible show wpAny _ _ (call (Value.ref 195) _) _ _ _); k_dflt (refine isLeast_P (by k_asm) (by k_asm) (by k_asm) (by k_asm) (by k_extra "my_fn") (by with_reducible assumption) (by with_reducible assumption) (by k_updF) (by is_list) (by first | exact baseNe (by with_reducible assumption) (by k_asm) (by k_mem) | k_ne) (by rfl) (by k_extra "my_room") (by k_extra "my_room") (by k_extra "my_size") (by is_list) (by k_extra "my_ints") (by k_extra "my_fit") (by k_ne) (by with_reducible assumption) ?_); intro h' tk' itsL nL hSzL F' N'; (try k_sweep)))
  (k_with "call ref" => (k_here; (with_reducible show wpAny _ _ (call (Value.ref 228) _) _ _ _); k_dflt (refine named_P (by k_asm) (by k_asm) (by k_asm) (by k_asm) (by rfl) (by k_extra "my_room") (by k_extra "my_room") (by with_reducible assumption) (by is_list) (by k_extra "my_ints") (by with_reducible assumption) (by with_reducible assumption) ?_); intro h' tk' aN F' N'; (try k_sweep)))
  (k_with "CompSrcT" => (refine my_Src ?_))
  (k_with "CompSrcT" => (refine my_Src ?_))
  trivial
def MySrc (P : Prop) : Prop := P
theorem my_Src {P : Prop} (h : MySrc P) : P := h
def fnParts (K : Frag) (a : Addr) : Option (Str × Scope × List Stmt) := match K.lookup a with
  | some ⟨_, _, .func fd, _⟩ => (match fd.body with
    | .stmts b => some (fd.qualname, fd.scope, b)
    | _ => none)
  | _ => none
def MyRest (prog : Program) (w : World) (A : Around) (b : List Stmt) (env : Env) (Q : Flow → Shared → Prop) (E : Value → Shared → Prop) (s : Shared) : Prop := wpAny (model prog w) A (execs b env) Q E s
theorem my_Rest {prog : Program} {w : World} {A : Around} {b : List Stmt} {env : Env} {Q : Flow → Shared → Prop} {E : Value → Shared → Prop} {s : Shared} (h : MyRest prog w A b env Q E s) : wpAny (model prog w) A (execs b env) Q E s := h
/-- the last two statements -/
theorem shTail2 {prog : Program} {w : World} {p : Program} {loose : List Str} {mean : ExcName → Option Value} {mg mb : Str → Option Value} {A : Around} {s : Shared} {g : Heap} {L fl hid drk c' Dc rS : Addr} {m₀ : Str → Option Value} {foK to o1 o2 o3 : Obj} {vc us ds : List Value} {core l dark : List Int} {H : List (List Int)} {most nC nl : Nat} {tm : Tok} {b : Bool} {qual : Str} {scope : Scope} {body : List Stmt} {Q : Flow → Shared → Prop}
   (X : (hd.heap_1 w.params).In g) (T : Top p loose mean mg mb g) (C : CodeHd g 234 230) (e : fnParts (hd.heap_1 w.params) 255 = some (qual, scope, body)) (hh : A.handled = none) (hd : A.depth + 190 < recursionLimit) (hu : A.units + 3800 < cLine)
   (F : Fr g L s.heap m₀) (N : News g L s.heap [(Dc, W.listOf vc.toArray nC), (rS, W.listOf us.toArray nl), (L + 1, o1), (L + 1 + 1, o2), (L + 1 + 1 + 1, o3), (fl, foK), (230, to)])
   (hto : TabAt w to c') (hcr : g.CodeRec (.ref c') askQual) (hH : HidAt g hid H) (hHr : ∀ f ∈ H, f.length ≤ 100) (hdk : g.IsList drk ds.toArray) (hdi : IntsAre ds dark) (hdl : dark.length ≤ 50)
   (d1 : o1.data = .cell (some (.ref hid))) (d2 : o2.data = .cell (some (.ref Dc))) (d3 : o3.data = .cell (some (.ref rS))) (m1 : m₀ (Str.ofString "is_sure") = some (.bool b)) (m2 : m₀ (Str.ofString "dark") = some (.ref drk)) (m3 : m₀ (Str.ofString "most") = some (.int most tm))
   (hvc : IntsAre vc core) (hus : IntsAre us l) (hcl : core.length ≤ 7) (hll : l.length ≤ 7) (hr1 : ∀ x ∈ core, 0 ≤ x ∧ x ≤ 7) (hr2 : ∀ x ∈ l ++ [0], 0 ≤ x ∧ x ≤ 7) (hroom : b = true ∨ dark ≠ [] ∨ most < 100)
   (k1 : @Ne Nat Dc rS) (k2 : @Ne Nat Dc fl) (k3 : @Ne Nat rS fl) (k4 : @Ne Nat Dc 230) (k5 : @Ne Nat rS 230) (k6 : fl < L ∧ 230 < L) (k7 : L + 1 + 1 + 1 < Dc) (k8 : @Ne Nat (L + 1 + 1 + 1) rS ∧ @Ne Nat (L + 1 + 1) rS ∧ @Ne Nat (L + 1) rS)
   (hret : ∀ h' tk' m', Fr g L h' m' → h'.get? fl = some foK → h'.get? 230 = some to → Q (.ret (.bool true)) { s with heap := h', toks := tk' }) :
   wpAny (model prog w) A (execs (body.drop 6) (envOfC qual scope L 255 (.ref 254))) Q (fun _ _ => False) s := by
  k_extra "my_fill"
  refine' ask_have (a := fnParts (Mine.hd.heap_1 w.params) 255) ?el ?k
  case el => with_unfolding_all rfl
  intro e'
  rw [e'] at e
  cases e
  obtain ⟨_, dp, fr, gd, un⟩ := A
  obtain rfl : _ = none := hh
  have hvcl : vc.toArray.size ≤ 100 := by rw [List.size_toArray, hvc.length]; omega
  have husl : us.toArray.size ≤ 100 := by rw [List.size_toArray, hus.length]; omega
  rw [pin m1, pin m2, pin m3] at F
  show wpAny _ _ (execs [_, _] _) _ _ _
  k_steps
  rename Fr _ _ _ _ => F'
  rename News _ _ _ _ => N'
  rename IsRange _ _ _ _ _ _ _ _ => R'
  unfold MySrc
  refine LCt.CompSrcT.range (n := l.length + 1) rfl F' N' R' (rsmall (by omega) (by omega)) (by rw [rsize (by omega)]; rfl) (by rw [sizeLine_eq]; omega) fun g' => restT_ind (n := l.length + 1) (fun i ys nw => ys = [] ∧ nw = _) (fun ys nw hj => ?fin) (fun i ys nw v I oI C oC D m₂ h tk E' hlt hj hP hC hx F₁ N₁ off ne => ?turn) _ 0 [] _ (by omega) ⟨rfl, rfl⟩
  case turn =>
    clear F' N' R'
    obtain ⟨rfl, rfl⟩ := hj
    obtain ⟨t, rfl⟩ := hP
    k_steps
    rename Fr _ _ _ _ => F'
    rename News _ _ _ _ => N'
    exact LCg.CompEnd.intro F' N' _ (by k_extra "my_sub") off trivial ⟨rfl, rfl⟩
  case fin =>
    clear F' N' R'
    obtain ⟨rfl, rfl⟩ := hj
    k_steps
    all_goals (
      rename Fr _ _ _ _ => F'
      rename News _ _ _ _ => N'
      have rf := (N' (fl, foK) (by k_mem)).1
      have rf2 := (N' (230, to) (by k_mem)).1
      have fin := fun tk' => hret _ tk' _ F' rf rf2)
    · rename b = true => hb
      rw [hb]; exact fin _
    · rename b = false => hb
      rename decide (dark = []) = true => hdk
      have e : decide ((most : Int) < 100) = true := by
        rcases hroom with q | q | q
        · rw [q] at hb; cases hb
        · simp [q] at hdk
        · exact decide_eq_true (by omega)
      rw [e]; exact fin _
    · rename decide (dark = []) = false => hdk
      rw [hdk]; exact fin _
end
section
theorem lines_ShB : True := by
  w_top off
  k_with_none
  (k_with "my_pj" => (with_reducible first | assumption | exact Mine.pj1l (by assumption) | exact Mine.pj1r (by assumption) | exact Mine.pj2l (by assumption) | exact Mine.pj2r (by assumption) | exact Mine.pj3l (by assumption) | exact Mine.pj3r (by assumption) | exact Mine.pj4l (by assumption) | exact Mine.pj4r (by assumption) | exact Mine.pj5l (by assumption) | exact Mine.pj5r (by assumption) | exact Mine.pj6l (by assumption) | exact Mine.pj6r (by assumption) | exact Mine.pj7l (by assumption) | exact Mine.pj7r (by assumption) | exact Mine.pj8l (by assumption) | exact Mine.pj8r (by assumption) | exact Mine.pj9l (by assumption) | exact Mine.pj9r (by assumption) | exact Mine.pj10l (by assumption) | exact Mine.pj10r (by assumption) | exact Mine.pj11l (by assumption) | exact Mine.pj11r (by assumption) | exact Mine.pj12l (by assumption) | exact Mine.pj12r (by assumption) | exact Mine.pj13l (by assumption) | exact Mine.pj13r (by assumption) | exact Mine.pj14l (by assumption) | exact Mine.pj14r (by assumption) | exact Mine.pj15l (by assumption) | exact Mine.pj15r (by assumption) | exact Mine.pj16l (by assumption) | exact Mine.pj16r (by assumption)))
  (k_with "my_ne" => (refine neN ?_; (try dsimp only); first | with_reducible assumption | exact Ne.symm (by with_reducible assumption) | (refine Mine.neOr ?_; simp only [*, true_or, or_true, ne_eq, not_false_eq_true]; done) | (refine Ne.symm (Mine.neOr ?_); simp only [*, true_or, or_true, ne_eq, not_false_eq_true]; done) | omega))
  (k_with "my_room" => first | exact room1 (by with_reducible assumption) rfl rfl | exact room0 (by with_reducible assumption) rfl rfl | ((simp only [Around.deeper, Around.in1, recursionLimit, cLine] at *); omega))
  (k_with "my_fill" => ((have hfill : (fun (_ : OpenLaw) (_ : Params → Frag) => True) PySem.Challenge.rw_rg0207_01 Mine.hd.heap_1 := by k_fill; trivial); clear hfill))
  (k_with "my_in" => ((case k6 => k_is); (case k7 => k_is); (case k8 => first | exact Nat.lt_of_le_of_lt (Nat.le_add_right _ _) (by with_reducible assumption) | (simp only [recursionLimit] at *; omega)); (case k9 => first | exact BindsTo.of_eq rfl | exact binds_K (Frag.In.keeps (by assumption) (by assumption)) rfl (by k_is) rfl rfl rfl); (case c5 => decide); (case kB => exact locs rfl); (case c2 => exact rfl); (case c3 => exact rfl); (case c4 => exact rfl)))
  (k_with "my_sub" => repeat' (first | exact List.forall_mem_nil _ | refine List.forall_mem_cons.mpr ⟨?_, ?_⟩ | k_mem))
  (k_with "exec For Name Call cons nil" => (k_here; k_dflt (refine my_For ?_)))
  (k_with "exec For Name Name cons nil" => (k_here; k_dflt (refine my_For ?_)))
  (k_with "newTuple" => (k_here; k_dflt (refine my_newTuple (by k_asm) (by k_asm) ?_ (by size_fits); k_whole); intro l' h' F' N' l1; (try k_lt l1); (try k_sweep)))
  (k_with "call type:range" => (k_here; (with_reducible rename Fr _ _ _ _ => F'); (with_reducible rename News _ _ _ _ => N'); first | (with_unfolding_all refine range1_rows F' N' ?_; intro h' tk' t' u' v' R' F' N' k'; (try k_sweep)) | (with_unfolding_all refine range2_rows F' N' ?_; intro h' tk' t' u' v' R' F' N' k'; (try k_sweep))))
  (k_with "my_inC" => ((case k6 => k_is); (case k7 => k_is); (case k8 => first | exact Nat.lt_of_le_of_lt (Nat.le_add_right _ _) (by with_reducible assumption) | (simp only [recursionLimit] at *; omega)); (case k9 => exact BindsTo.of_eq rfl); (case kB => exact rfl); (case kD => decide +kernel); (case c2 => exact rfl); (case c3 => exact rfl); (case c4 => exact rfl)))
  (k_with "eval Name" => (k_here; kc_free; k_dflt (refine name_free (by k_asm) (by rfl) (by assumption) (by assumption) ?_ (by rfl) (by rfl); k_whole)))
  (k_with "last call builtin:len" => (k_here; k_dflt (refine call_len_list (by is_list) (by ((try simp only [Array.size_push, List.size_toArray]); omega)) ?_; k_whole); (try simp only [Array.size_push])))
  (k_with "my_ints" => first | assumption | l_ints | l_intsW)
  (k_with "my_fit" => ((try simp only [sizeLine_eq, List.length_append, List.length_cons, List.length_nil, List.length_reverse, List.length_map, List.size_toArray, Array.size_push]); omega))
  (k_with "binaryOp Add ref ref" => (k_here; (with_reducible show wpAny _ _ (binaryOp _ (Value.ref _) (Value.ref _)) _ _ _); k_dflt (refine my_addL (by k_asm) (by k_asm) (by kmk_list) (by kmk_list) (by k_extra "my_ints") (by k_extra "my_ints") ?_ (by k_extra "my_fit"); k_whole); intro D' h' F' N' l1 hI'; (try k_lt l1); (try k_sweep)))
  (k_with "exec While Compare cons nil" => (k_here; k_dflt (refine my_While ?_)))
  (k_with "my_len" => ((try simp only [Around.deeper, Around.in1, recursionLimit, cLine, List.length_append, List.length_take, List.length_drop, List.length_cons, List.length_nil] at *); omega))
  (k_with "eval ListComp" => (k_here; first | (lct_look; k_dflt (refine LCt.ListComp_T (F₀ := by k_asm) (by with_unfolding_all rfl) (by decide) (by rfl) (by decide) (by rfl) ?_)) | k_dflt (refine LCg.ListComp_U (F₀ := by k_asm) (by with_unfolding_all rfl) (by decide) (by rfl) (by decide) (by rfl) ?_)))
  (k_with "exec Assign cons ListComp" => (k_here; first | (lct_look; k_dflt (refine LCt.Assign_ListComp_T (F₀ := by k_asm) (by rfl) (by with_unfolding_all rfl) (by with_unfolding_all rfl) (by decide) (by rfl) (by decide) (by rfl) (by rfl) (by rfl) ?_)) | k_dflt (refine LCg.Assign_ListComp_U (F₀ := by k_asm) (by rfl) (by with_unfolding_all rfl) (by with_unfolding_all rfl) (by decide) (by rfl) (by decide) (by rfl) (by rfl) (by rfl) ?_)))
  (k_with "call ref" => (k_here; (with_reducible show wpAny _ _ (call (Value.ref 228) _) _ _ _); k_dflt (refine named_K (by k_asm) (by k_asm) (by k_asm) (by k_asm) (by rfl) (by k_extra "my_room") (by k_extra "my_room") (by assumption) (by is_list) (by first | assumption | l_ints | l_intsW) (by assumption) ?_; k_whole); intro h' tk' rK F' N' hNm; (try k_sweep); (rcases hNm with ⟨hr', eNm⟩ | ⟨aN, vsN, fN, hr', eNm, hlN, hiN⟩ <;> subst hr'); all_goals (try (have hzN := named_len (by assumption) eNm hiN; have hfN := named_len2 (by assumption) eNm))))
  (k_with "my_fn" => exact AskL.fn (by with_reducible assumption) (by k_asm) (Heap.CodeRec.keeps (by with_reducible assumption) (Fr.keep (by k_asm))) (by k_mem) (by k_mem) (by k_mem) (by k_mem))
  (k_with "my_intsN" => first | assumption | exact IntsAre.nil | l_ints | l_intsW | exact IntsAre.cons _ _ IntsAre.nil)
  (k_with "call ref" => (k_here; (with_reducible show wpAny _ _ (call (Value.ref 235) _) _ _ _); k_dflt (refine asker_K (by k_asm) (by k_asm) (by k_asm) (by k_asm) (by with_reducible assumption) (by k_mem) (by with_reducible assumption) (Heap.CodeRec.keeps (by with_reducible assumption) (Fr.keep (by k_asm))) (by rfl) (by k_extra "my_room") (by k_extra "my_room") ?_); intro h' tk' rA cA1 cA2 cA3 foA oA1 oA2 oA3 owA hAL F' N' nA nA1 nA2 nA3; clear owA; (replace nA := allNe_of nA); (replace nA1 := allNe_of nA1); (replace nA2 := allNe_of nA2); (replace nA3 := allNe_of nA3); ((replace nA := Mine.toNe2 nA); dsimp only [↓Mine.ne2_cons, ↓Mine.ne2_one, ↓Mine.ne2_nil] at nA; (replace nA1 := Mine.toNe2 nA1); dsimp only [↓Mine.ne2_cons, ↓Mine.ne2_one, ↓Mine.ne2_nil] at nA1; (replace nA2 := Mine.toNe2 nA2); dsimp only [↓Mine.ne2_cons, ↓Mine.ne2_one, ↓Mine.ne2_nil] at nA2; (replace nA3 := Mine.toNe2 nA3); dsimp only [↓Mine.ne2_cons, ↓Mine.ne2_one, ↓Mine.ne2_nil] at nA3); (try k_sweep)))
  (k_with "call ref" => (k_here; (with_reducible show wpAny _ _ (call (Value.ref 181) _) _ _ _); k_dflt (refine shrink_L (by k_asm) (by k_asm) (by k_asm) (by k_asm) (by k_extra "my_fn") (by with_reducible assumption) (by with_reducible assumption) (by k_updF) (by is_list) (by k_extra "my_intsN") (by first | exact baseNe (by with_reducible assumption) (by k_asm) (by k_mem) | k_ne) (by rfl) (by k_extra "my_room") (by k_extra "my_room") (by is_list) (by k_extra "my_ints") (by k_extra "my_fit") (by k_ne) ?_); intro h' tk' tS rS usS lS naS itsS nS bS hSh F' N' nt nr ntr hIr; (replace nt := allNe_of nt); (replace nr := allNe_of nr); ((replace nt := Mine.toNe2 nt); dsimp only [↓Mine.ne2_cons, ↓Mine.ne2_one, ↓Mine.ne2_nil] at nt; (replace nr := Mine.toNe2 nr); dsimp only [↓Mine.ne2_cons, ↓Mine.ne2_one, ↓Mine.ne2_nil] at nr); (try k_sweep)))
  (k_with "call ref" => (k_here; (with_reducible show wpAny _ _ (call (Value.ref 188) _) _ _ _); k_dflt (refine isCore_L (by k_asm) (by k_asm) (by k_asm) (by k_asm) (by k_extra "my_fn") (by with_reducible assumption) (by with_reducible assumption) (by k_updF) (by is_list) (by k_extra "my_intsN") (by first | exact baseNe (by with_reducible assumption) (by k_asm) (by k_mem) | k_ne) (by rfl) (by k_extra "my_room") (by k_extra "my_room") (by k_extra "my_size") (by is_list) (by k_extra "my_ints") (by k_extra "my_fit") (by k_ne) ?_); intro h' tk' itsC nC hSzC F' N'; (try k_sweep)))
  (k_with "call ref" => (k_here; (with_reducible show wpAny _ _ (call (Value.ref 195) _) _ _ _); k_dflt (refine isLeast_D (by k_asm) (by k_asm) (by k_asm) (by k_asm) (by k_extra "my_fn") (by with_reducible assumption) (by with_reducible assumption) (by k_updF) (by k_mem) (by k_ne) (by rfl) (by k_extra "my_room") (by k_extra "my_room") (by is_list) (by k_extra "my_ints") (by k_extra "my_fit") (by k_ne) (by with_reducible assumption) ?_); intro h' tk' itsL nL F' N'; (try k_sweep)))
  (k_with "call ref" => (k_here; (with_reducible show wpAny _ _ (call (Value.ref 245) _) _ _ _); k_dflt (refine lleast_K (by k_asm) (by k_asm) (by k_asm) (by k_asm) (by rfl) (by k_extra "my_room") (by k_extra "my_room") (by with_reducible assumption) (by is_list) (by k_extra "my_ints") (by k_extra "my_fit") (by with_reducible assumption) ?_); intro h' tk' F' N'; (try k_sweep)))
  (k_with "call ref" => (k_here; (with_reducible show wpAny _ _ (call (Value.ref 250) _) _ _ _); k_dflt (refine written_K (by k_asm) (by k_asm) (by k_asm) (by k_asm) (by rfl) (by k_extra "my_room") (by k_extra "my_room") (by is_list) (by k_extra "my_ints") (by k_extra "my_range") (by k_extra "my_fit") ?_); intro h' tk' F' N'; (try k_sweep)))
  (k_with "my_range" => assumption)
  (k_with "my_size" => first | with_reducible assumption | omega | exact (by decide) | (simp; done) | (simp at *; omega))
  (k_with "call ref" => (k_here; (with_reducible show wpAny _ _ (call (Value.ref 223) _) _ _ _); k_dflt (refine keys_K (by k_asm) (by k_asm) (by k_asm) (by k_asm) (by k_updF) (by assumption) (by rfl) (by k_extra "my_room") (by k_extra "my_room") (by is_list) (by assumption) (by assumption) (by omega) (by omega) (by omega) (by omega) ?_; k_whole); intro h' tk' rK vsK nK foundsK foK tiK kk F' N' lr hfo' hk0 hk1 hv hnd hrg hlen'; (replace lr := allNe_of lr); ((replace lr := Mine.toNe2 lr); dsimp only [↓Mine.ne2_cons, ↓Mine.ne2_one, ↓Mine.ne2_nil] at lr); (try k_sweep)))
  (k_with "call ref" => (k_here; (with_reducible show wpAny _ _ (call (Value.ref 188) _) _ _ _); k_dflt (refine isCore_P (by k_asm) (by k_asm) (by k_asm) (by k_asm) (by k_extra "my_fn") (by with_reducible assumption) (by with_reducible assumption) (by k_updF) (by is_list) (by first | exact baseNe (by with_reducible assumption) (by k_asm) (by k_mem) | k_ne) (by rfl) (by k_extra "my_room") (by k_extra "my_room") (by k_extra "my_size") (by is_list) (by k_extra "my_ints") (by k_extra "my_fit") (by k_ne) (by with_reducible assumption) ?_); intro h' tk' itsC nC hSzC F' N'; (try k_sweep)))
  (k_with "call ref" => (k_here; (with_reducible show wpAny _ _ (call (Value.ref 195) _) _ _ _); k_dflt (refine isLeast_P (by k_asm) (by k_asm) (by k_asm) (by k_asm) (by k_extra "my_fn") (by with_reducible assumption) (by with_reducible assumption) (by k_updF) (by is_list) (by first | exact baseNe (by with_reducible assumption) (by k_asm) (by k_mem) | k_ne) (by rfl) (by k_extra "my_room") (by k_extra "my_room") (by k_extra "my_size") (by is_list) (by k_extra "my_ints") (by k_extra "my_fit") (by k_ne) (by with_reducible assumption) ?_); intro h' tk' itsL nL hSzL F' N'; (try k_sweep)))
  (k_with "call ref" => (k_here; (with_reducible show wpAny _ _ (call (Value.ref 228) _) _ _ _); k_dflt (refine named_P (by k_asm) (by k_asm) (by k_asm) (by k_asm) (by rfl) (by k_extra "my_room") (by k_extra "my_room") (by with_reducible assumption) (by is_list) (by k_extra "my_ints") (by with_reducible assumption) (by with_reducible assumption) ?_); intro h' tk' aN F' N'; (try k_sweep)))
  (k_with "execs cons" => (k_here; (with_reducible show wpAny _ _ (execs [_, _] _) _ _ _); k_dflt (refine my_Rest ?_)))
  (k_with "CompSrcT" => (refine my_Src ?_))
  trivial
/-- from the plain asker on -/
theorem shTail1 {prog : Program} {w : World} {p : Program} {loose : List Str} {mean : ExcName → Option Value} {mg mb : Str → Option Value} {A : Around} {s : Shared} {g : Heap} {L fl hid drk c' Dc rS : Addr} {m₀ : Str → Option Value} {foK to o1 o2 o3 : Obj} {vc us ds : List Value} {core l dark : List Int} {H : List (List Int)} {most nC nl : Nat} {tm : Tok} {b : Bool} {qual : Str} {scope : Scope} {body : List Stmt} {Q : Flow → Shared → Prop}
   (X : (hd.heap_1 w.params).In g) (T : Top p loose mean mg mb g) (C : CodeHd g 234 230) (e : fnParts (hd.heap_1 w.params) 255 = some (qual, scope, body)) (hh : A.handled = none) (hd : A.depth + 190 < recursionLimit) (hu : A.units + 3800 < cLine)
   (F : Fr g L s.heap m₀) (N : News g L s.heap [(Dc, W.listOf vc.toArray nC), (rS, W.listOf us.toArray nl), (L + 1, o1), (L + 1 + 1, o2), (L + 1 + 1 + 1, o3), (fl, foK), (230, to)])
   (hto : TabAt w to c') (hcr : g.CodeRec (.ref c') askQual) (hH : HidAt g hid H) (hHr : ∀ f ∈ H, f.length ≤ 100) (hdk : g.IsList drk ds.toArray) (hdi : IntsAre ds dark) (hdl : dark.length ≤ 50)
   (d1 : o1.data = .cell (some (.ref hid))) (d2 : o2.data = .cell (some (.ref Dc))) (d3 : o3.data = .cell (some (.ref rS))) (m1 : m₀ (Str.ofString "is_sure") = some (.bool b)) (m2 : m₀ (Str.ofString "dark") = some (.ref drk)) (m3 : m₀ (Str.ofString "most") = some (.int most tm))
   (hvc : IntsAre vc core) (hus : IntsAre us l) (hcl : core.length ≤ 7) (hll : l.length ≤ 7) (hr1 : ∀ x ∈ core, 0 ≤ x ∧ x ≤ 7) (hr2 : ∀ x ∈ l ++ [0], 0 ≤ x ∧ x ≤ 7) (hroom : b = true ∨ dark ≠ [] ∨ most < 100) (hsub : core.filter (fun k => l.contains k) = l) (hsom : (namedV H l).isSome = true) (hsure : b = true → llV H l = true) (hlnd : l.Nodup)
   (k1 : @Ne Nat Dc rS) (k2 : @Ne Nat Dc fl) (k3 : @Ne Nat rS fl) (k4 : @Ne Nat Dc 230) (k5 : @Ne Nat rS 230) (k6 : fl < L ∧ 230 < L) (k7 : L + 1 + 1 + 1 < Dc) (k8 : @Ne Nat (L + 1 + 1 + 1) rS ∧ @Ne Nat (L + 1 + 1) rS ∧ @Ne Nat (L + 1) rS)
   (hret : ∀ h' tk' m', Fr g L h' m' → h'.get? fl = some foK → h'.get? 230 = some to → Q (.ret (.bool true)) { s with heap := h', toks := tk' }) :
   wpAny (model prog w) A (execs (body.drop 3) (envOfC qual scope L 255 (.ref 254))) Q (fun _ _ => False) s := by
  k_extra "my_fill"
  have e0 := e
  refine' ask_have (a := fnParts (Mine.hd.heap_1 w.params) 255) ?el ?k
  case el => with_unfolding_all rfl
  intro e'
  rw [e'] at e
  cases e
  obtain ⟨_, dp, fr, gd, un⟩ := A
  obtain rfl : _ = none := hh
  have hvcl : vc.toArray.size ≤ 100 := by rw [List.size_toArray, hvc.length]; omega
  have husl : us.toArray.size ≤ 100 := by rw [List.size_toArray, hus.length]; omega
  rw [pin m1, pin m2, pin m3] at F
  show wpAny _ _ (execs [_, _, _, _, _] _) _ _ _
  k_steps
  rename Fr _ _ _ _ => F'
  rename News _ _ _ _ => N'
  refine LCt.CompSrcT.ledger rfl F' N' (ax := Dc) (its := vc.toArray) (by k_mem) (by rw [sizeLine_eq]; omega) fun g' => filter_in hus hvc (Or.inr ⟨_, by k_mem, rfl, _, rfl⟩) rfl (fun _ => rfl) rfl (fun ys2 hy2 => ?fin2) (fun i' n' t' ys' I' oI' C' oC' D' m₂ h₃ tk₃ E' hn' hC' hx' F₃ N₃ => ?cond2)
  case cond2 => k_steps
  case fin2 =>
    clear F' N'
    rw [hsub] at hy2
    have hy2l : ys2.toArray.size ≤ 100 := by rw [List.size_toArray, hy2.length]; omega
    k_steps
    all_goals first
      | (rename (llV H l != llV H l) = true => q; rw [bne_self_eq_false] at q; cases q)
      | (rename b = true => q1; rename llV H l = false => q2; rw [hsure q1] at q2; cases q2)
      | (rename Fr _ _ _ _ => F'
         rename News _ _ _ _ => N'
         unfold MyRest
         exact shTail2 X T C e0 rfl hd hu F' (News.cut N' (by k_extra "my_sub")) hto hcr hH hHr hdk hdi hdl d1 d2 d3 (by with_unfolding_all rfl) (by with_unfolding_all rfl) (by with_unfolding_all rfl) hvc hus hcl hll hr1 hr2 hroom k1 k2 k3 k4 k5 k6 k7 k8 hret)
end
section
theorem lines_Shrunk : True := by
  w_top off
  k_with_none
  (k_with "my_pj" => (with_reducible first | assumption | exact Mine.pj1l (by assumption) | exact Mine.pj1r (by assumption) | exact Mine.pj2l (by assumption) | exact Mine.pj2r (by assumption) | exact Mine.pj3l (by assumption) | exact Mine.pj3r (by assumption) | exact Mine.pj4l (by assumption) | exact Mine.pj4r (by assumption) | exact Mine.pj5l (by assumption) | exact Mine.pj5r (by assumption) | exact Mine.pj6l (by assumption) | exact Mine.pj6r (by assumption) | exact Mine.pj7l (by assumption) | exact Mine.pj7r (by assumption) | exact Mine.pj8l (by assumption) | exact Mine.pj8r (by assumption) | exact Mine.pj9l (by assumption) | exact Mine.pj9r (by assumption) | exact Mine.pj10l (by assumption) | exact Mine.pj10r (by assumption) | exact Mine.pj11l (by assumption) | exact Mine.pj11r (by assumption) | exact Mine.pj12l (by assumption) | exact Mine.pj12r (by assumption) | exact Mine.pj13l (by assumption) | exact Mine.pj13r (by assumption) | exact Mine.pj14l (by assumption) | exact Mine.pj14r (by assumption) | exact Mine.pj15l (by assumption) | exact Mine.pj15r (by assumption) | exact Mine.pj16l (by assumption) | exact Mine.pj16r (by assumption)))
  (k_with "my_ne" => (refine neN ?_; (try dsimp only); first | with_reducible assumption | exact Ne.symm (by with_reducible assumption) | (refine Mine.neOr ?_; simp only [*, true_or, or_true, ne_eq, not_false_eq_true]; done) | (refine Ne.symm (Mine.neOr ?_); simp only [*, true_or, or_true, ne_eq, not_false_eq_true]; done) | omega))
  (k_with "my_room" => first | exact room1 (by with_reducible assumption) rfl rfl | exact room0 (by with_reducible assumption) rfl rfl | ((simp only [Around.deeper, Around.in1, recursionLimit, cLine] at *); omega))
  (k_with "my_fill" => ((have hfill : (fun (_ : OpenLaw) (_ : Params → Frag) => True) PySem.Challenge.rw_rg0207_01 Mine.hd.heap_1 := by k_fill; trivial); clear hfill))
  (k_with "my_in" => ((case k6 => k_is); (case k7 => k_is); (case k8 => first | exact Nat.lt_of_le_of_lt (Nat.le_add_right _ _) (by with_reducible assumption) | (simp only [recursionLimit] at *; omega)); (case k9 => first | exact BindsTo.of_eq rfl | exact binds_K (Frag.In.keeps (by assumption) (by assumption)) rfl (by k_is) rfl rfl rfl); (case c5 => decide); (case kB => exact locs rfl); (case c2 => exact rfl); (case c3 => exact rfl); (case c4 => exact rfl)))
  (k_with "my_sub" => repeat' (first | exact List.forall_mem_nil _ | refine List.forall_mem_cons.mpr ⟨?_, ?_⟩ | k_mem))
  (k_with "exec For Name Call cons nil" => (k_here; k_dflt (refine my_For ?_)))
  (k_with "exec For Name Name cons nil" => (k_here; k_dflt (refine my_For ?_)))
  (k_with "newTuple" => (k_here; k_dflt (refine my_newTuple (by k_asm) (by k_asm) ?_ (by size_fits); k_whole); intro l' h' F' N' l1; (try k_lt l1); (try k_sweep)))
  (k_with "call type:range" => (k_here; (with_reducible rename Fr _ _ _ _ => F'); (with_reducible rename News _ _ _ _ => N'); first | (with_unfolding_all refine range1_rows F' N' ?_; intro h' tk' t' u' v' R' F' N' k'; (try k_sweep)) | (with_unfolding_all refine range2_rows F' N' ?_; intro h' tk' t' u' v' R' F' N' k'; (try k_sweep))))
  (k_with "my_inC" => ((case k6 => k_is); (case k7 => k_is); (case k8 => first | exact Nat.lt_of_le_of_lt (Nat.le_add_right _ _) (by with_reducible assumption) | (simp only [recursionLimit] at *; omega)); (case k9 => exact BindsTo.of_eq rfl); (case kB => exact rfl); (case kD => decide +kernel); (case c2 => exact rfl); (case c3 => exact rfl); (case c4 => exact rfl)))
  (k_with "eval Name" => (k_here; kc_free; k_dflt (refine name_free (by k_asm) (by rfl) (by assumption) (by assumption) ?_ (by rfl) (by rfl); k_whole)))
  (k_with "last call builtin:len" => (k_here; k_dflt (refine call_len_list (by is_list) (by ((try simp only [Array.size_push, List.size_toArray]); omega)) ?_; k_whole); (try simp only [Array.size_push])))
  (k_with "my_ints" => first | assumption | l_ints | l_intsW)
  (k_with "my_fit" => ((try simp only [sizeLine_eq, List.length_append, List.length_cons, List.length_nil, List.length_reverse, List.length_map, List.size_toArray, Array.size_push]); omega))
  (k_with "binaryOp Add ref ref" => (k_here; (with_reducible show wpAny _ _ (binaryOp _ (Value.ref _) (Value.ref _)) _ _ _); k_dflt (refine my_addL (by k_asm) (by k_asm) (by kmk_list) (by kmk_list) (by k_extra "my_ints") (by k_extra "my_ints") ?_ (by k_extra "my_fit"); k_whole); intro D' h' F' N' l1 hI'; (try k_lt l1); (try k_sweep)))
  (k_with "exec While Compare cons nil" => (k_here; k_dflt (refine my_While ?_)))
  (k_with "my_len" => ((try simp only [Around.deeper, Around.in1, recursionLimit, cLine, List.length_append, List.length_take, List.length_drop, List.length_cons, List.length_nil] at *); omega))
  (k_with "eval ListComp" => (k_here; first | (lct_look; k_dflt (refine LCt.ListComp_T (F₀ := by k_asm) (by with_unfolding_all rfl) (by decide) (by rfl) (by decide) (by rfl) ?_)) | k_dflt (refine LCg.ListComp_U (F₀ := by k_asm) (by with_unfolding_all rfl) (by decide) (by rfl) (by decide) (by rfl) ?_)))
  (k_with "exec Assign cons ListComp" => (k_here; first | (lct_look; k_dflt (refine LCt.Assign_ListComp_T (F₀ := by k_asm) (by rfl) (by with_unfolding_all rfl) (by with_unfolding_all rfl) (by decide) (by rfl) (by decide) (by rfl) (by rfl) (by rfl) ?_)) | k_dflt (refine LCg.Assign_ListComp_U (F₀ := by k_asm) (by rfl) (by with_unfolding_all rfl) (by with_unfolding_all rfl) (by decide) (by rfl) (by decide) (by rfl) (by rfl) (by rfl) ?_)))
  (k_with "call ref" => (k_here; (with_reducible show wpAny _ _ (call (Value.ref 228) _) _ _ _); k_dflt (refine named_K (by k_asm) (by k_asm) (by k_asm) (by k_asm) (by rfl) (by k_extra "my_room") (by k_extra "my_room") (by assumption) (by is_list) (by first | assumption | l_ints | l_intsW) (by assumption) ?_; k_whole); intro h' tk' rK F' N' hNm; (try k_sweep); (rcases hNm with ⟨hr', eNm⟩ | ⟨aN, vsN, fN, hr', eNm, hlN, hiN⟩ <;> subst hr'); all_goals (try (have hzN := named_len (by assumption) eNm hiN; have hfN := named_len2 (by assumption) eNm))))
  (k_with "my_fn" => exact AskL.fn (by with_reducible assumption) (by k_asm) (Heap.CodeRec.keeps (by with_reducible assumption) (Fr.keep (by k_asm))) (by k_mem) (by k_mem) (by k_mem) (by k_mem))
  (k_with "my_intsN" => first | assumption | exact IntsAre.nil | l_ints | l_intsW | exact IntsAre.cons _ _ IntsAre.nil)
  (k_with "call ref" => (k_here; (with_reducible show wpAny _ _ (call (Value.ref 235) _) _ _ _); k_dflt (refine asker_K (by k_asm) (by k_asm) (by k_asm) (by k_asm) (by with_reducible assumption) (by k_mem) (by with_reducible assumption) (Heap.CodeRec.keeps (by with_reducible assumption) (Fr.keep (by k_asm))) (by rfl) (by k_extra "my_room") (by k_extra "my_room") ?_); intro h' tk' rA cA1 cA2 cA3 foA oA1 oA2 oA3 owA hAL F' N' nA nA1 nA2 nA3; clear owA; (replace nA := allNe_of nA); (replace nA1 := allNe_of nA1); (replace nA2 := allNe_of nA2); (replace nA3 := allNe_of nA3); ((replace nA := Mine.toNe2 nA); dsimp only [↓Mine.ne2_cons, ↓Mine.ne2_one, ↓Mine.ne2_nil] at nA; (replace nA1 := Mine.toNe2 nA1); dsimp only [↓Mine.ne2_cons, ↓Mine.ne2_one, ↓Mine.ne2_nil] at nA1; (replace nA2 := Mine.toNe2 nA2); dsimp only [↓Mine.ne2_cons, ↓Mine.ne2_one, ↓Mine.ne2_nil] at nA2; (replace nA3 := Mine.toNe2 nA3); dsimp only [↓Mine.ne2_cons, ↓Mine.ne2_one, ↓Mine.ne2_nil] at nA3); (try k_sweep)))
  (k_with "call ref" => (k_here; (with_reducible show wpAny _ _ (call (Value.ref 181) _) _ _ _); k_dflt (refine shrink_L (by k_asm) (by k_asm) (by k_asm) (by k_asm) (by k_extra "my_fn") (by with_reducible assumption) (by with_reducible assumption) (by k_updF) (by is_list) (by k_extra "my_intsN") (by first | exact baseNe (by with_reducible assumption) (by k_asm) (by k_mem) | k_ne) (by rfl) (by k_extra "my_room") (by k_extra "my_room") (by is_list) (by k_extra "my_ints") (by k_extra "my_fit") (by k_ne) ?_); intro h' tk' tS rS usS lS naS itsS nS bS hSh F' N' nt nr ntr hIr; (replace nt := allNe_of nt); (replace nr := allNe_of nr); ((replace nt := Mine.toNe2 nt); dsimp only [↓Mine.ne2_cons, ↓Mine.ne2_one, ↓Mine.ne2_nil] at nt; (replace nr := Mine.toNe2 nr); dsimp only [↓Mine.ne2_cons, ↓Mine.ne2_one, ↓Mine.ne2_nil] at nr); (try k_sweep)))
  (k_with "call ref" => (k_here; (with_reducible show wpAny _ _ (call (Value.ref 188) _) _ _ _); k_dflt (refine isCore_L (by k_asm) (by k_asm) (by k_asm) (by k_asm) (by k_extra "my_fn") (by with_reducible assumption) (by with_reducible assumption) (by k_updF) (by is_list) (by k_extra "my_intsN") (by first | exact baseNe (by with_reducible assumption) (by k_asm) (by k_mem) | k_ne) (by rfl) (by k_extra "my_room") (by k_extra "my_room") (by k_extra "my_size") (by is_list) (by k_extra "my_ints") (by k_extra "my_fit") (by k_ne) ?_); intro h' tk' itsC nC hSzC F' N'; (try k_sweep)))
  (k_with "call ref" => (k_here; (with_reducible show wpAny _ _ (call (Value.ref 195) _) _ _ _); k_dflt (refine isLeast_D (by k_asm) (by k_asm) (by k_asm) (by k_asm) (by k_extra "my_fn") (by with_reducible assumption) (by with_reducible assumption) (by k_updF) (by k_mem) (by k_ne) (by rfl) (by k_extra "my_room") (by k_extra "my_room") (by is_list) (by k_extra "my_ints") (by k_extra "my_fit") (by k_ne) (by with_reducible assumption) ?_); intro h' tk' itsL nL F' N'; (try k_sweep)))
  (k_with "call ref" => (k_here; (with_reducible show wpAny _ _ (call (Value.ref 245) _) _ _ _); k_dflt (refine lleast_K (by k_asm) (by k_asm) (by k_asm) (by k_asm) (by rfl) (by k_extra "my_room") (by k_extra "my_room") (by with_reducible assumption) (by is_list) (by k_extra "my_ints") (by k_extra "my_fit") (by with_reducible assumption) ?_); intro h' tk' F' N'; (try k_sweep)))
  (k_with "call ref" => (k_here; (with_reducible show wpAny _ _ (call (Value.ref 250) _) _ _ _); k_dflt (refine written_K (by k_asm) (by k_asm) (by k_asm) (by k_asm) (by rfl) (by k_extra "my_room") (by k_extra "my_room") (by is_list) (by k_extra "my_ints") (by k_extra "my_range") (by k_extra "my_fit") ?_); intro h' tk' F' N'; (try k_sweep)))
  (k_with "my_range" => assumption)
  (k_with "my_size" => first | with_reducible assumption | omega | exact (by decide) | (simp; done) | (simp at *; omega))
  (k_with "call ref" => (k_here; (with_reducible show wpAny _ _ (call (Value.ref 223) _) _ _ _); k_dflt (refine keys_K (by k_asm) (by k_asm) (by k_asm) (by k_asm) (by k_updF) (by assumption) (by rfl) (by k_extra "my_room") (by k_extra "my_room") (by is_list) (by assumption) (by assumption) (by omega) (by omega) (by omega) (by omega) ?_; k_whole); intro h' tk' rK vsK nK foundsK foK tiK kk F' N' lr hfo' hk0 hk1 hv hnd hrg hlen'; (replace lr := allNe_of lr); ((replace lr := Mine.toNe2 lr); dsimp only [↓Mine.ne2_cons, ↓Mine.ne2_one, ↓Mine.ne2_nil] at lr); (try k_sweep)))
  (k_with "call ref" => (k_here; (with_reducible show wpAny _ _ (call (Value.ref 188) _) _ _ _); k_dflt (refine isCore_P (by k_asm) (by k_asm) (by k_asm) (by k_asm) (by k_extra "my_fn") (by with_reducible assumption) (by with_reducible assumption) (by k_updF) (by is_list) (by first | exact baseNe (by with_reducible assumption) (by k_asm) (by k_mem) | k_ne) (by rfl) (by k_extra "my_room") (by k_extra "my_room") (by k_extra "my_size") (by is_list) (by k_extra "my_ints") (by k_extra "my_fit") (by k_ne) (by with_reducible assumption) ?_); intro h' tk' itsC nC hSzC F' N'; (try k_sweep)))
  (k_with "call ref" => (k_here; (with_reducible show wpAny _ _ (call (Value.ref 195) _) _ _ _); k_dflt (refine isLeast_P (by k_asm) (by k_asm) (by k_asm) (by k_asm) (by k_extra "my_fn") (by with_reducible assumption) (by with_reducible assumption) (by k_updF) (by is_list) (by first | exact baseNe (by with_reducible assumption) (by k_asm) (by k_mem) | k_ne) (by rfl) (by k_extra "my_room") (by k_extra "my_room") (by k_extra "my_size") (by is_list) (by k_extra "my_ints") (by k_extra "my_fit") (by k_ne) (by with_reducible assumption) ?_); intro h' tk' itsL nL hSzL F' N'; (try k_sweep)))
  (k_with "call ref" => (k_here; (with_reducible show wpAny _ _ (call (Value.ref 228) _) _ _ _); k_dflt (refine named_P (by k_asm) (by k_asm) (by k_asm) (by k_asm) (by rfl) (by k_extra "my_room") (by k_extra "my_room") (by with_reducible assumption) (by is_list) (by k_extra "my_ints") (by with_reducible assumption) (by with_reducible assumption) ?_); intro h' tk' aN F' N'; (try k_sweep)))
  (k_with "execs cons" => (k_here; (with_reducible show wpAny _ _ (execs [_, _, _, _, _] _) _ _ _); k_dflt (refine my_Rest ?_)))
  (k_with "CompSrcT" => (refine my_Src ?_))
  trivial
section
variable {prog : Program} {w : World} {h₀ : Heap} {p : Program} {loose : List Str} {mean : ExcName → Option Value} {mg mb : Str → Option Value}
theorem shrunk {A : Around} {s : Shared} {fl c hid drk c' : Addr} {fo to : Obj} {k : Int} {tk : Tok} {vs ds : List Value} {ns f0 dark : List Int} {H : List (List Int)} {most : Nat} {tm : Tok} {Q E : Value → Shared → Prop}
   (X : (hd.heap_1 w.params).In h₀) (T : Top p loose mean mg mb h₀) (C : CodeHd h₀ 234 230) (st : h₀.StaysIn s.heap) (hh : A.handled = none) (hd : A.depth + 200 < recursionLimit) (hu : A.units + 4000 < cLine)
   (hfl : s.heap.get? fl = some fo) (hfo : FlaskO prog w fo c k tk) (hfl0 : h₀.get? fl = none) (hc : s.heap.IsList c vs.toArray) (hi : IntsAre vs ns) (hlen : ns.length ≤ 60) (h0 : 0 ≤ k) (hk : k ≤ 800)
   (ht : s.heap.get? 230 = some to) (ht0 : h₀.get? 230 = none) (hto : TabAt w to c') (hcr : s.heap.CodeRec (.ref c') askQual)
   (hH : HidAt s.heap hid (f0 :: H)) (hHr : ∀ f ∈ f0 :: H, f.length ≤ 100) (hf0 : f0.Nodup ∧ ∀ x ∈ f0, 1 ≤ x ∧ x ≤ 7) (hdk : s.heap.IsList drk ds.toArray) (hdi : IntsAre ds dark) (hdl : dark.length ≤ 50)
   (hm : most = 1000 ∨ most < 100) (hd1 : dark ≠ [] ∨ most = 1000) (hd2 : dark = [] → most = 1000)
   (hret : ∀ h' tk' fo' ti k', Own [fl] s.heap h' → h'.get? fl = some fo' → FlaskO prog w fo' c k' ti → k ≤ k' → k' ≤ k + 9 → Q (.bool true) { s with heap := h', toks := tk' }) :
   wpAny (model prog w) A (call (.ref 255) [.ref fl, .ref hid, .ref drk, .int most tm]) Q E s := by
  k_extra "my_fill"
  obtain ⟨_, dp, fr, gd, un⟩ := A
  obtain rfl : _ = none := hh
  have n1 : @Ne Nat fl 230 := led_ne hfl ht fun q => by obtain ⟨_, _, _, _, _, _, e⟩ := hto; have := hfo.cls; rw [q, e] at this; cases this
  have NL : Led h₀ s.heap [(fl, fo), (230, to)] := led1 hfl hfl0 (led1 ht ht0 led0)
  have KG := led_keep st NL
  refine wpAny_call ?_
  refine' code_inC X T st NL ?k6 ?k7 ?k8 ?k9 ?kB ?kD ?_ ?c2 ?c3 ?c4
  k_extra "my_inC"
  intro g L h₁ tk₁ cells hgB F N Y X' T' lL lN
  k_cells Y
  try simp only [List.cons_append, List.nil_append] at N
  k_lt lN
  rw [← hgB] at KG
  have nl : ∀ {l : Addr} {its : Array Value}, s.heap.IsList l its → l ∉ List.map (·.1) [(fl, fo), (230, to)] := fun h q => by
    rcases List.mem_cons.mp q with q | q
    · exact flask_off hfl hfo h q
    · exact tab_off ht hto h (List.mem_singleton.mp q)
  have hc' : g.IsList c vs.toArray := isList_base hgB hc (nl hc)
  have hdk' : g.IsList drk ds.toArray := isList_base hgB hdk (nl hdk)
  have hH' : HidAt g hid (f0 :: H) := hH.base hgB nl
  have C' : CodeHd g 234 230 := C.keeps KG
  have hcr' : g.CodeRec (.ref c') askQual := by
    obtain ⟨c₀, o, v, t, q, e1, e2, e3⟩ := hcr
    refine ⟨c₀, o, v, t, q, base_get hgB e1 fun m => ?_, e2, e3⟩
    rcases List.mem_cons.mp m with m | m
    · exact flask_code hfl hfo e1 e2 m
    · obtain ⟨_, _, _, _, _, _, e⟩ := hto
      rw [e] at ht
      exact tab_ne ht e1 e2 e3 (List.mem_singleton.mp m)
  obtain ⟨a0, as', v0, hl, hl0, hi0⟩ := hH'.first
  clear hH hcr KG
  dsimp only
  try k_fold
  k_steps
  rename Fr _ _ _ _ => F'
  rename News _ _ _ _ => N'
  obtain ⟨hcn, hcr0, hcl, hcs⟩ := core_good hnd hrg hf0.1 hf0.2
  have hl0s := hi0.length
  have hf0l : f0.length ≤ 100 := hHr f0 (.head _)
  refine LCt.CompSrcT.base rfl F' N' hl0 (by rw [List.size_toArray, sizeLine_eq]; omega) fun g' => filter_rest (fun x => !foundsK.contains x) hi0 (Or.inl hl0) rfl (fun _ => rfl) rfl (fun ys hy => ?fin) (fun i' n' t' ys' I' oI' C' oC' D' m₂ h₃ tk₃ E' hn' hC' hx' F₃ N₃ => ?cond)
  case cond =>
    k_steps
    rw [List.any_beq'']
  case fin =>
    clear F' N'
    k_steps
    rename Fr _ _ _ _ => F'
    rename News _ _ _ _ => N'
    have hcn2 : (namedV (f0 :: H) (foundsK ++ f0.filter fun x => !foundsK.contains x)).isSome = true := by rw [namedV, List.find?_cons, hcs]; rfl
    have hok := shV_ok hcn (by rw [List.length_append]; exact hcl) hcn2 hm hd1 hd2 hSh
    have hsub := hok.sub
    have hlS : lS.length ≤ 7 := by rw [← hsub]; exact Nat.le_trans (List.length_filter_le _ _) (by rw [List.length_append]; exact hcl)
    have hlnd : lS.Nodup := by rw [← hsub]; exact hcn.filter _
    have hlrg : ∀ x ∈ lS, 1 ≤ x ∧ x ≤ 7 := fun x hx => hcr0 x (by rw [← hsub] at hx; exact (List.mem_filter.mp hx).1)
    have hr1 : ∀ x ∈ (foundsK ++ f0.filter fun x => !foundsK.contains x), 0 ≤ x ∧ x ≤ 7 := fun x hx => ⟨Int.le_trans (by decide) (hcr0 x hx).1, (hcr0 x hx).2⟩
    have hr2 : ∀ x ∈ lS ++ [0], 0 ≤ x ∧ x ≤ 7 := fun x hx => by
      rcases List.mem_append.mp hx with q | q
      · exact ⟨Int.le_trans (by decide) (hlrg x q).1, (hlrg x q).2⟩
      · rw [List.mem_singleton.mp q]; decide
    unfold MyRest
    refine' shTail1 (s := { heap := _, gens := _, drawn := _, toks := _, os := _ }) (l := lS) (b := bS) (Dc := D') (rS := rS) (foK := foK) X' T' C' (by with_unfolding_all rfl) ?hh ?hd ?hu F' (News.cut N' ?sub) hto hcr' hH' hHr hdk' hdi hdl ?d1 ?d2 ?d3 ?m1 ?m2 ?m3 hI' hIr ?cl hlS hr1 hr2 hok.room hsub hok.some hok.sure hlnd ?k1 ?k2 ?k3 ?k4 ?k5 lN ?k7 ?k8 ?ret
    case sub => k_extra "my_sub"
    case hh => rfl
    case hd => k_extra "my_room"
    case hu => k_extra "my_room"
    case m1 => with_unfolding_all rfl
    case m2 => with_unfolding_all rfl
    case m3 => with_unfolding_all rfl
    case d1 => exact Eq.trans (by with_reducible assumption) (by with_unfolding_all rfl)
    case d2 => assumption
    case d3 => assumption
    case cl => rw [List.length_append]; exact hcl
    case k1 => k_ne
    case k2 => k_ne
    case k3 => k_ne
    case k4 => k_ne
    case k5 => k_ne
    case k7 => k_extra "my_pj"
    case k8 => exact ⟨by k_ne, by k_ne, by k_ne⟩
    case ret =>
      intro h' tk' m' F₁ rf rf2
      have ow := own_less (a := 230) (W := [fl]) ((own_of hgB F₁).more (by simp only [List.map_cons, List.map_nil, List.mem_cons, List.not_mem_nil, or_false]; intro y hy; rcases hy with q | q <;> simp [q])) fun o e => by rw [ht] at e; cases e; exact rf2
      exact hret _ _ _ _ _ ow rf hfo' hk0 hk1
end
end
section
/-- a part of an asker -/
def AskKind (o : Obj) : Prop := (∃ fd, o.data = .func fd) ∨ (∃ v, o.data = .cell v) ∨ ∃ vs t, o.data = .fields vs ∧ vs[1]? = some (.str askQual t)
theorem AskFn.move2 {w : World} {h h' : Heap} {fn hid drk hrd : Addr} (x : AskFn w h fn hid drk hrd) (k : ∀ b o, h.get? b = some o → AskKind o → h'.get? b = some o) : AskFn w h' fn hid drk hrd := by
  cases x with
  | intro e hf hr h1 d1 h2 d2 h3 d3 =>
    obtain ⟨c, o, vs, t, q, e2, e3, e4⟩ := hr
    cases q
    exact .intro e (k _ _ hf (.inl ⟨_, rfl⟩)) ⟨_, o, vs, t, rfl, k _ _ e2 (.inr (.inr ⟨_, _, e3, e4⟩)), e3, e4⟩ (k _ _ h1 (.inr (.inl ⟨_, d1⟩))) d1 (k _ _ h2 (.inr (.inl ⟨_, d2⟩))) d2 (k _ _ h3 (.inr (.inl ⟨_, d3⟩))) d3
theorem filt8 {ks f : List Int} (h : ∀ x ∈ ks, 1 ≤ x ∧ x ≤ 7) : (ks.filter fun x => (8 :: f.reverse).contains x) = ks.filter fun x => f.contains x := by
  apply List.filter_congr
  intro x hx
  have : x ≠ 8 := fun q => by have := (h x hx).2; omega
  simp [this]
theorem any_dv (l : List Int) (z : Int) : (l.any fun x => x == z) = l.contains z := by
  rw [← List.any_beq]; congr 1; funext x; exact Bool.beq_comm
theorem pick_same (its : Array Value) : kms_pick its.toList (some (its.size : Int)) none = [] := by
  unfold kms_pick
  simp [kms_lo, kms_hi]
theorem pick_push (its : Array Value) (c : Value) : kms_pick (its.push c).toList (some (its.size : Int)) none = [c] := by
  unfold kms_pick
  simp [kms_lo, kms_hi]
  rw [if_neg (by omega), Nat.add_sub_cancel_left]
  rfl
section
variable {prog : Program} {w : World} {p : Program} {loose : List Str} {mean : ExcName → Option Value} {mg mb : Str → Option Value}
/-- enough_of, its asker in the ledger -/
theorem enough_L {A : Around} {s : Shared} {g : Heap} {L x dx fn hid drk hrd kl : Addr} {m₀ : Str → Option Value} {news : List (Addr × Obj)} {g1 : Obj → List (Addr × Obj)} {g2 : Obj → Obj → List (Addr × Obj)} {H : List (List Int)} {its : Array Value} {n : Nat} {vs ds : List Value} {ns dark : List Int} {most cnt : Nat} {sure : Bool} {t1 t2 t3 t4 tm ta : Tok} {Q E : Value → Shared → Prop}
   (F : Fr g L s.heap m₀) (N : News g L s.heap news) (X : (hd.heap_1 w.params).In g) (T : Top p loose mean mg mb g) (hx : (x, instObj 169 dx) ∈ news) (hdx : (dx, shrO w fn most cnt sure t1 t2 t3 t4 tm ta) ∈ news)
   (xf : AskFn w s.heap fn hid drk hrd) (hH : HidAt g hid H) (hHr : ∀ f ∈ H, f.length ≤ 100) (U1 : UpdF hrd (W.listOf its n) news g1) (U2 : ∀ o, UpdF dx (shrO w fn most cnt sure t1 t2 t3 t4 tm ta) (g1 o) (g2 o))
   (hdk : s.heap.IsList drk ds.toArray) (hdi : IntsAre ds dark) (hdn : @Ne Nat drk hrd)
   (hh : A.handled = none) (hd : A.depth + 30 < recursionLimit) (hu : A.units + 600 < cLine) (hsz : its.size ≤ 1900) (hcnt : its.size = cnt)
   (hk : s.heap.IsList kl vs.toArray) (hi : IntsAre vs ns) (hlen : ns.length ≤ 100) (hne : @Ne Nat kl hrd)
   (hfull : most ≤ cnt → ∀ h' tk' n' ta', Fr g L h' m₀ → News g L h' (g2 (W.listOf its n') (shrO w fn most cnt false t1 t2 t3 t4 tm ta')) → Q .none { s with heap := h', toks := tk' })
   (hdark : ¬ most ≤ cnt → dark.contains (cnt : Int) = true → ∀ h' tk' n' ta' c nc, Fr g L h' m₀ → News g L h' ((c, W.listOf vs.toArray nc) :: g2 (W.listOf (its.push (.ref c)) n') (shrO w fn most (cnt + 1 : Nat) false t1 t2 t3 t4 tm ta')) → (∀ p ∈ news, p.1 ≠ c) → Q .none { s with heap := h', toks := tk' })
   (hsat : ¬ most ≤ cnt → dark.contains (cnt : Int) = false → namedV H ns = none → ∀ h' tk' n' ta' c nc, Fr g L h' m₀ → News g L h' ((c, W.listOf vs.toArray nc) :: g2 (W.listOf (its.push (.ref c)) n') (shrO w fn most (cnt + 1 : Nat) sure t1 t2 t3 t4 tm ta')) → (∀ p ∈ news, p.1 ≠ c) → Q .none { s with heap := h', toks := tk' })
   (hso : ¬ most ≤ cnt → dark.contains (cnt : Int) = false → ∀ h' tk' n' ta' c nc r us na f, namedV H ns = some f → Fr g L h' m₀ → News g L h' ((r, W.listOf us.toArray na) :: (c, W.listOf vs.toArray nc) :: g2 (W.listOf (its.push (.ref c)) n') (shrO w fn most (cnt + 1 : Nat) sure t1 t2 t3 t4 tm ta')) →
     (∀ p ∈ news, p.1 ≠ c) → (∀ p ∈ news, p.1 ≠ r) → IntsAre us (ns.filter fun x => (8 :: f.reverse).contains x) → Q (.ref r) { s with heap := h', toks := tk' }) :
   wpAny (model prog w) A (call (.ref 154) [.ref x, .ref kl]) Q E s := by
  have hr := N (hrd, W.listOf its n) (by obtain ⟨pre, post, e, _⟩ := U1.split; rw [e]; exact List.mem_append_right _ (.head _))
  have hx' := N _ hx
  have hdx' := N _ hdx
  have hrd' : hrd ≠ dx := apart hr.1 hdx'.1 (by show ¬ (Value.type "list" = Value.type "dict"); decide)
  have LL : Led g s.heap [(hrd, W.listOf its n), (x, instObj 169 dx), (dx, shrO w fn most cnt sure t1 t2 t3 t4 tm ta)] := led1 hr.1 hr.2.2 (led1 hx'.1 hx'.2.2 (led1 hdx'.1 hdx'.2.2 led0))
  have KG := led_keep F.keep LL
  have lst : ∀ {l : Addr} {it2 : Array Value}, s.heap.IsList l it2 → @Ne Nat l hrd → l ∉ List.map (·.1) [(hrd, W.listOf its n), (x, instObj 169 dx), (dx, shrO w fn most cnt sure t1 t2 t3 t4 tm ta)] := fun h n q => by
    obtain ⟨o, ho, hcl, _⟩ := h
    rcases List.mem_cons.mp q with q | q
    · exact n q
    · rcases List.mem_cons.mp q with q | q
      · exact absurd q (apart ho hx'.1 (by rw [hcl]; show ¬ (Value.type "list" = Value.ref 169); decide))
      · exact absurd (List.mem_singleton.mp q) (apart ho hdx'.1 (by rw [hcl]; show ¬ (Value.type "list" = Value.type "dict"); decide))
  have env : AskEnv w (hideAll s.heap (List.map (·.1) [(hrd, W.listOf its n), (x, instObj 169 dx), (dx, shrO w fn most cnt sure t1 t2 t3 t4 tm ta)])) fn hid drk hrd H dark := by
    refine ⟨xf.move2 fun b o e kd => hideAll_get _ e fun q => ?_, hH.keep KG, hHr, ds, (let ⟨o, e, r⟩ := id hdk; ⟨o, hideAll_get _ e (lst hdk hdn), r⟩), hdi⟩
    have nk : ∀ {o : Obj}, AskKind o → (∀ fd, o.data ≠ .func fd) → (∀ v, o.data ≠ .cell v) → (∀ vs t, o.data = .fields vs → vs[1]? ≠ some (.str askQual t)) → False := fun k a b c => by
      rcases k with ⟨_, k⟩ | ⟨_, k⟩ | ⟨_, _, k, k'⟩
      · exact a _ k
      · exact b _ k
      · exact c _ _ k k'
    rcases List.mem_cons.mp q with q | q
    · rw [q, hr.1] at e; cases e
      exact nk kd (fun _ z => by cases z) (fun _ z => by cases z) fun _ _ z => by cases z
    · rcases List.mem_cons.mp q with q | q
      · rw [q, hx'.1] at e; cases e
        exact nk kd (fun _ z => by cases z) (fun _ z => by cases z) fun _ _ z => by cases z
      · rw [List.mem_singleton.mp q, hdx'.1] at e; cases e
        exact nk kd (fun _ z => by cases z) (fun _ z => by cases z) fun _ _ z => by cases z
  have h0 : ∀ {a : Addr}, a ∈ List.map (·.1) [(hrd, W.listOf its n), (x, instObj 169 dx), (dx, shrO w fn most cnt sure t1 t2 t3 t4 tm ta)] → (hideAll s.heap (List.map (·.1) [(hrd, W.listOf its n), (x, instObj 169 dx), (dx, shrO w fn most cnt sure t1 t2 t3 t4 tm ta)])).get? a = none := fun m => hideAll_none _ m
  subst hcnt
  refine enough (X.keeps KG) (T.keeps KG) (fun _ _ => of_hideAll _) hh hd hu env hr.1 hsz (h0 (by simp)) hx'.1 (h0 (by simp)) hdx'.1 (h0 (by simp)) hk hi hlen hne fun h' tk' r room res asked' sure' its' n' ta' eR ow ed eh hA rA => ?_
  obtain ⟨F', N'⟩ := own2 F N U1 U2 hrd' ow eh ed
  cases eR with
  | full h =>
    obtain ⟨rfl, rfl⟩ := hA
    rcases rA with ⟨rfl, _⟩ | ⟨_, _, _, _, _, q, _⟩
    · exact hfull (by omega) _ _ _ _ F' N'
    · cases q
  | dark h d =>
    obtain ⟨c, nc, rfl, rfl, fc, ec⟩ := hA
    rcases rA with ⟨rfl, _⟩ | ⟨_, _, _, _, _, q, _⟩
    · exact hdark (by omega) d _ _ _ _ c nc F' (fresh1 F fc N' ec) (fresh_ne N fc)
    · cases q
  | sat h d e =>
    obtain ⟨c, nc, rfl, rfl, fc, ec⟩ := hA
    rcases rA with ⟨rfl, _⟩ | ⟨_, _, _, _, _, q, _⟩
    · exact hsat (by omega) d e _ _ _ _ c nc F' (fresh1 F fc N' ec) (fresh_ne N fc)
    · cases q
  | unsat h d e =>
    obtain ⟨c, nc, rfl, rfl, fc, ec⟩ := hA
    rcases rA with ⟨_, q⟩ | ⟨a, us, l, na, rfl, q, fr, er, hI⟩
    · cases q
    · cases q
      exact hso (by omega) d _ _ _ _ c nc a us na _ e F' (fresh1 F fr (fresh1 F fc N' ec) er) (fresh_ne N fc) (fresh_ne N fr) hI
theorem my_mul0 {A : Around} {s : Shared} {g : Heap} {L l : Addr} {m₀ : Str → Option Value} {news : List (Addr × Obj)} {v : Value} {k : Nat} {u : Tok} {Q E : Value → Shared → Prop} (F : Fr g L s.heap m₀) (N : News g L s.heap news) (hm : (l, W.listOf #[v] k) ∈ news)
    (h : ∀ D h', Fr g L h' m₀ → News g L h' ((D, W.listOf #[] 0) :: news) → (∀ p ∈ news, p.1 < D) → Q (.ref D) { s with heap := h' }) : wpAny (model prog w) A (binaryOp .Mult (.ref l) (.int (if false = true then 1 else 0) u)) Q E s :=
  mul_list F N (N _ hm).1 (by decide) (by decide) (by simp) fun h' F' N' => h _ h' F' N' fun p hp => Heap.lt_size (N p hp).1
theorem my_mul1 {A : Around} {s : Shared} {g : Heap} {L l : Addr} {m₀ : Str → Option Value} {news : List (Addr × Obj)} {v : Value} {k : Nat} {u : Tok} {Q E : Value → Shared → Prop} (F : Fr g L s.heap m₀) (N : News g L s.heap news) (hm : (l, W.listOf #[v] k) ∈ news)
    (h : ∀ D h', Fr g L h' m₀ → News g L h' ((D, W.listOf #[v] 0) :: news) → (∀ p ∈ news, p.1 < D) → Q (.ref D) { s with heap := h' }) : wpAny (model prog w) A (binaryOp .Mult (.ref l) (.int (if true = true then 1 else 0) u)) Q E s :=
  mul_list F N (N _ hm).1 (by decide) (by decide) (by simp) fun h' F' N' => h _ h' F' N' fun p hp => Heap.lt_size (N p hp).1
theorem neListRef {A : Around} {s : Shared} {g : Heap} {L a b c d : Addr} {news : List (Addr × Obj)} {vk vp : List Value} {ks : List Int} {n1 n2 n3 n4 : Nat} {Q E : Value → Shared → Prop} (N : News g L s.heap news) (ha : (a, W.listOf #[.ref c] n1) ∈ news) (hb : (b, W.listOf #[.ref d] n2) ∈ news)
    (hc : (c, W.listOf vk.toArray n3) ∈ news) (hd : (d, W.listOf vp.toArray n4) ∈ news) (hk : IntsAre vk ks) (hp : IntsAre vp ks) (hu : A.units + 64 < cLine) (h : Q (.bool false) s) : wpAny (model prog w) A (compareOp .NotEq (.ref a) (.ref b)) Q E s := by
  have sh : SeqAt.shaped (.list [.list (ks.map PyData.int)]) = true := by
    simp [SeqAt.shaped, PyData.canLay0, PyData.canLayAll0, PyData.depth, PyData.depthAll, ke_canLayAll0, ke_depthAll]
  refine ne_dataH (reads_list_at (N _ ha).1 rfl rfl (.cons (reads_newData (News.isList N hc) (ke_carried hk)) .nil)) (reads_list_at (N _ hb).1 rfl rfl (.cons (reads_newData (News.isList N hd) (ke_carried hp)) .nil)) sh sh hu ?_
  have e : PyData.eqv (.list [.list (ks.map PyData.int)]) (.list [.list (ks.map PyData.int)]) = true := by
    simp [PyData.eqv, PyData.eqvAll, ked_eqvAll]
  rw [e]; exact h
theorem asker_K0 {A : Around} {s : Shared} {g : Heap} {L hid drk hrd : Addr} {m₀ : Str → Option Value} {news : List (Addr × Obj)} {g1 : Obj → List (Addr × Obj)} {Q E : Value → Shared → Prop}
   (F : Fr g L s.heap m₀) (N : News g L s.heap news) (X : (hd.heap_1 w.params).In g) (T : Top p loose mean mg mb g) (C : CodeHd g 234 230) (U1 : UpdF 230 (tabObj #[]) news g1) (hh : A.handled = none) (hd : A.depth + 10 < recursionLimit) (hu : A.units + 200 < cLine)
   (hret : ∀ h' tk' r c' c1 c2 c3 fo o1 o2 o3 oc to' vs t, AskL w r hid drk hrd c' c1 c2 c3 fo o1 o2 o3 → TabAt w to' c' → oc.data = .fields vs → vs[1]? = some (.str askQual t) → Fr g L h' m₀ → News g L h' ((r, fo) :: (c1, o1) :: (c2, o2) :: (c3, o3) :: (c', oc) :: g1 to') →
     (∀ p ∈ news, p.1 ≠ r) → (∀ p ∈ news, p.1 ≠ c1) → (∀ p ∈ news, p.1 ≠ c2) → (∀ p ∈ news, p.1 ≠ c3) → (∀ p ∈ news, p.1 ≠ c') → Q (.ref r) { s with heap := h', toks := tk' }) :
   wpAny (model prog w) A (call (.ref 235) [.ref hid, .ref drk, .ref hrd]) Q E s := by
  have h230 := N (230, tabObj #[]) (by obtain ⟨pre, post, e, _⟩ := U1.split; rw [e]; exact List.mem_append_right _ (.head _))
  refine asker X T C F.keep hh hd hu h230.1 (.inl rfl) h230.2.2 fun h' tk' r to' c' ow et hta hcr hor hN => ?_
  have hfc : s.heap.get? c' = none := hor.elim (fun q => q.2) fun q => by
    obtain ⟨_, _, _, _, _, _, e⟩ := hta
    rw [q] at e; simp [tabObj] at e
  obtain ⟨F', N'⟩ := own1 F N U1 ow et
  obtain ⟨c₀, oc, vs, t, q, e1, e2, e3⟩ := hcr
  cases q
  cases hN with
  | @intro name params body scope pos c1 c2 c3 o1 o2 o3 doc pm ctv e hf nf h1 d1 n1 h2 d2 n2 h3 d3 n3 =>
  exact hret _ _ _ _ _ _ _ _ _ _ _ _ _ _ _ ⟨⟨_, _, _, _, _, _, _, _, e, rfl⟩, d1, d2, d3⟩ hta e2 e3 F' (fresh1 F nf (fresh1 F n1 (fresh1 F n2 (fresh1 F n3 (fresh1 F hfc N' e1) h3) h2) h1) hf) (fresh_ne N nf) (fresh_ne N n1) (fresh_ne N n2) (fresh_ne N n3) (fresh_ne N hfc)
end
end
section
/-- amid a turn, behind the reckoning of what is due -/
structure AskSt (prog : Program) (w : World) (g : Heap) (L : Addr) (h : Heap) (m : Str → Option Value) (A : Around) (fl c hid drk hrd x dx fn cA c1 c2 c3 I kr kp : Addr) (fo to oI ofn o1 o2 o3 oA : Obj) (its : Array Value) (n cnt mo nk np : Nat) (sure sm room : Bool) (fv : Value) (dv k' : Int) (ks : List Int) (vk vp : List Value) (H : List (List Int)) (vsA : Array Value) (t1 t2 t3 t4 tm tmo ta td ti tA : Tok) (oc : Obj) : Prop where
  F : Fr g L h m
  hs : its.size = cnt
  hlim : cnt ≤ 8
  hF : FlaskO prog w fo c k' ti
  hAL : AskL w fn hid drk hrd cA c1 c2 c3 ofn o1 o2 o3
  hdA : oA.data = .fields vsA
  hvA : vsA[1]? = some (.str askQual tA)
  hce : oc.data = .cell (some fv)
  hk : IntsAre vk ks
  hp : IntsAre vp ks
  hrg : ∀ z ∈ ks, 1 ≤ z ∧ z ≤ 7
  hkl : ks.length ≤ 7
  hH : HidAt g hid H
  hHr : ∀ f ∈ H, f.length ≤ 100
  hd : A.depth + 80 < recursionLimit
  hu : A.units + 1500 < cLine
  m1 : m (Str.ofString "sure") = some (.bool sm)
  m2 : m (Str.ofString "heard") = some (.ref hrd)
  m3 : m (Str.ofString "shrinker") = some (.ref x)
  m4 : m (Str.ofString "hidden") = some (.ref hid)
  m5 : m (Str.ofString "flask") = some (.ref fl)
  m6 : m (Str.ofString "dark") = some (.ref drk)
  m7 : m (Str.ofString "most") = some (.int (mo : Int) tmo)
  m8 : m (Str.ofString "keys") = some (.ref kr)
  m9 : m (Str.ofString "kept") = some (.ref kp)
  m10 : m (Str.ofString "due") = some .none
  m11 : m (Str.ofString "is_room") = some (.bool room)
  N : News g L h [(kr, W.listOf vk.toArray nk), (kp, W.listOf vp.toArray np), (I, oI), (hrd, W.listOf its n), (x, instObj 169 dx), (dx, shrO w fn (mo : Int) ((cnt : Nat) : Int) sure t1 t2 t3 t4 tm ta), (fl, fo), (L + 1, oc), (drk, W.listOf #[Value.int dv td] 0), (fn, ofn), (c1, o1), (c2, o2), (c3, o3), (cA, oA), (230, to)]
  n1 : AllNe kr [(kp, to), (I, to), (hrd, to), (x, to), (dx, to), (fl, to), (L + 1, to)]
  n2 : AllNe kp [(I, to), (hrd, to), (x, to), (dx, to), (fl, to), (L + 1, to)]
  n3 : AllNe I [(hrd, to), (x, to), (dx, to), (fl, to), (L + 1, to)]
  n4 : AllNe hrd [(x, to), (dx, to), (fl, to), (L + 1, to), (drk, to), (fn, to), (c1, to), (c2, to), (c3, to), (cA, to), (230, to)]
  n5 : AllNe x [(dx, to), (fl, to), (L + 1, to), (drk, to), (fn, to), (c1, to), (c2, to), (c3, to), (cA, to), (230, to)]
  n6 : AllNe dx [(fl, to), (L + 1, to), (drk, to), (fn, to), (c1, to), (c2, to), (c3, to), (cA, to), (230, to)]
  n7 : AllNe (L + 1) [(fl, to), (drk, to), (fn, to), (c1, to), (c2, to), (c3, to), (cA, to), (230, to)]
end
section
theorem lines_AskXA : True := by
  w_top off
  k_with_none
  (k_with "my_pj" => (with_reducible first | assumption | exact Mine.pj1l (by assumption) | exact Mine.pj1r (by assumption) | exact Mine.pj2l (by assumption) | exact Mine.pj2r (by assumption) | exact Mine.pj3l (by assumption) | exact Mine.pj3r (by assumption) | exact Mine.pj4l (by assumption) | exact Mine.pj4r (by assumption) | exact Mine.pj5l (by assumption) | exact Mine.pj5r (by assumption) | exact Mine.pj6l (by assumption) | exact Mine.pj6r (by assumption) | exact Mine.pj7l (by assumption) | exact Mine.pj7r (by assumption) | exact Mine.pj8l (by assumption) | exact Mine.pj8r (by assumption) | exact Mine.pj9l (by assumption) | exact Mine.pj9r (by assumption) | exact Mine.pj10l (by assumption) | exact Mine.pj10r (by assumption) | exact Mine.pj11l (by assumption) | exact Mine.pj11r (by assumption) | exact Mine.pj12l (by assumption) | exact Mine.pj12r (by assumption) | exact Mine.pj13l (by assumption) | exact Mine.pj13r (by assumption) | exact Mine.pj14l (by assumption) | exact Mine.pj14r (by assumption) | exact Mine.pj15l (by assumption) | exact Mine.pj15r (by assumption) | exact Mine.pj16l (by assumption) | exact Mine.pj16r (by assumption)))
  (k_with "my_ne" => (refine neN ?_; (try dsimp only); first | with_reducible assumption | exact Ne.symm (by with_reducible assumption) | (refine Mine.neOr ?_; simp only [*, true_or, or_true, ne_eq, not_false_eq_true]; done) | (refine Ne.symm (Mine.neOr ?_); simp only [*, true_or, or_true, ne_eq, not_false_eq_true]; done) | omega))
  (k_with "my_room" => first | exact room1 (by with_reducible assumption) rfl rfl | exact room0 (by with_reducible assumption) rfl rfl | ((simp only [Around.deeper, Around.in1, recursionLimit, cLine] at *); omega))
  (k_with "my_fill" => ((have hfill : (fun (_ : OpenLaw) (_ : Params → Frag) => True) PySem.Challenge.rw_rg0207_01 Mine.hd.heap_1 := by k_fill; trivial); clear hfill))
  (k_with "my_in" => ((case k6 => k_is); (case k7 => k_is); (case k8 => first | exact Nat.lt_of_le_of_lt (Nat.le_add_right _ _) (by with_reducible assumption) | (simp only [recursionLimit] at *; omega)); (case k9 => first | exact BindsTo.of_eq rfl | exact binds_K (Frag.In.keeps (by assumption) (by assumption)) rfl (by k_is) rfl rfl rfl); (case c5 => decide); (case kB => exact locs rfl); (case c2 => exact rfl); (case c3 => exact rfl); (case c4 => exact rfl)))
  (k_with "my_sub" => repeat' (first | exact List.forall_mem_nil _ | refine List.forall_mem_cons.mpr ⟨?_, ?_⟩ | k_mem))
  (k_with "exec For Name Call cons nil" => (k_here; k_dflt (refine my_For ?_)))
  (k_with "exec For Name Name cons nil" => (k_here; k_dflt (refine my_For ?_)))
  (k_with "newTuple" => (k_here; k_dflt (refine my_newTuple (by k_asm) (by k_asm) ?_ (by size_fits); k_whole); intro l' h' F' N' l1; (try k_lt l1); (try k_sweep)))
  (k_with "call type:range" => (k_here; (with_reducible rename Fr _ _ _ _ => F'); (with_reducible rename News _ _ _ _ => N'); first | (with_unfolding_all refine range1_rows F' N' ?_; intro h' tk' t' u' v' R' F' N' k'; (try k_sweep)) | (with_unfolding_all refine range2_rows F' N' ?_; intro h' tk' t' u' v' R' F' N' k'; (try k_sweep))))
  (k_with "my_inC" => ((case k6 => k_is); (case k7 => k_is); (case k8 => first | exact Nat.lt_of_le_of_lt (Nat.le_add_right _ _) (by with_reducible assumption) | (simp only [recursionLimit] at *; omega)); (case k9 => exact BindsTo.of_eq rfl); (case kB => exact rfl); (case kD => decide +kernel); (case c2 => exact rfl); (case c3 => exact rfl); (case c4 => exact rfl)))
  (k_with "eval Name" => (k_here; kc_free; k_dflt (refine name_free (by k_asm) (by rfl) (by assumption) (by assumption) ?_ (by rfl) (by rfl); k_whole)))
  (k_with "last call builtin:len" => (k_here; k_dflt (refine call_len_list (by is_list) (by ((try simp only [Array.size_push, List.size_toArray]); omega)) ?_; k_whole); (try simp only [Array.size_push])))
  (k_with "my_ints" => first | assumption | l_ints | l_intsW)
  (k_with "my_fit" => ((try simp only [sizeLine_eq, List.length_append, List.length_cons, List.length_nil, List.length_reverse, List.length_map, List.size_toArray, Array.size_push]); omega))
  (k_with "binaryOp Add ref ref" => (k_here; (with_reducible show wpAny _ _ (binaryOp _ (Value.ref _) (Value.ref _)) _ _ _); k_dflt (refine my_addL (by k_asm) (by k_asm) (by kmk_list) (by kmk_list) (by k_extra "my_ints") (by k_extra "my_ints") ?_ (by k_extra "my_fit"); k_whole); intro D' h' F' N' l1 hI'; (try k_lt l1); (try k_sweep)))
  (k_with "exec While Compare cons nil" => (k_here; k_dflt (refine my_While ?_)))
  (k_with "my_len" => ((try simp only [Around.deeper, Around.in1, recursionLimit, cLine, List.length_append, List.length_take, List.length_drop, List.length_cons, List.length_nil] at *); omega))
  (k_with "eval ListComp" => (k_here; first | (lct_look; k_dflt (refine LCt.ListComp_T (F₀ := by k_asm) (by with_unfolding_all rfl) (by decide) (by rfl) (by decide) (by rfl) ?_)) | k_dflt (refine LCg.ListComp_U (F₀ := by k_asm) (by with_unfolding_all rfl) (by decide) (by rfl) (by decide) (by rfl) ?_)))
  (k_with "exec Assign cons ListComp" => (k_here; first | (lct_look; k_dflt (refine LCt.Assign_ListComp_T (F₀ := by k_asm) (by rfl) (by with_unfolding_all rfl) (by with_unfolding_all rfl) (by decide) (by rfl) (by decide) (by rfl) (by rfl) (by rfl) ?_)) | k_dflt (refine LCg.Assign_ListComp_U (F₀ := by k_asm) (by rfl) (by with_unfolding_all rfl) (by with_unfolding_all rfl) (by decide) (by rfl) (by decide) (by rfl) (by rfl) (by rfl) ?_)))
  (k_with "call ref" => (k_here; (with_reducible show wpAny _ _ (call (Value.ref 228) _) _ _ _); k_dflt (refine named_K (by k_asm) (by k_asm) (by k_asm) (by k_asm) (by rfl) (by k_extra "my_room") (by k_extra "my_room") (by assumption) (by is_list) (by first | assumption | l_ints | l_intsW) (by assumption) ?_; k_whole); intro h' tk' rK F' N' hNm; (try k_sweep); (rcases hNm with ⟨hr', eNm⟩ | ⟨aN, vsN, fN, hr', eNm, hlN, hiN⟩ <;> subst hr'); all_goals (try (have hzN := named_len (by assumption) eNm hiN; have hfN := named_len2 (by assumption) eNm))))
  (k_with "call ref" => (k_here; (with_reducible show wpAny _ _ (call (Value.ref 216) _) _ _ _); k_dflt (refine swig_K (by k_asm) (by k_asm) (by k_asm) (by k_asm) (by k_updF) (by assumption) (by rfl) (by k_extra "my_room") (by k_extra "my_room") (by is_list) (by assumption) (by assumption) (by omega) (by omega) (by omega) (by omega) ?_; k_whole); (first | (have hchk : dvN = dvN := rfl; clear hchk; intro h' tk' vK tvK fo' ti F' N' hfo' hv0 hv1) | (intro h' tk' dvN tdN fo' ti F' N' hfo' hd0 hd1)); (try k_sweep)))
  (k_with "call ref" => (k_here; (with_reducible show wpAny _ _ (call (Value.ref 169) _) _ _ _); k_dflt (refine mkShr (by k_asm) (by k_asm) (by k_asm) (by k_asm) (by rfl) (by k_extra "my_room") (by k_extra "my_room") ?_; k_whole); intro h' tk' x' dx' t1 t2 t3 t4 ta F' N' l1 l2; (try k_lt l1); (replace l2 := ltN l2); (try k_sweep)))
  (k_with "call ref" => (k_here; (with_reducible show wpAny _ _ (call (Value.ref 223) _) _ _ _); k_dflt (refine keys_K (by k_asm) (by k_asm) (by k_asm) (by k_asm) (by k_updF) (by assumption) (by rfl) (by k_extra "my_room") (by k_extra "my_room") (by is_list) (by assumption) (by assumption) (by omega) (by omega) (by omega) (by omega) ?_; k_whole); intro h' tk' rK vsK nK foundsK foK tiK kk F' N' lr hfo' hk0 hk1 hv hnd hrg hlen'; (replace lr := allNe_of lr); ((replace lr := Mine.toNe2 lr); dsimp only [↓Mine.ne2_cons, ↓Mine.ne2_one, ↓Mine.ne2_nil] at lr); (try k_sweep)))
  (k_with "my_intsN" => first | assumption | exact IntsAre.nil | l_ints | l_intsW | exact IntsAre.cons _ _ IntsAre.nil)
  (k_with "my_fn" => exact AskL.fn (by with_reducible assumption) (by k_asm) (codeRec_news (by k_asm) (by k_mem) (by with_reducible assumption) (by with_reducible assumption)) (by k_mem) (by k_mem) (by k_mem) (by k_mem))
  (k_with "call ref" => (k_here; (with_reducible show wpAny _ _ (call (Value.ref 235) _) _ _ _); k_dflt (refine asker_K0 (by k_asm) (by k_asm) (by k_asm) (by k_asm) (by with_reducible assumption) (by k_updF) (by rfl) (by k_extra "my_room") (by k_extra "my_room") ?_); intro h' tk' rA cA cA1 cA2 cA3 foA oA1 oA2 oA3 ocA toA vsA tA hAL hTA hdA hvA F' N' nA nA1 nA2 nA3 nA4; (replace nA := allNe_of nA); (replace nA1 := allNe_of nA1); (replace nA2 := allNe_of nA2); (replace nA3 := allNe_of nA3); (replace nA4 := allNe_of nA4); ((replace nA := Mine.toNe2 nA); dsimp only [↓Mine.ne2_cons, ↓Mine.ne2_one, ↓Mine.ne2_nil] at nA; (replace nA1 := Mine.toNe2 nA1); dsimp only [↓Mine.ne2_cons, ↓Mine.ne2_one, ↓Mine.ne2_nil] at nA1; (replace nA2 := Mine.toNe2 nA2); dsimp only [↓Mine.ne2_cons, ↓Mine.ne2_one, ↓Mine.ne2_nil] at nA2; (replace nA3 := Mine.toNe2 nA3); dsimp only [↓Mine.ne2_cons, ↓Mine.ne2_one, ↓Mine.ne2_nil] at nA3; (replace nA4 := Mine.toNe2 nA4); dsimp only [↓Mine.ne2_cons, ↓Mine.ne2_one, ↓Mine.ne2_nil] at nA4); (try k_sweep)))
  (k_with "call ref" => (k_here; (with_reducible show wpAny _ _ (call (Value.ref 154) _) _ _ _); k_dflt (refine enough_L (by k_asm) (by k_asm) (by k_asm) (by k_asm) (by k_mem) (by k_mem) (by k_extra "my_fn") (by with_reducible assumption) (by with_reducible assumption) (by k_updF) (by (intro o'; k_updF)) (by is_list) (by k_extra "my_intsN") (by k_ne) (by rfl) (by k_extra "my_room") (by k_extra "my_room") (by omega) (by first | assumption | rfl) (by is_list) (by k_extra "my_ints") (by k_extra "my_fit") (by k_ne) ?_ ?_ ?_ ?_); (all_goals (intro hFu; first | (exfalso; omega) | skip)); (all_goals first | (intro h' tk' nE taE F' N'; (have hchk : Fr _ _ _ _ := F'); clear hchk; (try k_sweep)) | (intro hDk; (have hchk : List.contains _ _ = true := hDk); clear hchk; first | exact absurd (hdkN.symm.trans hDk) Bool.false_ne_true | (intro h' tk' nE taE cE ncE F' N' nc'; (replace nc' := allNe_of nc'); ((replace nc' := Mine.toNe2 nc'); dsimp only [↓Mine.ne2_cons, ↓Mine.ne2_one, ↓Mine.ne2_nil] at nc'); (try k_sweep))) | (intro hDk hNmE; (have hchk : namedV _ _ = none := hNmE); clear hchk; first | exact absurd (hdkN.symm.trans hDk) Bool.false_ne_true.symm | exact absurd (eNm.symm.trans hNmE) (Option.some_ne_none _) | (intro h' tk' nE taE cE ncE F' N' nc'; (replace nc' := allNe_of nc'); ((replace nc' := Mine.toNe2 nc'); dsimp only [↓Mine.ne2_cons, ↓Mine.ne2_one, ↓Mine.ne2_nil] at nc'); (try k_sweep))) | (intro hDk h' tk' nE taE cE ncE rE usE naE fE hNmE F' N' nc' nr' hIE; first | exact absurd (hdkN.symm.trans hDk) Bool.false_ne_true.symm | exact absurd (eNm.symm.trans hNmE) (Option.some_ne_none _).symm | ((replace nr' := allNe_of nr'); ((replace nr' := Mine.toNe2 nr'); dsimp only [↓Mine.ne2_cons, ↓Mine.ne2_one, ↓Mine.ne2_nil] at nr'); (obtain rfl := Option.some.inj (eNm.symm.trans hNmE)); (rw [filt8 hrg] at hIE); (replace nc' := allNe_of nc'); ((replace nc' := Mine.toNe2 nc'); dsimp only [↓Mine.ne2_cons, ↓Mine.ne2_one, ↓Mine.ne2_nil] at nc'); (try k_sweep))))))
  (k_with "newList" => (k_here; k_dflt (refine newList_K (by k_asm) (by k_asm) ?_; k_whole); (first | (have hchk : hrdN = hrdN := rfl; clear hchk; intro l' h' F' N' l1) | (have hchk : drkN = drkN := rfl; clear hchk; intro hrdN h' F' N' l1) | (intro drkN h' F' N' l1)); (try k_lt l1); (try k_sweep)))
  (k_with "subscriptTail Name Slice ref ref" => (k_here; k_dflt (refine kms_slice_lit (by k_asm) (by k_asm) (by kmk_list) (by kmk_part) (by kmk_part) (by first | exact pick_push _ _ | exact pick_same _) ?_ (by with_unfolding_all rfl) (by kmk_pure) (by first | (rw [sizeLine_eq, Array.size_push]; omega) | (rw [sizeLine_eq]; omega))); intro D' h' F' N' l1; (try k_lt l1); (try k_sweep)))
  (k_with "binaryOp Mult ref int" => (k_here; (with_reducible show wpAny _ _ (binaryOp PySem.Operator.Mult (Value.ref _) (Value.int _ _)) _ _ _); (first | (refine my_mul0 (by k_asm) (by k_asm) (by k_mem) ?_) | (refine my_mul1 (by k_asm) (by k_asm) (by k_mem) ?_)); intro D' h' F' N' l1; (try k_lt l1); (try k_sweep)))
  (k_with "compareOp NotEq ref ref" => (k_here; (with_reducible show wpAny _ _ (compareOp PySem.CmpOp.NotEq (Value.ref _) (Value.ref _)) _ _ _); k_dflt (refine neListRef (by k_asm) (by k_mem) (by k_mem) (by k_mem) (by k_mem) (by with_reducible assumption) (by with_reducible assumption) (by k_extra "my_room") ?_)))
  trivial
def loopOf : List Stmt → List Stmt
  | _ :: _ :: .For _ _ l _ _ :: _ => l
  | _ => []
/-- what a turn leaves -/
def AskOut (prog : Program) (w : World) (g : Heap) (L : Addr) (s : Shared) (fl c hid drk hrd x dx fn cA c1 c2 c3 I : Addr) (fo to oI ofn o1 o2 o3 oA : Obj) (cnt mo : Nat) (dv : Int) (t1 t2 t3 t4 tm tmo td : Tok) (Q : Flow → Shared → Prop) : Prop :=
  ∀ h' tk' m' its' n' cnt' sure' ta' oc' v', its'.size = cnt' → cnt' ≤ cnt + 1 → Fr g L h' m' → News g L h' [(I, oI), (hrd, W.listOf its' n'), (x, instObj 169 dx), (dx, shrO w fn (mo : Int) ((cnt' : Nat) : Int) sure' t1 t2 t3 t4 tm ta'), (fl, fo), (L + 1, oc'), (drk, W.listOf #[Value.int dv td] 0), (fn, ofn), (c1, o1), (c2, o2), (c3, o3), (cA, oA), (230, to)] →
    oc'.data = .cell v' → m' (Str.ofString "sure") = some (.bool sure') → m' (Str.ofString "heard") = some (.ref hrd) → m' (Str.ofString "shrinker") = some (.ref x) → m' (Str.ofString "hidden") = some (.ref hid) → m' (Str.ofString "flask") = some (.ref fl) → m' (Str.ofString "dark") = some (.ref drk) → m' (Str.ofString "most") = some (.int (mo : Int) tmo) →
    Q .next { s with heap := h', toks := tk' }
/-- behind the asking of a turn -/
structure AskX (prog : Program) (w : World) (g : Heap) (L : Addr) (h : Heap) (m : Str → Option Value) (A : Around) (fl hid drk hrd x dx fn cA c1 c2 c3 I kr kp : Addr) (fo to oI ofn o1 o2 o3 oA oc : Obj) (its : Array Value) (n cnt mo nk np : Nat) (sure room : Bool) (fv told due : Value) (many : Nat) (dv : Int) (ks : List Int) (vk vp : List Value) (pre : List (Addr × Obj)) (t1 t2 t3 t4 tm tmo ta td tmany : Tok) : Prop where
  F : Fr g L h m
  hs : its.size = cnt
  hlim : cnt ≤ 9
  hce : oc.data = .cell (some fv)
  hk : IntsAre vk ks
  hp : IntsAre vp ks
  hkl : ks.length ≤ 7
  hd : A.depth + 80 < recursionLimit
  hu : A.units + 1500 < cLine
  m1 : m (Str.ofString "sure") = some (.bool sure)
  m2 : m (Str.ofString "heard") = some (.ref hrd)
  m3 : m (Str.ofString "shrinker") = some (.ref x)
  m4 : m (Str.ofString "hidden") = some (.ref hid)
  m5 : m (Str.ofString "flask") = some (.ref fl)
  m6 : m (Str.ofString "dark") = some (.ref drk)
  m7 : m (Str.ofString "most") = some (.int (mo : Int) tmo)
  m8 : m (Str.ofString "keys") = some (.ref kr)
  m9 : m (Str.ofString "kept") = some (.ref kp)
  m10 : m (Str.ofString "due") = some due
  m11 : m (Str.ofString "is_room") = some (.bool room)
  m12 : m (Str.ofString "told") = some told
  m13 : m (Str.ofString "many") = some (.int ((many : Nat) : Int) tmany)
  N : News g L h (pre ++ [(kr, W.listOf vk.toArray nk), (kp, W.listOf vp.toArray np), (I, oI), (hrd, W.listOf its n), (x, instObj 169 dx), (dx, shrO w fn (mo : Int) ((cnt : Nat) : Int) sure t1 t2 t3 t4 tm ta), (fl, fo), (L + 1, oc), (drk, W.listOf #[Value.int dv td] 0), (fn, ofn), (c1, o1), (c2, o2), (c3, o3), (cA, oA), (230, to)])
theorem askXA {prog : Program} {w : World} {p : Program} {loose : List Str} {mean : ExcName → Option Value} {mg mb : Str → Option Value} {g : Heap} {L : Addr} {s : Shared} {m : Str → Option Value} {A : Around} {fl c hid drk hrd x dx fn cA c1 c2 c3 I kr kp : Addr} {fo to oI ofn o1 o2 o3 oA oc : Obj} {its : Array Value} {n cnt mo nk np : Nat} {sure : Bool} {fv : Value} {dv : Int} {ks : List Int} {vk vp : List Value} {t1 t2 t3 t4 tm tmo ta td tmany : Tok} {qual : Str} {scope : Scope} {body : List Stmt} {Q : Flow → Shared → Prop} 
   (X : (hd.heap_1 w.params).In g) (T : Top p loose mean mg mb g) (e : fnParts (hd.heap_1 w.params) 240 = some (qual, scope, body)) (hh : A.handled = none)
   (st : AskX prog w g L s.heap m A fl hid drk hrd x dx fn cA c1 c2 c3 I kr kp fo to oI ofn o1 o2 o3 oA oc its n cnt mo nk np sure false fv .none .none cnt dv ks vk vp [] t1 t2 t3 t4 tm tmo ta td tmany)
   
   (out : AskOut prog w g L s fl c hid drk hrd x dx fn cA c1 c2 c3 I fo to oI ofn o1 o2 o3 oA cnt mo dv t1 t2 t3 t4 tm tmo td Q) :
   wpAny (model prog w) A (execs ((loopOf body).drop 5) (envOfC qual scope L 240 (.ref 239))) Q (fun _ _ => False) s := by
  k_extra "my_fill"
  refine' ask_have (a := fnParts (Mine.hd.heap_1 w.params) 240) ?el ?k
  case el => with_unfolding_all rfl
  intro e'
  rw [e'] at e
  cases e
  obtain ⟨_, dp, fr, gd, un⟩ := A
  obtain rfl : _ = none := hh
  obtain ⟨F, hs, hlim, hce, hk, hp, hkl, hd, hu, m1, m2, m3, m4, m5, m6, m7, m8, m9, m10, m11, m12, m13, N⟩ := st
  simp only [List.nil_append, List.cons_append] at N
  subst hs
  have hvkl : vk.toArray.size ≤ 100 := by rw [List.size_toArray, hk.length]; omega
  have hvpl : vp.toArray.size ≤ 100 := by rw [List.size_toArray, hp.length]; omega
  have hilim : its.size ≤ 100 := by omega
  rw [pin m1, pin m2, pin m3, pin m4, pin m5, pin m6, pin m7, pin m8, pin m9, pin m10, pin m11, pin m12, pin m13] at F
  show wpAny _ _ (execs [_, _] _) _ _ _
  k_steps
  all_goals first
    | (rename (_ : Int) ≠ _ => q; exact absurd rfl q)
    | (rename (_ != _) = true => q; rw [bne_self_eq_false] at q; cases q)
    | (rename Fr _ _ _ _ => F'
       rename News _ _ _ _ => N'
       exact out _ _ _ its n _ sure _ oc _ rfl (Nat.le_succ _) F' (News.cut N' (by k_extra "my_sub")) hce (by with_unfolding_all rfl) (by with_unfolding_all rfl) (by with_unfolding_all rfl) (by with_unfolding_all rfl) (by with_unfolding_all rfl) (by with_unfolding_all rfl) (by with_unfolding_all rfl))
end
section
theorem lines_AskXB : True := by
  w_top off
  k_with_none
  (k_with "my_pj" => (with_reducible first | assumption | exact Mine.pj1l (by assumption) | exact Mine.pj1r (by assumption) | exact Mine.pj2l (by assumption) | exact Mine.pj2r (by assumption) | exact Mine.pj3l (by assumption) | exact Mine.pj3r (by assumption) | exact Mine.pj4l (by assumption) | exact Mine.pj4r (by assumption) | exact Mine.pj5l (by assumption) | exact Mine.pj5r (by assumption) | exact Mine.pj6l (by assumption) | exact Mine.pj6r (by assumption) | exact Mine.pj7l (by assumption) | exact Mine.pj7r (by assumption) | exact Mine.pj8l (by assumption) | exact Mine.pj8r (by assumption) | exact Mine.pj9l (by assumption) | exact Mine.pj9r (by assumption) | exact Mine.pj10l (by assumption) | exact Mine.pj10r (by assumption) | exact Mine.pj11l (by assumption) | exact Mine.pj11r (by assumption) | exact Mine.pj12l (by assumption) | exact Mine.pj12r (by assumption) | exact Mine.pj13l (by assumption) | exact Mine.pj13r (by assumption) | exact Mine.pj14l (by assumption) | exact Mine.pj14r (by assumption) | exact Mine.pj15l (by assumption) | exact Mine.pj15r (by assumption) | exact Mine.pj16l (by assumption) | exact Mine.pj16r (by assumption)))
  (k_with "my_ne" => (refine neN ?_; (try dsimp only); first | with_reducible assumption | exact Ne.symm (by with_reducible assumption) | (refine Mine.neOr ?_; simp only [*, true_or, or_true, ne_eq, not_false_eq_true]; done) | (refine Ne.symm (Mine.neOr ?_); simp only [*, true_or, or_true, ne_eq, not_false_eq_true]; done) | omega))
  (k_with "my_room" => first | exact room1 (by with_reducible assumption) rfl rfl | exact room0 (by with_reducible assumption) rfl rfl | ((simp only [Around.deeper, Around.in1, recursionLimit, cLine] at *); omega))
  (k_with "my_fill" => ((have hfill : (fun (_ : OpenLaw) (_ : Params → Frag) => True) PySem.Challenge.rw_rg0207_01 Mine.hd.heap_1 := by k_fill; trivial); clear hfill))
  (k_with "my_in" => ((case k6 => k_is); (case k7 => k_is); (case k8 => first | exact Nat.lt_of_le_of_lt (Nat.le_add_right _ _) (by with_reducible assumption) | (simp only [recursionLimit] at *; omega)); (case k9 => first | exact BindsTo.of_eq rfl | exact binds_K (Frag.In.keeps (by assumption) (by assumption)) rfl (by k_is) rfl rfl rfl); (case c5 => decide); (case kB => exact locs rfl); (case c2 => exact rfl); (case c3 => exact rfl); (case c4 => exact rfl)))
  (k_with "my_sub" => repeat' (first | exact List.forall_mem_nil _ | refine List.forall_mem_cons.mpr ⟨?_, ?_⟩ | k_mem))
  (k_with "exec For Name Call cons nil" => (k_here; k_dflt (refine my_For ?_)))
  (k_with "exec For Name Name cons nil" => (k_here; k_dflt (refine my_For ?_)))
  (k_with "newTuple" => (k_here; k_dflt (refine my_newTuple (by k_asm) (by k_asm) ?_ (by size_fits); k_whole); intro l' h' F' N' l1; (try k_lt l1); (try k_sweep)))
  (k_with "call type:range" => (k_here; (with_reducible rename Fr _ _ _ _ => F'); (with_reducible rename News _ _ _ _ => N'); first | (with_unfolding_all refine range1_rows F' N' ?_; intro h' tk' t' u' v' R' F' N' k'; (try k_sweep)) | (with_unfolding_all refine range2_rows F' N' ?_; intro h' tk' t' u' v' R' F' N' k'; (try k_sweep))))
  (k_with "my_inC" => ((case k6 => k_is); (case k7 => k_is); (case k8 => first | exact Nat.lt_of_le_of_lt (Nat.le_add_right _ _) (by with_reducible assumption) | (simp only [recursionLimit] at *; omega)); (case k9 => exact BindsTo.of_eq rfl); (case kB => exact rfl); (case kD => decide +kernel); (case c2 => exact rfl); (case c3 => exact rfl); (case c4 => exact rfl)))
  (k_with "eval Name" => (k_here; kc_free; k_dflt (refine name_free (by k_asm) (by rfl) (by assumption) (by assumption) ?_ (by rfl) (by rfl); k_whole)))
  (k_with "last call builtin:len" => (k_here; k_dflt (refine call_len_list (by is_list) (by ((try simp only [Array.size_push, List.size_toArray]); omega)) ?_; k_whole); (try simp only [Array.size_push])))
  (k_with "my_ints" => first | assumption | l_ints | l_intsW)
  (k_with "my_fit" => ((try simp only [sizeLine_eq, List.length_append, List.length_cons, List.length_nil, List.length_reverse, List.length_map, List.size_toArray, Array.size_push]); omega))
  (k_with "binaryOp Add ref ref" => (k_here; (with_reducible show wpAny _ _ (binaryOp _ (Value.ref _) (Value.ref _)) _ _ _); k_dflt (refine my_addL (by k_asm) (by k_asm) (by kmk_list) (by kmk_list) (by k_extra "my_ints") (by k_extra "my_ints") ?_ (by k_extra "my_fit"); k_whole); intro D' h' F' N' l1 hI'; (try k_lt l1); (try k_sweep)))
  (k_with "exec While Compare cons nil" => (k_here; k_dflt (refine my_While ?_)))
  (k_with "my_len" => ((try simp only [Around.deeper, Around.in1, recursionLimit, cLine, List.length_append, List.length_take, List.length_drop, List.length_cons, List.length_nil] at *); omega))
  (k_with "eval ListComp" => (k_here; first | (lct_look; k_dflt (refine LCt.ListComp_T (F₀ := by k_asm) (by with_unfolding_all rfl) (by decide) (by rfl) (by decide) (by rfl) ?_)) | k_dflt (refine LCg.ListComp_U (F₀ := by k_asm) (by with_unfolding_all rfl) (by decide) (by rfl) (by decide) (by rfl) ?_)))
  (k_with "exec Assign cons ListComp" => (k_here; first | (lct_look; k_dflt (refine LCt.Assign_ListComp_T (F₀ := by k_asm) (by rfl) (by with_unfolding_all rfl) (by with_unfolding_all rfl) (by decide) (by rfl) (by decide) (by rfl) (by rfl) (by rfl) ?_)) | k_dflt (refine LCg.Assign_ListComp_U (F₀ := by k_asm) (by rfl) (by with_unfolding_all rfl) (by with_unfolding_all rfl) (by decide) (by rfl) (by decide) (by rfl) (by rfl) (by rfl) ?_)))
  (k_with "call ref" => (k_here; (with_reducible show wpAny _ _ (call (Value.ref 228) _) _ _ _); k_dflt (refine named_K (by k_asm) (by k_asm) (by k_asm) (by k_asm) (by rfl) (by k_extra "my_room") (by k_extra "my_room") (by assumption) (by is_list) (by first | assumption | l_ints | l_intsW) (by assumption) ?_; k_whole); intro h' tk' rK F' N' hNm; (try k_sweep); (rcases hNm with ⟨hr', eNm⟩ | ⟨aN, vsN, fN, hr', eNm, hlN, hiN⟩ <;> subst hr'); all_goals (try (have hzN := named_len (by assumption) eNm hiN; have hfN := named_len2 (by assumption) eNm))))
  (k_with "call ref" => (k_here; (with_reducible show wpAny _ _ (call (Value.ref 216) _) _ _ _); k_dflt (refine swig_K (by k_asm) (by k_asm) (by k_asm) (by k_asm) (by k_updF) (by assumption) (by rfl) (by k_extra "my_room") (by k_extra "my_room") (by is_list) (by assumption) (by assumption) (by omega) (by omega) (by omega) (by omega) ?_; k_whole); (first | (have hchk : dvN = dvN := rfl; clear hchk; intro h' tk' vK tvK fo' ti F' N' hfo' hv0 hv1) | (intro h' tk' dvN tdN fo' ti F' N' hfo' hd0 hd1)); (try k_sweep)))
  (k_with "call ref" => (k_here; (with_reducible show wpAny _ _ (call (Value.ref 169) _) _ _ _); k_dflt (refine mkShr (by k_asm) (by k_asm) (by k_asm) (by k_asm) (by rfl) (by k_extra "my_room") (by k_extra "my_room") ?_; k_whole); intro h' tk' x' dx' t1 t2 t3 t4 ta F' N' l1 l2; (try k_lt l1); (replace l2 := ltN l2); (try k_sweep)))
  (k_with "call ref" => (k_here; (with_reducible show wpAny _ _ (call (Value.ref 223) _) _ _ _); k_dflt (refine keys_K (by k_asm) (by k_asm) (by k_asm) (by k_asm) (by k_updF) (by assumption) (by rfl) (by k_extra "my_room") (by k_extra "my_room") (by is_list) (by assumption) (by assumption) (by omega) (by omega) (by omega) (by omega) ?_; k_whole); intro h' tk' rK vsK nK foundsK foK tiK kk F' N' lr hfo' hk0 hk1 hv hnd hrg hlen'; (replace lr := allNe_of lr); ((replace lr := Mine.toNe2 lr); dsimp only [↓Mine.ne2_cons, ↓Mine.ne2_one, ↓Mine.ne2_nil] at lr); (try k_sweep)))
  (k_with "my_intsN" => first | assumption | exact IntsAre.nil | l_ints | l_intsW | exact IntsAre.cons _ _ IntsAre.nil)
  (k_with "my_fn" => exact AskL.fn (by with_reducible assumption) (by k_asm) (codeRec_news (by k_asm) (by k_mem) (by with_reducible assumption) (by with_reducible assumption)) (by k_mem) (by k_mem) (by k_mem) (by k_mem))
  (k_with "call ref" => (k_here; (with_reducible show wpAny _ _ (call (Value.ref 235) _) _ _ _); k_dflt (refine asker_K0 (by k_asm) (by k_asm) (by k_asm) (by k_asm) (by with_reducible assumption) (by k_updF) (by rfl) (by k_extra "my_room") (by k_extra "my_room") ?_); intro h' tk' rA cA cA1 cA2 cA3 foA oA1 oA2 oA3 ocA toA vsA tA hAL hTA hdA hvA F' N' nA nA1 nA2 nA3 nA4; (replace nA := allNe_of nA); (replace nA1 := allNe_of nA1); (replace nA2 := allNe_of nA2); (replace nA3 := allNe_of nA3); (replace nA4 := allNe_of nA4); ((replace nA := Mine.toNe2 nA); dsimp only [↓Mine.ne2_cons, ↓Mine.ne2_one, ↓Mine.ne2_nil] at nA; (replace nA1 := Mine.toNe2 nA1); dsimp only [↓Mine.ne2_cons, ↓Mine.ne2_one, ↓Mine.ne2_nil] at nA1; (replace nA2 := Mine.toNe2 nA2); dsimp only [↓Mine.ne2_cons, ↓Mine.ne2_one, ↓Mine.ne2_nil] at nA2; (replace nA3 := Mine.toNe2 nA3); dsimp only [↓Mine.ne2_cons, ↓Mine.ne2_one, ↓Mine.ne2_nil] at nA3; (replace nA4 := Mine.toNe2 nA4); dsimp only [↓Mine.ne2_cons, ↓Mine.ne2_one, ↓Mine.ne2_nil] at nA4); (try k_sweep)))
  (k_with "call ref" => (k_here; (with_reducible show wpAny _ _ (call (Value.ref 154) _) _ _ _); k_dflt (refine enough_L (by k_asm) (by k_asm) (by k_asm) (by k_asm) (by k_mem) (by k_mem) (by k_extra "my_fn") (by with_reducible assumption) (by with_reducible assumption) (by k_updF) (by (intro o'; k_updF)) (by is_list) (by k_extra "my_intsN") (by k_ne) (by rfl) (by k_extra "my_room") (by k_extra "my_room") (by omega) (by first | assumption | rfl) (by is_list) (by k_extra "my_ints") (by k_extra "my_fit") (by k_ne) ?_ ?_ ?_ ?_); (all_goals (intro hFu; first | (exfalso; omega) | skip)); (all_goals first | (intro h' tk' nE taE F' N'; (have hchk : Fr _ _ _ _ := F'); clear hchk; (try k_sweep)) | (intro hDk; (have hchk : List.contains _ _ = true := hDk); clear hchk; first | exact absurd (hdkN.symm.trans hDk) Bool.false_ne_true | (intro h' tk' nE taE cE ncE F' N' nc'; (replace nc' := allNe_of nc'); ((replace nc' := Mine.toNe2 nc'); dsimp only [↓Mine.ne2_cons, ↓Mine.ne2_one, ↓Mine.ne2_nil] at nc'); (try k_sweep))) | (intro hDk hNmE; (have hchk : namedV _ _ = none := hNmE); clear hchk; first | exact absurd (hdkN.symm.trans hDk) Bool.false_ne_true.symm | exact absurd (eNm.symm.trans hNmE) (Option.some_ne_none _) | (intro h' tk' nE taE cE ncE F' N' nc'; (replace nc' := allNe_of nc'); ((replace nc' := Mine.toNe2 nc'); dsimp only [↓Mine.ne2_cons, ↓Mine.ne2_one, ↓Mine.ne2_nil] at nc'); (try k_sweep))) | (intro hDk h' tk' nE taE cE ncE rE usE naE fE hNmE F' N' nc' nr' hIE; first | exact absurd (hdkN.symm.trans hDk) Bool.false_ne_true.symm | exact absurd (eNm.symm.trans hNmE) (Option.some_ne_none _).symm | ((replace nr' := allNe_of nr'); ((replace nr' := Mine.toNe2 nr'); dsimp only [↓Mine.ne2_cons, ↓Mine.ne2_one, ↓Mine.ne2_nil] at nr'); (obtain rfl := Option.some.inj (eNm.symm.trans hNmE)); (rw [filt8 hrg] at hIE); (replace nc' := allNe_of nc'); ((replace nc' := Mine.toNe2 nc'); dsimp only [↓Mine.ne2_cons, ↓Mine.ne2_one, ↓Mine.ne2_nil] at nc'); (try k_sweep))))))
  (k_with "newList" => (k_here; k_dflt (refine newList_K (by k_asm) (by k_asm) ?_; k_whole); (first | (have hchk : hrdN = hrdN := rfl; clear hchk; intro l' h' F' N' l1) | (have hchk : drkN = drkN := rfl; clear hchk; intro hrdN h' F' N' l1) | (intro drkN h' F' N' l1)); (try k_lt l1); (try k_sweep)))
  (k_with "subscriptTail Name Slice ref ref" => (k_here; k_dflt (refine kms_slice_lit (by k_asm) (by k_asm) (by kmk_list) (by kmk_part) (by kmk_part) (by first | exact pick_push _ _ | exact pick_same _) ?_ (by with_unfolding_all rfl) (by kmk_pure) (by first | (rw [sizeLine_eq, Array.size_push]; omega) | (rw [sizeLine_eq]; omega))); intro D' h' F' N' l1; (try k_lt l1); (try k_sweep)))
  (k_with "binaryOp Mult ref int" => (k_here; (with_reducible show wpAny _ _ (binaryOp PySem.Operator.Mult (Value.ref _) (Value.int _ _)) _ _ _); (first | (refine my_mul0 (by k_asm) (by k_asm) (by k_mem) ?_) | (refine my_mul1 (by k_asm) (by k_asm) (by k_mem) ?_)); intro D' h' F' N' l1; (try k_lt l1); (try k_sweep)))
  (k_with "compareOp NotEq ref ref" => (k_here; (with_reducible show wpAny _ _ (compareOp PySem.CmpOp.NotEq (Value.ref _) (Value.ref _)) _ _ _); k_dflt (refine neListRef (by k_asm) (by k_mem) (by k_mem) (by k_mem) (by k_mem) (by with_reducible assumption) (by with_reducible assumption) (by k_extra "my_room") ?_)))
  trivial
theorem askXB {prog : Program} {w : World} {p : Program} {loose : List Str} {mean : ExcName → Option Value} {mg mb : Str → Option Value} {g : Heap} {L : Addr} {s : Shared} {m : Str → Option Value} {A : Around} {fl c hid drk hrd x dx fn cA c1 c2 c3 I kr kp : Addr} {fo to oI ofn o1 o2 o3 oA oc : Obj} {its : Array Value} {n cnt mo nk np : Nat} {sure : Bool} {fv : Value} {dv : Int} {ks : List Int} {vk vp : List Value} {t1 t2 t3 t4 tm tmo ta td tmany : Tok} {qual : Str} {scope : Scope} {body : List Stmt} {Q : Flow → Shared → Prop} {cE : Addr} {nE : Nat}
   (X : (hd.heap_1 w.params).In g) (T : Top p loose mean mg mb g) (e : fnParts (hd.heap_1 w.params) 240 = some (qual, scope, body)) (hh : A.handled = none)
   (st : AskX prog w g L s.heap m A fl hid drk hrd x dx fn cA c1 c2 c3 I kr kp fo to oI ofn o1 o2 o3 oA oc (its.push (.ref cE)) n cnt mo nk np sure true fv .none .none its.size dv ks vk vp [(cE, W.listOf vk.toArray nE)] t1 t2 t3 t4 tm tmo ta td tmany)
   
   (out : AskOut prog w g L s fl c hid drk hrd x dx fn cA c1 c2 c3 I fo to oI ofn o1 o2 o3 oA its.size mo dv t1 t2 t3 t4 tm tmo td Q) :
   wpAny (model prog w) A (execs ((loopOf body).drop 5) (envOfC qual scope L 240 (.ref 239))) Q (fun _ _ => False) s := by
  k_extra "my_fill"
  refine' ask_have (a := fnParts (Mine.hd.heap_1 w.params) 240) ?el ?k
  case el => with_unfolding_all rfl
  intro e'
  rw [e'] at e
  cases e
  obtain ⟨_, dp, fr, gd, un⟩ := A
  obtain rfl : _ = none := hh
  obtain ⟨F, hs, hlim, hce, hk, hp, hkl, hd, hu, m1, m2, m3, m4, m5, m6, m7, m8, m9, m10, m11, m12, m13, N⟩ := st
  simp only [List.nil_append, List.cons_append] at N
  subst hs
  have hvkl : vk.toArray.size ≤ 100 := by rw [List.size_toArray, hk.length]; omega
  have hvpl : vp.toArray.size ≤ 100 := by rw [List.size_toArray, hp.length]; omega
  have hilim : its.size ≤ 100 := by rw [Array.size_push] at hlim; omega
  rw [pin m1, pin m2, pin m3, pin m4, pin m5, pin m6, pin m7, pin m8, pin m9, pin m10, pin m11, pin m12, pin m13] at F
  show wpAny _ _ (execs [_, _] _) _ _ _
  k_steps
  all_goals first
    | (rename (_ : Int) ≠ _ => q; exact absurd rfl q)
    | (rename (_ != _) = true => q; rw [bne_self_eq_false] at q; cases q)
    | (rename Fr _ _ _ _ => F'
       rename News _ _ _ _ => N'
       exact out _ _ _ (its.push (.ref cE)) n _ sure _ oc _ rfl (by rw [Array.size_push]; exact Nat.le_refl _) F' (News.cut N' (by k_extra "my_sub")) hce (by with_unfolding_all rfl) (by with_unfolding_all rfl) (by with_unfolding_all rfl) (by with_unfolding_all rfl) (by with_unfolding_all rfl) (by with_unfolding_all rfl) (by with_unfolding_all rfl))
end
section
theorem lines_AskXC : True := by
  w_top off
  k_with_none
  (k_with "my_pj" => (with_reducible first | assumption | exact Mine.pj1l (by assumption) | exact Mine.pj1r (by assumption) | exact Mine.pj2l (by assumption) | exact Mine.pj2r (by assumption) | exact Mine.pj3l (by assumption) | exact Mine.pj3r (by assumption) | exact Mine.pj4l (by assumption) | exact Mine.pj4r (by assumption) | exact Mine.pj5l (by assumption) | exact Mine.pj5r (by assumption) | exact Mine.pj6l (by assumption) | exact Mine.pj6r (by assumption) | exact Mine.pj7l (by assumption) | exact Mine.pj7r (by assumption) | exact Mine.pj8l (by assumption) | exact Mine.pj8r (by assumption) | exact Mine.pj9l (by assumption) | exact Mine.pj9r (by assumption) | exact Mine.pj10l (by assumption) | exact Mine.pj10r (by assumption) | exact Mine.pj11l (by assumption) | exact Mine.pj11r (by assumption) | exact Mine.pj12l (by assumption) | exact Mine.pj12r (by assumption) | exact Mine.pj13l (by assumption) | exact Mine.pj13r (by assumption) | exact Mine.pj14l (by assumption) | exact Mine.pj14r (by assumption) | exact Mine.pj15l (by assumption) | exact Mine.pj15r (by assumption) | exact Mine.pj16l (by assumption) | exact Mine.pj16r (by assumption)))
  (k_with "my_ne" => (refine neN ?_; (try dsimp only); first | with_reducible assumption | exact Ne.symm (by with_reducible assumption) | (refine Mine.neOr ?_; simp only [*, true_or, or_true, ne_eq, not_false_eq_true]; done) | (refine Ne.symm (Mine.neOr ?_); simp only [*, true_or, or_true, ne_eq, not_false_eq_true]; done) | omega))
  (k_with "my_room" => first | exact room1 (by with_reducible assumption) rfl rfl | exact room0 (by with_reducible assumption) rfl rfl | ((simp only [Around.deeper, Around.in1, recursionLimit, cLine] at *); omega))
  (k_with "my_fill" => ((have hfill : (fun (_ : OpenLaw) (_ : Params → Frag) => True) PySem.Challenge.rw_rg0207_01 Mine.hd.heap_1 := by k_fill; trivial); clear hfill))
  (k_with "my_in" => ((case k6 => k_is); (case k7 => k_is); (case k8 => first | exact Nat.lt_of_le_of_lt (Nat.le_add_right _ _) (by with_reducible assumption) | (simp only [recursionLimit] at *; omega)); (case k9 => first | exact BindsTo.of_eq rfl | exact binds_K (Frag.In.keeps (by assumption) (by assumption)) rfl (by k_is) rfl rfl rfl); (case c5 => decide); (case kB => exact locs rfl); (case c2 => exact rfl); (case c3 => exact rfl); (case c4 => exact rfl)))
  (k_with "my_sub" => repeat' (first | exact List.forall_mem_nil _ | refine List.forall_mem_cons.mpr ⟨?_, ?_⟩ | k_mem))
  (k_with "exec For Name Call cons nil" => (k_here; k_dflt (refine my_For ?_)))
  (k_with "exec For Name Name cons nil" => (k_here; k_dflt (refine my_For ?_)))
  (k_with "newTuple" => (k_here; k_dflt (refine my_newTuple (by k_asm) (by k_asm) ?_ (by size_fits); k_whole); intro l' h' F' N' l1; (try k_lt l1); (try k_sweep)))
  (k_with "call type:range" => (k_here; (with_reducible rename Fr _ _ _ _ => F'); (with_reducible rename News _ _ _ _ => N'); first | (with_unfolding_all refine range1_rows F' N' ?_; intro h' tk' t' u' v' R' F' N' k'; (try k_sweep)) | (with_unfolding_all refine range2_rows F' N' ?_; intro h' tk' t' u' v' R' F' N' k'; (try k_sweep))))
  (k_with "my_inC" => ((case k6 => k_is); (case k7 => k_is); (case k8 => first | exact Nat.lt_of_le_of_lt (Nat.le_add_right _ _) (by with_reducible assumption) | (simp only [recursionLimit] at *; omega)); (case k9 => exact BindsTo.of_eq rfl); (case kB => exact rfl); (case kD => decide +kernel); (case c2 => exact rfl); (case c3 => exact rfl); (case c4 => exact rfl)))
  (k_with "eval Name" => (k_here; kc_free; k_dflt (refine name_free (by k_asm) (by rfl) (by assumption) (by assumption) ?_ (by rfl) (by rfl); k_whole)))
  (k_with "last call builtin:len" => (k_here; k_dflt (refine call_len_list (by is_list) (by ((try simp only [Array.size_push, List.size_toArray]); omega)) ?_; k_whole); (try simp only [Array.size_push])))
  (k_with "my_ints" => first | assumption | l_ints | l_intsW)
  (k_with "my_fit" => ((try simp only [sizeLine_eq, List.length_append, List.length_cons, List.length_nil, List.length_reverse, List.length_map, List.size_toArray, Array.size_push]); omega))
  (k_with "binaryOp Add ref ref" => (k_here; (with_reducible show wpAny _ _ (binaryOp _ (Value.ref _) (Value.ref _)) _ _ _); k_dflt (refine my_addL (by k_asm) (by k_asm) (by kmk_list) (by kmk_list) (by k_extra "my_ints") (by k_extra "my_ints") ?_ (by k_extra "my_fit"); k_whole); intro D' h' F' N' l1 hI'; (try k_lt l1); (try k_sweep)))
  (k_with "exec While Compare cons nil" => (k_here; k_dflt (refine my_While ?_)))
  (k_with "my_len" => ((try simp only [Around.deeper, Around.in1, recursionLimit, cLine, List.length_append, List.length_take, List.length_drop, List.length_cons, List.length_nil] at *); omega))
  (k_with "eval ListComp" => (k_here; first | (lct_look; k_dflt (refine LCt.ListComp_T (F₀ := by k_asm) (by with_unfolding_all rfl) (by decide) (by rfl) (by decide) (by rfl) ?_)) | k_dflt (refine LCg.ListComp_U (F₀ := by k_asm) (by with_unfolding_all rfl) (by decide) (by rfl) (by decide) (by rfl) ?_)))
  (k_with "exec Assign cons ListComp" => (k_here; first | (lct_look; k_dflt (refine LCt.Assign_ListComp_T (F₀ := by k_asm) (by rfl) (by with_unfolding_all rfl) (by with_unfolding_all rfl) (by decide) (by rfl) (by decide) (by rfl) (by rfl) (by rfl) ?_)) | k_dflt (refine LCg.Assign_ListComp_U (F₀ := by k_asm) (by rfl) (by with_unfolding_all rfl) (by with_unfolding_all rfl) (by decide) (by rfl) (by decide) (by rfl) (by rfl) (by rfl) ?_)))
  (k_with "call ref" => (k_here; (with_reducible show wpAny _ _ (call (Value.ref 228) _) _ _ _); k_dflt (refine named_K (by k_asm) (by k_asm) (by k_asm) (by k_asm) (by rfl) (by k_extra "my_room") (by k_extra "my_room") (by assumption) (by is_list) (by first | assumption | l_ints | l_intsW) (by assumption) ?_; k_whole); intro h' tk' rK F' N' hNm; (try k_sweep); (rcases hNm with ⟨hr', eNm⟩ | ⟨aN, vsN, fN, hr', eNm, hlN, hiN⟩ <;> subst hr'); all_goals (try (have hzN := named_len (by assumption) eNm hiN; have hfN := named_len2 (by assumption) eNm))))
  (k_with "call ref" => (k_here; (with_reducible show wpAny _ _ (call (Value.ref 216) _) _ _ _); k_dflt (refine swig_K (by k_asm) (by k_asm) (by k_asm) (by k_asm) (by k_updF) (by assumption) (by rfl) (by k_extra "my_room") (by k_extra "my_room") (by is_list) (by assumption) (by assumption) (by omega) (by omega) (by omega) (by omega) ?_; k_whole); (first | (have hchk : dvN = dvN := rfl; clear hchk; intro h' tk' vK tvK fo' ti F' N' hfo' hv0 hv1) | (intro h' tk' dvN tdN fo' ti F' N' hfo' hd0 hd1)); (try k_sweep)))
  (k_with "call ref" => (k_here; (with_reducible show wpAny _ _ (call (Value.ref 169) _) _ _ _); k_dflt (refine mkShr (by k_asm) (by k_asm) (by k_asm) (by k_asm) (by rfl) (by k_extra "my_room") (by k_extra "my_room") ?_; k_whole); intro h' tk' x' dx' t1 t2 t3 t4 ta F' N' l1 l2; (try k_lt l1); (replace l2 := ltN l2); (try k_sweep)))
  (k_with "call ref" => (k_here; (with_reducible show wpAny _ _ (call (Value.ref 223) _) _ _ _); k_dflt (refine keys_K (by k_asm) (by k_asm) (by k_asm) (by k_asm) (by k_updF) (by assumption) (by rfl) (by k_extra "my_room") (by k_extra "my_room") (by is_list) (by assumption) (by assumption) (by omega) (by omega) (by omega) (by omega) ?_; k_whole); intro h' tk' rK vsK nK foundsK foK tiK kk F' N' lr hfo' hk0 hk1 hv hnd hrg hlen'; (replace lr := allNe_of lr); ((replace lr := Mine.toNe2 lr); dsimp only [↓Mine.ne2_cons, ↓Mine.ne2_one, ↓Mine.ne2_nil] at lr); (try k_sweep)))
  (k_with "my_intsN" => first | assumption | exact IntsAre.nil | l_ints | l_intsW | exact IntsAre.cons _ _ IntsAre.nil)
  (k_with "my_fn" => exact AskL.fn (by with_reducible assumption) (by k_asm) (codeRec_news (by k_asm) (by k_mem) (by with_reducible assumption) (by with_reducible assumption)) (by k_mem) (by k_mem) (by k_mem) (by k_mem))
  (k_with "call ref" => (k_here; (with_reducible show wpAny _ _ (call (Value.ref 235) _) _ _ _); k_dflt (refine asker_K0 (by k_asm) (by k_asm) (by k_asm) (by k_asm) (by with_reducible assumption) (by k_updF) (by rfl) (by k_extra "my_room") (by k_extra "my_room") ?_); intro h' tk' rA cA cA1 cA2 cA3 foA oA1 oA2 oA3 ocA toA vsA tA hAL hTA hdA hvA F' N' nA nA1 nA2 nA3 nA4; (replace nA := allNe_of nA); (replace nA1 := allNe_of nA1); (replace nA2 := allNe_of nA2); (replace nA3 := allNe_of nA3); (replace nA4 := allNe_of nA4); ((replace nA := Mine.toNe2 nA); dsimp only [↓Mine.ne2_cons, ↓Mine.ne2_one, ↓Mine.ne2_nil] at nA; (replace nA1 := Mine.toNe2 nA1); dsimp only [↓Mine.ne2_cons, ↓Mine.ne2_one, ↓Mine.ne2_nil] at nA1; (replace nA2 := Mine.toNe2 nA2); dsimp only [↓Mine.ne2_cons, ↓Mine.ne2_one, ↓Mine.ne2_nil] at nA2; (replace nA3 := Mine.toNe2 nA3); dsimp only [↓Mine.ne2_cons, ↓Mine.ne2_one, ↓Mine.ne2_nil] at nA3; (replace nA4 := Mine.toNe2 nA4); dsimp only [↓Mine.ne2_cons, ↓Mine.ne2_one, ↓Mine.ne2_nil] at nA4); (try k_sweep)))
  (k_with "call ref" => (k_here; (with_reducible show wpAny _ _ (call (Value.ref 154) _) _ _ _); k_dflt (refine enough_L (by k_asm) (by k_asm) (by k_asm) (by k_asm) (by k_mem) (by k_mem) (by k_extra "my_fn") (by with_reducible assumption) (by with_reducible assumption) (by k_updF) (by (intro o'; k_updF)) (by is_list) (by k_extra "my_intsN") (by k_ne) (by rfl) (by k_extra "my_room") (by k_extra "my_room") (by omega) (by first | assumption | rfl) (by is_list) (by k_extra "my_ints") (by k_extra "my_fit") (by k_ne) ?_ ?_ ?_ ?_); (all_goals (intro hFu; first | (exfalso; omega) | skip)); (all_goals first | (intro h' tk' nE taE F' N'; (have hchk : Fr _ _ _ _ := F'); clear hchk; (try k_sweep)) | (intro hDk; (have hchk : List.contains _ _ = true := hDk); clear hchk; first | exact absurd (hdkN.symm.trans hDk) Bool.false_ne_true | (intro h' tk' nE taE cE ncE F' N' nc'; (replace nc' := allNe_of nc'); ((replace nc' := Mine.toNe2 nc'); dsimp only [↓Mine.ne2_cons, ↓Mine.ne2_one, ↓Mine.ne2_nil] at nc'); (try k_sweep))) | (intro hDk hNmE; (have hchk : namedV _ _ = none := hNmE); clear hchk; first | exact absurd (hdkN.symm.trans hDk) Bool.false_ne_true.symm | exact absurd (eNm.symm.trans hNmE) (Option.some_ne_none _) | (intro h' tk' nE taE cE ncE F' N' nc'; (replace nc' := allNe_of nc'); ((replace nc' := Mine.toNe2 nc'); dsimp only [↓Mine.ne2_cons, ↓Mine.ne2_one, ↓Mine.ne2_nil] at nc'); (try k_sweep))) | (intro hDk h' tk' nE taE cE ncE rE usE naE fE hNmE F' N' nc' nr' hIE; first | exact absurd (hdkN.symm.trans hDk) Bool.false_ne_true.symm | exact absurd (eNm.symm.trans hNmE) (Option.some_ne_none _).symm | ((replace nr' := allNe_of nr'); ((replace nr' := Mine.toNe2 nr'); dsimp only [↓Mine.ne2_cons, ↓Mine.ne2_one, ↓Mine.ne2_nil] at nr'); (obtain rfl := Option.some.inj (eNm.symm.trans hNmE)); (rw [filt8 hrg] at hIE); (replace nc' := allNe_of nc'); ((replace nc' := Mine.toNe2 nc'); dsimp only [↓Mine.ne2_cons, ↓Mine.ne2_one, ↓Mine.ne2_nil] at nc'); (try k_sweep))))))
  (k_with "newList" => (k_here; k_dflt (refine newList_K (by k_asm) (by k_asm) ?_; k_whole); (first | (have hchk : hrdN = hrdN := rfl; clear hchk; intro l' h' F' N' l1) | (have hchk : drkN = drkN := rfl; clear hchk; intro hrdN h' F' N' l1) | (intro drkN h' F' N' l1)); (try k_lt l1); (try k_sweep)))
  (k_with "subscriptTail Name Slice ref ref" => (k_here; k_dflt (refine kms_slice_lit (by k_asm) (by k_asm) (by kmk_list) (by kmk_part) (by kmk_part) (by first | exact pick_push _ _ | exact pick_same _) ?_ (by with_unfolding_all rfl) (by kmk_pure) (by first | (rw [sizeLine_eq, Array.size_push]; omega) | (rw [sizeLine_eq]; omega))); intro D' h' F' N' l1; (try k_lt l1); (try k_sweep)))
  (k_with "binaryOp Mult ref int" => (k_here; (with_reducible show wpAny _ _ (binaryOp PySem.Operator.Mult (Value.ref _) (Value.int _ _)) _ _ _); (first | (refine my_mul0 (by k_asm) (by k_asm) (by k_mem) ?_) | (refine my_mul1 (by k_asm) (by k_asm) (by k_mem) ?_)); intro D' h' F' N' l1; (try k_lt l1); (try k_sweep)))
  (k_with "compareOp NotEq ref ref" => (k_here; (with_reducible show wpAny _ _ (compareOp PySem.CmpOp.NotEq (Value.ref _) (Value.ref _)) _ _ _); k_dflt (refine neListRef (by k_asm) (by k_mem) (by k_mem) (by k_mem) (by k_mem) (by with_reducible assumption) (by with_reducible assumption) (by k_extra "my_room") ?_)))
  trivial
theorem askXC {prog : Program} {w : World} {p : Program} {loose : List Str} {mean : ExcName → Option Value} {mg mb : Str → Option Value} {g : Heap} {L : Addr} {s : Shared} {m : Str → Option Value} {A : Around} {fl c hid drk hrd x dx fn cA c1 c2 c3 I kr kp : Addr} {fo to oI ofn o1 o2 o3 oA oc : Obj} {its : Array Value} {n cnt mo nk np : Nat} {sure : Bool} {fv : Value} {dv : Int} {ks : List Int} {vk vp : List Value} {t1 t2 t3 t4 tm tmo ta td tmany : Tok} {qual : Str} {scope : Scope} {body : List Stmt} {Q : Flow → Shared → Prop} {cE rE dd : Addr} {nE nr ndd : Nat} {us vd : List Value} {l : List Int}
   (X : (hd.heap_1 w.params).In g) (T : Top p loose mean mg mb g) (e : fnParts (hd.heap_1 w.params) 240 = some (qual, scope, body)) (hh : A.handled = none)
   (st : AskX prog w g L s.heap m A fl hid drk hrd x dx fn cA c1 c2 c3 I kr kp fo to oI ofn o1 o2 o3 oA oc (its.push (.ref cE)) n cnt mo nk np sure true fv (.ref rE) (.ref dd) its.size dv ks vk vp [(rE, W.listOf us.toArray nr), (dd, W.listOf vd.toArray ndd), (cE, W.listOf vk.toArray nE)] t1 t2 t3 t4 tm tmo ta td tmany)
   (hus : IntsAre us l) (hvd : IntsAre vd l) (hll : l.length ≤ 7)
   (out : AskOut prog w g L s fl c hid drk hrd x dx fn cA c1 c2 c3 I fo to oI ofn o1 o2 o3 oA its.size mo dv t1 t2 t3 t4 tm tmo td Q) :
   wpAny (model prog w) A (execs ((loopOf body).drop 5) (envOfC qual scope L 240 (.ref 239))) Q (fun _ _ => False) s := by
  k_extra "my_fill"
  refine' ask_have (a := fnParts (Mine.hd.heap_1 w.params) 240) ?el ?k
  case el => with_unfolding_all rfl
  intro e'
  rw [e'] at e
  cases e
  obtain ⟨_, dp, fr, gd, un⟩ := A
  obtain rfl : _ = none := hh
  obtain ⟨F, hs, hlim, hce, hk, hp, hkl, hd, hu, m1, m2, m3, m4, m5, m6, m7, m8, m9, m10, m11, m12, m13, N⟩ := st
  simp only [List.nil_append, List.cons_append] at N
  subst hs
  have hvkl : vk.toArray.size ≤ 100 := by rw [List.size_toArray, hk.length]; omega
  have hvpl : vp.toArray.size ≤ 100 := by rw [List.size_toArray, hp.length]; omega
  have husl : us.toArray.size ≤ 100 := by rw [List.size_toArray, hus.length]; omega
  have hvdl : vd.toArray.size ≤ 100 := by rw [List.size_toArray, hvd.length]; omega
  have hilim : its.size ≤ 100 := by rw [Array.size_push] at hlim; omega
  rw [pin m1, pin m2, pin m3, pin m4, pin m5, pin m6, pin m7, pin m8, pin m9, pin m10, pin m11, pin m12, pin m13] at F
  show wpAny _ _ (execs [_, _] _) _ _ _
  k_steps
  all_goals first
    | (rename (_ : Int) ≠ _ => q; exact absurd rfl q)
    | (rename (_ != _) = true => q; rw [bne_self_eq_false] at q; cases q)
    | (rename Fr _ _ _ _ => F'
       rename News _ _ _ _ => N'
       exact out _ _ _ (its.push (.ref cE)) n _ sure _ oc _ rfl (by rw [Array.size_push]; exact Nat.le_refl _) F' (News.cut N' (by k_extra "my_sub")) hce (by with_unfolding_all rfl) (by with_unfolding_all rfl) (by with_unfolding_all rfl) (by with_unfolding_all rfl) (by with_unfolding_all rfl) (by with_unfolding_all rfl) (by with_unfolding_all rfl))
end
section
theorem lines_AskYA : True := by
  w_top off
  k_with_none
  (k_with "my_pj" => (with_reducible first | assumption | exact Mine.pj1l (by assumption) | exact Mine.pj1r (by assumption) | exact Mine.pj2l (by assumption) | exact Mine.pj2r (by assumption) | exact Mine.pj3l (by assumption) | exact Mine.pj3r (by assumption) | exact Mine.pj4l (by assumption) | exact Mine.pj4r (by assumption) | exact Mine.pj5l (by assumption) | exact Mine.pj5r (by assumption) | exact Mine.pj6l (by assumption) | exact Mine.pj6r (by assumption) | exact Mine.pj7l (by assumption) | exact Mine.pj7r (by assumption) | exact Mine.pj8l (by assumption) | exact Mine.pj8r (by assumption) | exact Mine.pj9l (by assumption) | exact Mine.pj9r (by assumption) | exact Mine.pj10l (by assumption) | exact Mine.pj10r (by assumption) | exact Mine.pj11l (by assumption) | exact Mine.pj11r (by assumption) | exact Mine.pj12l (by assumption) | exact Mine.pj12r (by assumption) | exact Mine.pj13l (by assumption) | exact Mine.pj13r (by assumption) | exact Mine.pj14l (by assumption) | exact Mine.pj14r (by assumption) | exact Mine.pj15l (by assumption) | exact Mine.pj15r (by assumption) | exact Mine.pj16l (by assumption) | exact Mine.pj16r (by assumption)))
  (k_with "my_ne" => (refine neN ?_; (try dsimp only); first | with_reducible assumption | exact Ne.symm (by with_reducible assumption) | (refine Mine.neOr ?_; simp only [*, true_or, or_true, ne_eq, not_false_eq_true]; done) | (refine Ne.symm (Mine.neOr ?_); simp only [*, true_or, or_true, ne_eq, not_false_eq_true]; done) | omega))
  (k_with "my_room" => first | exact room1 (by with_reducible assumption) rfl rfl | exact room0 (by with_reducible assumption) rfl rfl | ((simp only [Around.deeper, Around.in1, recursionLimit, cLine] at *); omega))
  (k_with "my_fill" => ((have hfill : (fun (_ : OpenLaw) (_ : Params → Frag) => True) PySem.Challenge.rw_rg0207_01 Mine.hd.heap_1 := by k_fill; trivial); clear hfill))
  (k_with "my_in" => ((case k6 => k_is); (case k7 => k_is); (case k8 => first | exact Nat.lt_of_le_of_lt (Nat.le_add_right _ _) (by with_reducible assumption) | (simp only [recursionLimit] at *; omega)); (case k9 => first | exact BindsTo.of_eq rfl | exact binds_K (Frag.In.keeps (by assumption) (by assumption)) rfl (by k_is) rfl rfl rfl); (case c5 => decide); (case kB => exact locs rfl); (case c2 => exact rfl); (case c3 => exact rfl); (case c4 => exact rfl)))
  (k_with "my_sub" => repeat' (first | exact List.forall_mem_nil _ | refine List.forall_mem_cons.mpr ⟨?_, ?_⟩ | k_mem))
  (k_with "exec For Name Call cons nil" => (k_here; k_dflt (refine my_For ?_)))
  (k_with "exec For Name Name cons nil" => (k_here; k_dflt (refine my_For ?_)))
  (k_with "newTuple" => (k_here; k_dflt (refine my_newTuple (by k_asm) (by k_asm) ?_ (by size_fits); k_whole); intro l' h' F' N' l1; (try k_lt l1); (try k_sweep)))
  (k_with "call type:range" => (k_here; (with_reducible rename Fr _ _ _ _ => F'); (with_reducible rename News _ _ _ _ => N'); first | (with_unfolding_all refine range1_rows F' N' ?_; intro h' tk' t' u' v' R' F' N' k'; (try k_sweep)) | (with_unfolding_all refine range2_rows F' N' ?_; intro h' tk' t' u' v' R' F' N' k'; (try k_sweep))))
  (k_with "my_inC" => ((case k6 => k_is); (case k7 => k_is); (case k8 => first | exact Nat.lt_of_le_of_lt (Nat.le_add_right _ _) (by with_reducible assumption) | (simp only [recursionLimit] at *; omega)); (case k9 => exact BindsTo.of_eq rfl); (case kB => exact rfl); (case kD => decide +kernel); (case c2 => exact rfl); (case c3 => exact rfl); (case c4 => exact rfl)))
  (k_with "eval Name" => (k_here; kc_free; k_dflt (refine name_free (by k_asm) (by rfl) (by assumption) (by assumption) ?_ (by rfl) (by rfl); k_whole)))
  (k_with "last call builtin:len" => (k_here; k_dflt (refine call_len_list (by is_list) (by ((try simp only [Array.size_push, List.size_toArray]); omega)) ?_; k_whole); (try simp only [Array.size_push])))
  (k_with "my_ints" => first | assumption | l_ints | l_intsW)
  (k_with "my_fit" => ((try simp only [sizeLine_eq, List.length_append, List.length_cons, List.length_nil, List.length_reverse, List.length_map, List.size_toArray, Array.size_push]); omega))
  (k_with "binaryOp Add ref ref" => (k_here; (with_reducible show wpAny _ _ (binaryOp _ (Value.ref _) (Value.ref _)) _ _ _); k_dflt (refine my_addL (by k_asm) (by k_asm) (by kmk_list) (by kmk_list) (by k_extra "my_ints") (by k_extra "my_ints") ?_ (by k_extra "my_fit"); k_whole); intro D' h' F' N' l1 hI'; (try k_lt l1); (try k_sweep)))
  (k_with "exec While Compare cons nil" => (k_here; k_dflt (refine my_While ?_)))
  (k_with "my_len" => ((try simp only [Around.deeper, Around.in1, recursionLimit, cLine, List.length_append, List.length_take, List.length_drop, List.length_cons, List.length_nil] at *); omega))
  (k_with "eval ListComp" => (k_here; first | (lct_look; k_dflt (refine LCt.ListComp_T (F₀ := by k_asm) (by with_unfolding_all rfl) (by decide) (by rfl) (by decide) (by rfl) ?_)) | k_dflt (refine LCg.ListComp_U (F₀ := by k_asm) (by with_unfolding_all rfl) (by decide) (by rfl) (by decide) (by rfl) ?_)))
  (k_with "exec Assign cons ListComp" => (k_here; first | (lct_look; k_dflt (refine LCt.Assign_ListComp_T (F₀ := by k_asm) (by rfl) (by with_unfolding_all rfl) (by with_unfolding_all rfl) (by decide) (by rfl) (by decide) (by rfl) (by rfl) (by rfl) ?_)) | k_dflt (refine LCg.Assign_ListComp_U (F₀ := by k_asm) (by rfl) (by with_unfolding_all rfl) (by with_unfolding_all rfl) (by decide) (by rfl) (by decide) (by rfl) (by rfl) (by rfl) ?_)))
  (k_with "call ref" => (k_here; (with_reducible show wpAny _ _ (call (Value.ref 228) _) _ _ _); k_dflt (refine named_K (by k_asm) (by k_asm) (by k_asm) (by k_asm) (by rfl) (by k_extra "my_room") (by k_extra "my_room") (by assumption) (by is_list) (by first | assumption | l_ints | l_intsW) (by assumption) ?_; k_whole); intro h' tk' rK F' N' hNm; (try k_sweep); (rcases hNm with ⟨hr', eNm⟩ | ⟨aN, vsN, fN, hr', eNm, hlN, hiN⟩ <;> subst hr'); all_goals (try (have hzN := named_len (by assumption) eNm hiN; have hfN := named_len2 (by assumption) eNm))))
  (k_with "call ref" => (k_here; (with_reducible show wpAny _ _ (call (Value.ref 216) _) _ _ _); k_dflt (refine swig_K (by k_asm) (by k_asm) (by k_asm) (by k_asm) (by k_updF) (by assumption) (by rfl) (by k_extra "my_room") (by k_extra "my_room") (by is_list) (by assumption) (by assumption) (by omega) (by omega) (by omega) (by omega) ?_; k_whole); (first | (have hchk : dvN = dvN := rfl; clear hchk; intro h' tk' vK tvK fo' ti F' N' hfo' hv0 hv1) | (intro h' tk' dvN tdN fo' ti F' N' hfo' hd0 hd1)); (try k_sweep)))
  (k_with "call ref" => (k_here; (with_reducible show wpAny _ _ (call (Value.ref 169) _) _ _ _); k_dflt (refine mkShr (by k_asm) (by k_asm) (by k_asm) (by k_asm) (by rfl) (by k_extra "my_room") (by k_extra "my_room") ?_; k_whole); intro h' tk' x' dx' t1 t2 t3 t4 ta F' N' l1 l2; (try k_lt l1); (replace l2 := ltN l2); (try k_sweep)))
  (k_with "call ref" => (k_here; (with_reducible show wpAny _ _ (call (Value.ref 223) _) _ _ _); k_dflt (refine keys_K (by k_asm) (by k_asm) (by k_asm) (by k_asm) (by k_updF) (by assumption) (by rfl) (by k_extra "my_room") (by k_extra "my_room") (by is_list) (by assumption) (by assumption) (by omega) (by omega) (by omega) (by omega) ?_; k_whole); intro h' tk' rK vsK nK foundsK foK tiK kk F' N' lr hfo' hk0 hk1 hv hnd hrg hlen'; (replace lr := allNe_of lr); ((replace lr := Mine.toNe2 lr); dsimp only [↓Mine.ne2_cons, ↓Mine.ne2_one, ↓Mine.ne2_nil] at lr); (try k_sweep)))
  (k_with "my_intsN" => first | assumption | exact IntsAre.nil | l_ints | l_intsW | exact IntsAre.cons _ _ IntsAre.nil)
  (k_with "my_fn" => exact AskL.fn (by with_reducible assumption) (by k_asm) (codeRec_news (by k_asm) (by k_mem) (by with_reducible assumption) (by with_reducible assumption)) (by k_mem) (by k_mem) (by k_mem) (by k_mem))
  (k_with "call ref" => (k_here; (with_reducible show wpAny _ _ (call (Value.ref 235) _) _ _ _); k_dflt (refine asker_K0 (by k_asm) (by k_asm) (by k_asm) (by k_asm) (by with_reducible assumption) (by k_updF) (by rfl) (by k_extra "my_room") (by k_extra "my_room") ?_); intro h' tk' rA cA cA1 cA2 cA3 foA oA1 oA2 oA3 ocA toA vsA tA hAL hTA hdA hvA F' N' nA nA1 nA2 nA3 nA4; (replace nA := allNe_of nA); (replace nA1 := allNe_of nA1); (replace nA2 := allNe_of nA2); (replace nA3 := allNe_of nA3); (replace nA4 := allNe_of nA4); ((replace nA := Mine.toNe2 nA); dsimp only [↓Mine.ne2_cons, ↓Mine.ne2_one, ↓Mine.ne2_nil] at nA; (replace nA1 := Mine.toNe2 nA1); dsimp only [↓Mine.ne2_cons, ↓Mine.ne2_one, ↓Mine.ne2_nil] at nA1; (replace nA2 := Mine.toNe2 nA2); dsimp only [↓Mine.ne2_cons, ↓Mine.ne2_one, ↓Mine.ne2_nil] at nA2; (replace nA3 := Mine.toNe2 nA3); dsimp only [↓Mine.ne2_cons, ↓Mine.ne2_one, ↓Mine.ne2_nil] at nA3; (replace nA4 := Mine.toNe2 nA4); dsimp only [↓Mine.ne2_cons, ↓Mine.ne2_one, ↓Mine.ne2_nil] at nA4); (try k_sweep)))
  (k_with "call ref" => (k_here; (with_reducible show wpAny _ _ (call (Value.ref 154) _) _ _ _); k_dflt (refine enough_L (by k_asm) (by k_asm) (by k_asm) (by k_asm) (by k_mem) (by k_mem) (by k_extra "my_fn") (by with_reducible assumption) (by with_reducible assumption) (by k_updF) (by (intro o'; k_updF)) (by is_list) (by k_extra "my_intsN") (by k_ne) (by rfl) (by k_extra "my_room") (by k_extra "my_room") (by omega) (by first | assumption | rfl) (by is_list) (by k_extra "my_ints") (by k_extra "my_fit") (by k_ne) ?_ ?_ ?_ ?_); (all_goals (intro hFu; first | (exfalso; omega) | skip)); (all_goals first | (intro h' tk' nE taE F' N'; (have hchk : Fr _ _ _ _ := F'); clear hchk; (try k_sweep)) | (intro hDk; (have hchk : List.contains _ _ = true := hDk); clear hchk; first | exact absurd (hdkN.symm.trans hDk) Bool.false_ne_true | (intro h' tk' nE taE cE ncE F' N' nc'; (replace nc' := allNe_of nc'); ((replace nc' := Mine.toNe2 nc'); dsimp only [↓Mine.ne2_cons, ↓Mine.ne2_one, ↓Mine.ne2_nil] at nc'); (try k_sweep))) | (intro hDk hNmE; (have hchk : namedV _ _ = none := hNmE); clear hchk; first | exact absurd (hdkN.symm.trans hDk) Bool.false_ne_true.symm | exact absurd (eNm.symm.trans hNmE) (Option.some_ne_none _) | (intro h' tk' nE taE cE ncE F' N' nc'; (replace nc' := allNe_of nc'); ((replace nc' := Mine.toNe2 nc'); dsimp only [↓Mine.ne2_cons, ↓Mine.ne2_one, ↓Mine.ne2_nil] at nc'); (try k_sweep))) | (intro hDk h' tk' nE taE cE ncE rE usE naE fE hNmE F' N' nc' nr' hIE; first | exact absurd (hdkN.symm.trans hDk) Bool.false_ne_true.symm | exact absurd (eNm.symm.trans hNmE) (Option.some_ne_none _).symm | ((replace nr' := allNe_of nr'); ((replace nr' := Mine.toNe2 nr'); dsimp only [↓Mine.ne2_cons, ↓Mine.ne2_one, ↓Mine.ne2_nil] at nr'); (obtain rfl := Option.some.inj (eNm.symm.trans hNmE)); (rw [filt8 hrg] at hIE); (replace nc' := allNe_of nc'); ((replace nc' := Mine.toNe2 nc'); dsimp only [↓Mine.ne2_cons, ↓Mine.ne2_one, ↓Mine.ne2_nil] at nc'); (try k_sweep))))))
  (k_with "newList" => (k_here; k_dflt (refine newList_K (by k_asm) (by k_asm) ?_; k_whole); (first | (have hchk : hrdN = hrdN := rfl; clear hchk; intro l' h' F' N' l1) | (have hchk : drkN = drkN := rfl; clear hchk; intro hrdN h' F' N' l1) | (intro drkN h' F' N' l1)); (try k_lt l1); (try k_sweep)))
  (k_with "subscriptTail Name Slice ref ref" => (k_here; k_dflt (refine kms_slice_lit (by k_asm) (by k_asm) (by kmk_list) (by kmk_part) (by kmk_part) (by first | exact pick_push _ _ | exact pick_same _) ?_ (by with_unfolding_all rfl) (by kmk_pure) (by first | (rw [sizeLine_eq, Array.size_push]; omega) | (rw [sizeLine_eq]; omega))); intro D' h' F' N' l1; (try k_lt l1); (try k_sweep)))
  (k_with "binaryOp Mult ref int" => (k_here; (with_reducible show wpAny _ _ (binaryOp PySem.Operator.Mult (Value.ref _) (Value.int _ _)) _ _ _); (first | (refine my_mul0 (by k_asm) (by k_asm) (by k_mem) ?_) | (refine my_mul1 (by k_asm) (by k_asm) (by k_mem) ?_)); intro D' h' F' N' l1; (try k_lt l1); (try k_sweep)))
  (k_with "compareOp NotEq ref ref" => (k_here; (with_reducible show wpAny _ _ (compareOp PySem.CmpOp.NotEq (Value.ref _) (Value.ref _)) _ _ _); k_dflt (refine neListRef (by k_asm) (by k_mem) (by k_mem) (by k_mem) (by k_mem) (by with_reducible assumption) (by with_reducible assumption) (by k_extra "my_room") ?_)))
  (k_with "execs cons" => (k_here; (with_reducible show wpAny _ _ (execs [_, _] _) _ _ _); k_dflt (refine my_Rest ?_)))
  trivial
theorem askYA {prog : Program} {w : World} {p : Program} {loose : List Str} {mean : ExcName → Option Value} {mg mb : Str → Option Value} {g : Heap} {L : Addr} {s : Shared} {m : Str → Option Value} {A : Around} {fl c hid drk hrd x dx fn cA c1 c2 c3 I kr kp : Addr} {fo to oI ofn o1 o2 o3 oA : Obj} {its : Array Value} {n cnt mo nk np : Nat} {sure : Bool} {dv k' : Int} {ks : List Int} {vk vp : List Value} {H : List (List Int)} {vsA : Array Value} {t1 t2 t3 t4 tm tmo ta td ti tA : Tok} {oc : Obj} {qual : Str} {scope : Scope} {body : List Stmt} {Q : Flow → Shared → Prop} {fv : Value}
   (X : (hd.heap_1 w.params).In g) (T : Top p loose mean mg mb g) (e : fnParts (hd.heap_1 w.params) 240 = some (qual, scope, body)) (hh : A.handled = none)
   (st : AskSt prog w g L s.heap m A fl c hid drk hrd x dx fn cA c1 c2 c3 I kr kp fo to oI ofn o1 o2 o3 oA its n cnt mo nk np sure false false fv dv k' ks vk vp H vsA t1 t2 t3 t4 tm tmo ta td ti tA oc)
   (hroomN : mo ≤ cnt)
   (out : AskOut prog w g L s fl c hid drk hrd x dx fn cA c1 c2 c3 I fo to oI ofn o1 o2 o3 oA cnt mo dv t1 t2 t3 t4 tm tmo td Q) :
   wpAny (model prog w) A (execs ((loopOf body).drop 3) (envOfC qual scope L 240 (.ref 239))) Q (fun _ _ => False) s := by
  k_extra "my_fill"
  have e0 := e
  refine' ask_have (a := fnParts (Mine.hd.heap_1 w.params) 240) ?el ?k
  case el => with_unfolding_all rfl
  intro e'
  rw [e'] at e
  cases e
  obtain ⟨_, dp, fr, gd, un⟩ := A
  obtain rfl : _ = none := hh
  obtain ⟨F, hs, hlim, hF, hAL, hdA, hvA, hce, hk, hp, hrg, hkl, hH, hHr, hd, hu, m1, m2, m3, m4, m5, m6, m7, m8, m9, m10, m11, N, n1, n2, n3, n4, n5, n6, n7⟩ := st
  subst hs
  ((replace n1 := Mine.toNe2 n1); dsimp only [↓Mine.ne2_cons, ↓Mine.ne2_one, ↓Mine.ne2_nil] at n1; (replace n2 := Mine.toNe2 n2); dsimp only [↓Mine.ne2_cons, ↓Mine.ne2_one, ↓Mine.ne2_nil] at n2; (replace n3 := Mine.toNe2 n3); dsimp only [↓Mine.ne2_cons, ↓Mine.ne2_one, ↓Mine.ne2_nil] at n3; (replace n4 := Mine.toNe2 n4); dsimp only [↓Mine.ne2_cons, ↓Mine.ne2_one, ↓Mine.ne2_nil] at n4; (replace n5 := Mine.toNe2 n5); dsimp only [↓Mine.ne2_cons, ↓Mine.ne2_one, ↓Mine.ne2_nil] at n5; (replace n6 := Mine.toNe2 n6); dsimp only [↓Mine.ne2_cons, ↓Mine.ne2_one, ↓Mine.ne2_nil] at n6; (replace n7 := Mine.toNe2 n7); dsimp only [↓Mine.ne2_cons, ↓Mine.ne2_one, ↓Mine.ne2_nil] at n7)
  have hvkl : vk.toArray.size ≤ 100 := by rw [List.size_toArray, hk.length]; omega
  have hvpl : vp.toArray.size ≤ 100 := by rw [List.size_toArray, hp.length]; omega
  have hilim : its.size ≤ 100 := by omega
  rw [pin m1, pin m2, pin m3, pin m4, pin m5, pin m6, pin m7, pin m8, pin m9, pin m10, pin m11] at F
  show wpAny _ _ (execs [_, _, _, _] _) _ _ _
  k_steps
  all_goals first
    | (rename List.any _ _ = _ => q; rw [hany] at q; cases q; done)
    | (rename Fr _ _ _ _ => F'
       rename News _ _ _ _ => N'
       (try rw [hany] at F')
       unfold MyRest
       exact askXA (c := c) X T e0 rfl ⟨F', rfl, (by omega), hce, hk, hp, hkl, hd, hu, (by with_unfolding_all rfl), (by with_unfolding_all rfl), (by with_unfolding_all rfl), (by with_unfolding_all rfl), (by with_unfolding_all rfl), (by with_unfolding_all rfl), (by with_unfolding_all rfl), (by with_unfolding_all rfl), (by with_unfolding_all rfl), (by with_unfolding_all rfl), (by with_unfolding_all rfl), (by with_unfolding_all rfl), (by with_unfolding_all rfl), News.cut N' (by k_extra "my_sub")⟩ out)
end
section
theorem lines_AskYB : True := by
  w_top off
  k_with_none
  (k_with "my_pj" => (with_reducible first | assumption | exact Mine.pj1l (by assumption) | exact Mine.pj1r (by assumption) | exact Mine.pj2l (by assumption) | exact Mine.pj2r (by assumption) | exact Mine.pj3l (by assumption) | exact Mine.pj3r (by assumption) | exact Mine.pj4l (by assumption) | exact Mine.pj4r (by assumption) | exact Mine.pj5l (by assumption) | exact Mine.pj5r (by assumption) | exact Mine.pj6l (by assumption) | exact Mine.pj6r (by assumption) | exact Mine.pj7l (by assumption) | exact Mine.pj7r (by assumption) | exact Mine.pj8l (by assumption) | exact Mine.pj8r (by assumption) | exact Mine.pj9l (by assumption) | exact Mine.pj9r (by assumption) | exact Mine.pj10l (by assumption) | exact Mine.pj10r (by assumption) | exact Mine.pj11l (by assumption) | exact Mine.pj11r (by assumption) | exact Mine.pj12l (by assumption) | exact Mine.pj12r (by assumption) | exact Mine.pj13l (by assumption) | exact Mine.pj13r (by assumption) | exact Mine.pj14l (by assumption) | exact Mine.pj14r (by assumption) | exact Mine.pj15l (by assumption) | exact Mine.pj15r (by assumption) | exact Mine.pj16l (by assumption) | exact Mine.pj16r (by assumption)))
  (k_with "my_ne" => (refine neN ?_; (try dsimp only); first | with_reducible assumption | exact Ne.symm (by with_reducible assumption) | (refine Mine.neOr ?_; simp only [*, true_or, or_true, ne_eq, not_false_eq_true]; done) | (refine Ne.symm (Mine.neOr ?_); simp only [*, true_or, or_true, ne_eq, not_false_eq_true]; done) | omega))
  (k_with "my_room" => first | exact room1 (by with_reducible assumption) rfl rfl | exact room0 (by with_reducible assumption) rfl rfl | ((simp only [Around.deeper, Around.in1, recursionLimit, cLine] at *); omega))
  (k_with "my_fill" => ((have hfill : (fun (_ : OpenLaw) (_ : Params → Frag) => True) PySem.Challenge.rw_rg0207_01 Mine.hd.heap_1 := by k_fill; trivial); clear hfill))
  (k_with "my_in" => ((case k6 => k_is); (case k7 => k_is); (case k8 => first | exact Nat.lt_of_le_of_lt (Nat.le_add_right _ _) (by with_reducible assumption) | (simp only [recursionLimit] at *; omega)); (case k9 => first | exact BindsTo.of_eq rfl | exact binds_K (Frag.In.keeps (by assumption) (by assumption)) rfl (by k_is) rfl rfl rfl); (case c5 => decide); (case kB => exact locs rfl); (case c2 => exact rfl); (case c3 => exact rfl); (case c4 => exact rfl)))
  (k_with "my_sub" => repeat' (first | exact List.forall_mem_nil _ | refine List.forall_mem_cons.mpr ⟨?_, ?_⟩ | k_mem))
  (k_with "exec For Name Call cons nil" => (k_here; k_dflt (refine my_For ?_)))
  (k_with "exec For Name Name cons nil" => (k_here; k_dflt (refine my_For ?_)))
  (k_with "newTuple" => (k_here; k_dflt (refine my_newTuple (by k_asm) (by k_asm) ?_ (by size_fits); k_whole); intro l' h' F' N' l1; (try k_lt l1); (try k_sweep)))
  (k_with "call type:range" => (k_here; (with_reducible rename Fr _ _ _ _ => F'); (with_reducible rename News _ _ _ _ => N'); first | (with_unfolding_all refine range1_rows F' N' ?_; intro h' tk' t' u' v' R' F' N' k'; (try k_sweep)) | (with_unfolding_all refine range2_rows F' N' ?_; intro h' tk' t' u' v' R' F' N' k'; (try k_sweep))))
  (k_with "my_inC" => ((case k6 => k_is); (case k7 => k_is); (case k8 => first | exact Nat.lt_of_le_of_lt (Nat.le_add_right _ _) (by with_reducible assumption) | (simp only [recursionLimit] at *; omega)); (case k9 => exact BindsTo.of_eq rfl); (case kB => exact rfl); (case kD => decide +kernel); (case c2 => exact rfl); (case c3 => exact rfl); (case c4 => exact rfl)))
  (k_with "eval Name" => (k_here; kc_free; k_dflt (refine name_free (by k_asm) (by rfl) (by assumption) (by assumption) ?_ (by rfl) (by rfl); k_whole)))
  (k_with "last call builtin:len" => (k_here; k_dflt (refine call_len_list (by is_list) (by ((try simp only [Array.size_push, List.size_toArray]); omega)) ?_; k_whole); (try simp only [Array.size_push])))
  (k_with "my_ints" => first | assumption | l_ints | l_intsW)
  (k_with "my_fit" => ((try simp only [sizeLine_eq, List.length_append, List.length_cons, List.length_nil, List.length_reverse, List.length_map, List.size_toArray, Array.size_push]); omega))
  (k_with "binaryOp Add ref ref" => (k_here; (with_reducible show wpAny _ _ (binaryOp _ (Value.ref _) (Value.ref _)) _ _ _); k_dflt (refine my_addL (by k_asm) (by k_asm) (by kmk_list) (by kmk_list) (by k_extra "my_ints") (by k_extra "my_ints") ?_ (by k_extra "my_fit"); k_whole); intro D' h' F' N' l1 hI'; (try k_lt l1); (try k_sweep)))
  (k_with "exec While Compare cons nil" => (k_here; k_dflt (refine my_While ?_)))
  (k_with "my_len" => ((try simp only [Around.deeper, Around.in1, recursionLimit, cLine, List.length_append, List.length_take, List.length_drop, List.length_cons, List.length_nil] at *); omega))
  (k_with "eval ListComp" => (k_here; first | (lct_look; k_dflt (refine LCt.ListComp_T (F₀ := by k_asm) (by with_unfolding_all rfl) (by decide) (by rfl) (by decide) (by rfl) ?_)) | k_dflt (refine LCg.ListComp_U (F₀ := by k_asm) (by with_unfolding_all rfl) (by decide) (by rfl) (by decide) (by rfl) ?_)))
  (k_with "exec Assign cons ListComp" => (k_here; first | (lct_look; k_dflt (refine LCt.Assign_ListComp_T (F₀ := by k_asm) (by rfl) (by with_unfolding_all rfl) (by with_unfolding_all rfl) (by decide) (by rfl) (by decide) (by rfl) (by rfl) (by rfl) ?_)) | k_dflt (refine LCg.Assign_ListComp_U (F₀ := by k_asm) (by rfl) (by with_unfolding_all rfl) (by with_unfolding_all rfl) (by decide) (by rfl) (by decide) (by rfl) (by rfl) (by rfl) ?_)))
  (k_with "call ref" => (k_here; (with_reducible show wpAny _ _ (call (Value.ref 228) _) _ _ _); k_dflt (refine named_K (by k_asm) (by k_asm) (by k_asm) (by k_asm) (by rfl) (by k_extra "my_room") (by k_extra "my_room") (by assumption) (by is_list) (by first | assumption | l_ints | l_intsW) (by assumption) ?_; k_whole); intro h' tk' rK F' N' hNm; (try k_sweep); (rcases hNm with ⟨hr', eNm⟩ | ⟨aN, vsN, fN, hr', eNm, hlN, hiN⟩ <;> subst hr'); all_goals (try (have hzN := named_len (by assumption) eNm hiN; have hfN := named_len2 (by assumption) eNm))))
  (k_with "call ref" => (k_here; (with_reducible show wpAny _ _ (call (Value.ref 216) _) _ _ _); k_dflt (refine swig_K (by k_asm) (by k_asm) (by k_asm) (by k_asm) (by k_updF) (by assumption) (by rfl) (by k_extra "my_room") (by k_extra "my_room") (by is_list) (by assumption) (by assumption) (by omega) (by omega) (by omega) (by omega) ?_; k_whole); (first | (have hchk : dvN = dvN := rfl; clear hchk; intro h' tk' vK tvK fo' ti F' N' hfo' hv0 hv1) | (intro h' tk' dvN tdN fo' ti F' N' hfo' hd0 hd1)); (try k_sweep)))
  (k_with "call ref" => (k_here; (with_reducible show wpAny _ _ (call (Value.ref 169) _) _ _ _); k_dflt (refine mkShr (by k_asm) (by k_asm) (by k_asm) (by k_asm) (by rfl) (by k_extra "my_room") (by k_extra "my_room") ?_; k_whole); intro h' tk' x' dx' t1 t2 t3 t4 ta F' N' l1 l2; (try k_lt l1); (replace l2 := ltN l2); (try k_sweep)))
  (k_with "call ref" => (k_here; (with_reducible show wpAny _ _ (call (Value.ref 223) _) _ _ _); k_dflt (refine keys_K (by k_asm) (by k_asm) (by k_asm) (by k_asm) (by k_updF) (by assumption) (by rfl) (by k_extra "my_room") (by k_extra "my_room") (by is_list) (by assumption) (by assumption) (by omega) (by omega) (by omega) (by omega) ?_; k_whole); intro h' tk' rK vsK nK foundsK foK tiK kk F' N' lr hfo' hk0 hk1 hv hnd hrg hlen'; (replace lr := allNe_of lr); ((replace lr := Mine.toNe2 lr); dsimp only [↓Mine.ne2_cons, ↓Mine.ne2_one, ↓Mine.ne2_nil] at lr); (try k_sweep)))
  (k_with "my_intsN" => first | assumption | exact IntsAre.nil | l_ints | l_intsW | exact IntsAre.cons _ _ IntsAre.nil)
  (k_with "my_fn" => exact AskL.fn (by with_reducible assumption) (by k_asm) (codeRec_news (by k_asm) (by k_mem) (by with_reducible assumption) (by with_reducible assumption)) (by k_mem) (by k_mem) (by k_mem) (by k_mem))
  (k_with "call ref" => (k_here; (with_reducible show wpAny _ _ (call (Value.ref 235) _) _ _ _); k_dflt (refine asker_K0 (by k_asm) (by k_asm) (by k_asm) (by k_asm) (by with_reducible assumption) (by k_updF) (by rfl) (by k_extra "my_room") (by k_extra "my_room") ?_); intro h' tk' rA cA cA1 cA2 cA3 foA oA1 oA2 oA3 ocA toA vsA tA hAL hTA hdA hvA F' N' nA nA1 nA2 nA3 nA4; (replace nA := allNe_of nA); (replace nA1 := allNe_of nA1); (replace nA2 := allNe_of nA2); (replace nA3 := allNe_of nA3); (replace nA4 := allNe_of nA4); ((replace nA := Mine.toNe2 nA); dsimp only [↓Mine.ne2_cons, ↓Mine.ne2_one, ↓Mine.ne2_nil] at nA; (replace nA1 := Mine.toNe2 nA1); dsimp only [↓Mine.ne2_cons, ↓Mine.ne2_one, ↓Mine.ne2_nil] at nA1; (replace nA2 := Mine.toNe2 nA2); dsimp only [↓Mine.ne2_cons, ↓Mine.ne2_one, ↓Mine.ne2_nil] at nA2; (replace nA3 := Mine.toNe2 nA3); dsimp only [↓Mine.ne2_cons, ↓Mine.ne2_one, ↓Mine.ne2_nil] at nA3; (replace nA4 := Mine.toNe2 nA4); dsimp only [↓Mine.ne2_cons, ↓Mine.ne2_one, ↓Mine.ne2_nil] at nA4); (try k_sweep)))
  (k_with "call ref" => (k_here; (with_reducible show wpAny _ _ (call (Value.ref 154) _) _ _ _); k_dflt (refine enough_L (by k_asm) (by k_asm) (by k_asm) (by k_asm) (by k_mem) (by k_mem) (by k_extra "my_fn") (by with_reducible assumption) (by with_reducible assumption) (by k_updF) (by (intro o'; k_updF)) (by is_list) (by k_extra "my_intsN") (by k_ne) (by rfl) (by k_extra "my_room") (by k_extra "my_room") (by omega) (by first | assumption | rfl) (by is_list) (by k_extra "my_ints") (by k_extra "my_fit") (by k_ne) ?_ ?_ ?_ ?_); (all_goals (intro hFu; first | (exfalso; omega) | skip)); (all_goals first | (intro h' tk' nE taE F' N'; (have hchk : Fr _ _ _ _ := F'); clear hchk; (try k_sweep)) | (intro hDk; (have hchk : List.contains _ _ = true := hDk); clear hchk; first | exact absurd (hdkN.symm.trans hDk) Bool.false_ne_true | (intro h' tk' nE taE cE ncE F' N' nc'; (replace nc' := allNe_of nc'); ((replace nc' := Mine.toNe2 nc'); dsimp only [↓Mine.ne2_cons, ↓Mine.ne2_one, ↓Mine.ne2_nil] at nc'); (try k_sweep))) | (intro hDk hNmE; (have hchk : namedV _ _ = none := hNmE); clear hchk; first | exact absurd (hdkN.symm.trans hDk) Bool.false_ne_true.symm | exact absurd (eNm.symm.trans hNmE) (Option.some_ne_none _) | (intro h' tk' nE taE cE ncE F' N' nc'; (replace nc' := allNe_of nc'); ((replace nc' := Mine.toNe2 nc'); dsimp only [↓Mine.ne2_cons, ↓Mine.ne2_one, ↓Mine.ne2_nil] at nc'); (try k_sweep))) | (intro hDk h' tk' nE taE cE ncE rE usE naE fE hNmE F' N' nc' nr' hIE; first | exact absurd (hdkN.symm.trans hDk) Bool.false_ne_true.symm | exact absurd (eNm.symm.trans hNmE) (Option.some_ne_none _).symm | ((replace nr' := allNe_of nr'); ((replace nr' := Mine.toNe2 nr'); dsimp only [↓Mine.ne2_cons, ↓Mine.ne2_one, ↓Mine.ne2_nil] at nr'); (obtain rfl := Option.some.inj (eNm.symm.trans hNmE)); (rw [filt8 hrg] at hIE); (replace nc' := allNe_of nc'); ((replace nc' := Mine.toNe2 nc'); dsimp only [↓Mine.ne2_cons, ↓Mine.ne2_one, ↓Mine.ne2_nil] at nc'); (try k_sweep))))))
  (k_with "newList" => (k_here; k_dflt (refine newList_K (by k_asm) (by k_asm) ?_; k_whole); (first | (have hchk : hrdN = hrdN := rfl; clear hchk; intro l' h' F' N' l1) | (have hchk : drkN = drkN := rfl; clear hchk; intro hrdN h' F' N' l1) | (intro drkN h' F' N' l1)); (try k_lt l1); (try k_sweep)))
  (k_with "subscriptTail Name Slice ref ref" => (k_here; k_dflt (refine kms_slice_lit (by k_asm) (by k_asm) (by kmk_list) (by kmk_part) (by kmk_part) (by first | exact pick_push _ _ | exact pick_same _) ?_ (by with_unfolding_all rfl) (by kmk_pure) (by first | (rw [sizeLine_eq, Array.size_push]; omega) | (rw [sizeLine_eq]; omega))); intro D' h' F' N' l1; (try k_lt l1); (try k_sweep)))
  (k_with "binaryOp Mult ref int" => (k_here; (with_reducible show wpAny _ _ (binaryOp PySem.Operator.Mult (Value.ref _) (Value.int _ _)) _ _ _); (first | (refine my_mul0 (by k_asm) (by k_asm) (by k_mem) ?_) | (refine my_mul1 (by k_asm) (by k_asm) (by k_mem) ?_)); intro D' h' F' N' l1; (try k_lt l1); (try k_sweep)))
  (k_with "compareOp NotEq ref ref" => (k_here; (with_reducible show wpAny _ _ (compareOp PySem.CmpOp.NotEq (Value.ref _) (Value.ref _)) _ _ _); k_dflt (refine neListRef (by k_asm) (by k_mem) (by k_mem) (by k_mem) (by k_mem) (by with_reducible assumption) (by with_reducible assumption) (by k_extra "my_room") ?_)))
  (k_with "execs cons" => (k_here; (with_reducible show wpAny _ _ (execs [_, _] _) _ _ _); k_dflt (refine my_Rest ?_)))
  trivial
theorem askYB {prog : Program} {w : World} {p : Program} {loose : List Str} {mean : ExcName → Option Value} {mg mb : Str → Option Value} {g : Heap} {L : Addr} {s : Shared} {m : Str → Option Value} {A : Around} {fl c hid drk hrd x dx fn cA c1 c2 c3 I kr kp : Addr} {fo to oI ofn o1 o2 o3 oA : Obj} {its : Array Value} {n cnt mo nk np : Nat} {sure : Bool} {dv k' : Int} {ks : List Int} {vk vp : List Value} {H : List (List Int)} {vsA : Array Value} {t1 t2 t3 t4 tm tmo ta td ti tA : Tok} {oc : Obj} {qual : Str} {scope : Scope} {body : List Stmt} {Q : Flow → Shared → Prop} {fv : Value}
   (X : (hd.heap_1 w.params).In g) (T : Top p loose mean mg mb g) (e : fnParts (hd.heap_1 w.params) 240 = some (qual, scope, body)) (hh : A.handled = none)
   (st : AskSt prog w g L s.heap m A fl c hid drk hrd x dx fn cA c1 c2 c3 I kr kp fo to oI ofn o1 o2 o3 oA its n cnt mo nk np sure false true fv dv k' ks vk vp H vsA t1 t2 t3 t4 tm tmo ta td ti tA oc)
   (hroomN : ¬ mo ≤ cnt) (hdkN : [dv].contains (cnt : Int) = true)
   (out : AskOut prog w g L s fl c hid drk hrd x dx fn cA c1 c2 c3 I fo to oI ofn o1 o2 o3 oA cnt mo dv t1 t2 t3 t4 tm tmo td Q) :
   wpAny (model prog w) A (execs ((loopOf body).drop 3) (envOfC qual scope L 240 (.ref 239))) Q (fun _ _ => False) s := by
  k_extra "my_fill"
  have e0 := e
  refine' ask_have (a := fnParts (Mine.hd.heap_1 w.params) 240) ?el ?k
  case el => with_unfolding_all rfl
  intro e'
  rw [e'] at e
  cases e
  obtain ⟨_, dp, fr, gd, un⟩ := A
  obtain rfl : _ = none := hh
  obtain ⟨F, hs, hlim, hF, hAL, hdA, hvA, hce, hk, hp, hrg, hkl, hH, hHr, hd, hu, m1, m2, m3, m4, m5, m6, m7, m8, m9, m10, m11, N, n1, n2, n3, n4, n5, n6, n7⟩ := st
  subst hs
  ((replace n1 := Mine.toNe2 n1); dsimp only [↓Mine.ne2_cons, ↓Mine.ne2_one, ↓Mine.ne2_nil] at n1; (replace n2 := Mine.toNe2 n2); dsimp only [↓Mine.ne2_cons, ↓Mine.ne2_one, ↓Mine.ne2_nil] at n2; (replace n3 := Mine.toNe2 n3); dsimp only [↓Mine.ne2_cons, ↓Mine.ne2_one, ↓Mine.ne2_nil] at n3; (replace n4 := Mine.toNe2 n4); dsimp only [↓Mine.ne2_cons, ↓Mine.ne2_one, ↓Mine.ne2_nil] at n4; (replace n5 := Mine.toNe2 n5); dsimp only [↓Mine.ne2_cons, ↓Mine.ne2_one, ↓Mine.ne2_nil] at n5; (replace n6 := Mine.toNe2 n6); dsimp only [↓Mine.ne2_cons, ↓Mine.ne2_one, ↓Mine.ne2_nil] at n6; (replace n7 := Mine.toNe2 n7); dsimp only [↓Mine.ne2_cons, ↓Mine.ne2_one, ↓Mine.ne2_nil] at n7)
  have hvkl : vk.toArray.size ≤ 100 := by rw [List.size_toArray, hk.length]; omega
  have hvpl : vp.toArray.size ≤ 100 := by rw [List.size_toArray, hp.length]; omega
  have hilim : its.size ≤ 100 := by omega
  rw [pin m1, pin m2, pin m3, pin m4, pin m5, pin m6, pin m7, pin m8, pin m9, pin m10, pin m11] at F
  show wpAny _ _ (execs [_, _, _, _] _) _ _ _
  have hany : ([dv].any fun x => x == (its.size : Int)) = true := (any_dv _ _).trans hdkN
  k_steps
  all_goals first
    | (rename List.any _ _ = _ => q; rw [hany] at q; cases q; done)
    | (rename Fr _ _ _ _ => F'
       rename News _ _ _ _ => N'
       (try rw [hany] at F')
       unfold MyRest
       exact askXB (c := c) X T e0 rfl ⟨F', (Array.size_push _), (by omega), hce, hk, hp, hkl, hd, hu, (by with_unfolding_all rfl), (by with_unfolding_all rfl), (by with_unfolding_all rfl), (by with_unfolding_all rfl), (by with_unfolding_all rfl), (by with_unfolding_all rfl), (by with_unfolding_all rfl), (by with_unfolding_all rfl), (by with_unfolding_all rfl), (by with_unfolding_all rfl), (by with_unfolding_all rfl), (by with_unfolding_all rfl), (by with_unfolding_all rfl), News.cut N' (by k_extra "my_sub")⟩ out)
end
section
theorem lines_AskYC : True := by
  w_top off
  k_with_none
  (k_with "my_pj" => (with_reducible first | assumption | exact Mine.pj1l (by assumption) | exact Mine.pj1r (by assumption) | exact Mine.pj2l (by assumption) | exact Mine.pj2r (by assumption) | exact Mine.pj3l (by assumption) | exact Mine.pj3r (by assumption) | exact Mine.pj4l (by assumption) | exact Mine.pj4r (by assumption) | exact Mine.pj5l (by assumption) | exact Mine.pj5r (by assumption) | exact Mine.pj6l (by assumption) | exact Mine.pj6r (by assumption) | exact Mine.pj7l (by assumption) | exact Mine.pj7r (by assumption) | exact Mine.pj8l (by assumption) | exact Mine.pj8r (by assumption) | exact Mine.pj9l (by assumption) | exact Mine.pj9r (by assumption) | exact Mine.pj10l (by assumption) | exact Mine.pj10r (by assumption) | exact Mine.pj11l (by assumption) | exact Mine.pj11r (by assumption) | exact Mine.pj12l (by assumption) | exact Mine.pj12r (by assumption) | exact Mine.pj13l (by assumption) | exact Mine.pj13r (by assumption) | exact Mine.pj14l (by assumption) | exact Mine.pj14r (by assumption) | exact Mine.pj15l (by assumption) | exact Mine.pj15r (by assumption) | exact Mine.pj16l (by assumption) | exact Mine.pj16r (by assumption)))
  (k_with "my_ne" => (refine neN ?_; (try dsimp only); first | with_reducible assumption | exact Ne.symm (by with_reducible assumption) | (refine Mine.neOr ?_; simp only [*, true_or, or_true, ne_eq, not_false_eq_true]; done) | (refine Ne.symm (Mine.neOr ?_); simp only [*, true_or, or_true, ne_eq, not_false_eq_true]; done) | omega))
  (k_with "my_room" => first | exact room1 (by with_reducible assumption) rfl rfl | exact room0 (by with_reducible assumption) rfl rfl | ((simp only [Around.deeper, Around.in1, recursionLimit, cLine] at *); omega))
  (k_with "my_fill" => ((have hfill : (fun (_ : OpenLaw) (_ : Params → Frag) => True) PySem.Challenge.rw_rg0207_01 Mine.hd.heap_1 := by k_fill; trivial); clear hfill))
  (k_with "my_in" => ((case k6 => k_is); (case k7 => k_is); (case k8 => first | exact Nat.lt_of_le_of_lt (Nat.le_add_right _ _) (by with_reducible assumption) | (simp only [recursionLimit] at *; omega)); (case k9 => first | exact BindsTo.of_eq rfl | exact binds_K (Frag.In.keeps (by assumption) (by assumption)) rfl (by k_is) rfl rfl rfl); (case c5 => decide); (case kB => exact locs rfl); (case c2 => exact rfl); (case c3 => exact rfl); (case c4 => exact rfl)))
  (k_with "my_sub" => repeat' (first | exact List.forall_mem_nil _ | refine List.forall_mem_cons.mpr ⟨?_, ?_⟩ | k_mem))
  (k_with "exec For Name Call cons nil" => (k_here; k_dflt (refine my_For ?_)))
  (k_with "exec For Name Name cons nil" => (k_here; k_dflt (refine my_For ?_)))
  (k_with "newTuple" => (k_here; k_dflt (refine my_newTuple (by k_asm) (by k_asm) ?_ (by size_fits); k_whole); intro l' h' F' N' l1; (try k_lt l1); (try k_sweep)))
  (k_with "call type:range" => (k_here; (with_reducible rename Fr _ _ _ _ => F'); (with_reducible rename News _ _ _ _ => N'); first | (with_unfolding_all refine range1_rows F' N' ?_; intro h' tk' t' u' v' R' F' N' k'; (try k_sweep)) | (with_unfolding_all refine range2_rows F' N' ?_; intro h' tk' t' u' v' R' F' N' k'; (try k_sweep))))
  (k_with "my_inC" => ((case k6 => k_is); (case k7 => k_is); (case k8 => first | exact Nat.lt_of_le_of_lt (Nat.le_add_right _ _) (by with_reducible assumption) | (simp only [recursionLimit] at *; omega)); (case k9 => exact BindsTo.of_eq rfl); (case kB => exact rfl); (case kD => decide +kernel); (case c2 => exact rfl); (case c3 => exact rfl); (case c4 => exact rfl)))
  (k_with "eval Name" => (k_here; kc_free; k_dflt (refine name_free (by k_asm) (by rfl) (by assumption) (by assumption) ?_ (by rfl) (by rfl); k_whole)))
  (k_with "last call builtin:len" => (k_here; k_dflt (refine call_len_list (by is_list) (by ((try simp only [Array.size_push, List.size_toArray]); omega)) ?_; k_whole); (try simp only [Array.size_push])))
  (k_with "my_ints" => first | assumption | l_ints | l_intsW)
  (k_with "my_fit" => ((try simp only [sizeLine_eq, List.length_append, List.length_cons, List.length_nil, List.length_reverse, List.length_map, List.size_toArray, Array.size_push]); omega))
  (k_with "binaryOp Add ref ref" => (k_here; (with_reducible show wpAny _ _ (binaryOp _ (Value.ref _) (Value.ref _)) _ _ _); k_dflt (refine my_addL (by k_asm) (by k_asm) (by kmk_list) (by kmk_list) (by k_extra "my_ints") (by k_extra "my_ints") ?_ (by k_extra "my_fit"); k_whole); intro D' h' F' N' l1 hI'; (try k_lt l1); (try k_sweep)))
  (k_with "exec While Compare cons nil" => (k_here; k_dflt (refine my_While ?_)))
  (k_with "my_len" => ((try simp only [Around.deeper, Around.in1, recursionLimit, cLine, List.length_append, List.length_take, List.length_drop, List.length_cons, List.length_nil] at *); omega))
  (k_with "eval ListComp" => (k_here; first | (lct_look; k_dflt (refine LCt.ListComp_T (F₀ := by k_asm) (by with_unfolding_all rfl) (by decide) (by rfl) (by decide) (by rfl) ?_)) | k_dflt (refine LCg.ListComp_U (F₀ := by k_asm) (by with_unfolding_all rfl) (by decide) (by rfl) (by decide) (by rfl) ?_)))
  (k_with "exec Assign cons ListComp" => (k_here; first | (lct_look; k_dflt (refine LCt.Assign_ListComp_T (F₀ := by k_asm) (by rfl) (by with_unfolding_all rfl) (by with_unfolding_all rfl) (by decide) (by rfl) (by decide) (by rfl) (by rfl) (by rfl) ?_)) | k_dflt (refine LCg.Assign_ListComp_U (F₀ := by k_asm) (by rfl) (by with_unfolding_all rfl) (by with_unfolding_all rfl) (by decide) (by rfl) (by decide) (by rfl) (by rfl) (by rfl) ?_)))
  (k_with "call ref" => (k_here; (with_reducible show wpAny _ _ (call (Value.ref 228) _) _ _ _); k_dflt (refine named_K (by k_asm) (by k_asm) (by k_asm) (by k_asm) (by rfl) (by k_extra "my_room") (by k_extra "my_room") (by assumption) (by is_list) (by first | assumption | l_ints | l_intsW) (by assumption) ?_; k_whole); intro h' tk' rK F' N' hNm; (try k_sweep); (rcases hNm with ⟨hr', eNm⟩ | ⟨aN, vsN, fN, hr', eNm, hlN, hiN⟩ <;> subst hr'); all_goals (try (have hzN := named_len (by assumption) eNm hiN; have hfN := named_len2 (by assumption) eNm))))
  (k_with "call ref" => (k_here; (with_reducible show wpAny _ _ (call (Value.ref 216) _) _ _ _); k_dflt (refine swig_K (by k_asm) (by k_asm) (by k_asm) (by k_asm) (by k_updF) (by assumption) (by rfl) (by k_extra "my_room") (by k_extra "my_room") (by is_list) (by assumption) (by assumption) (by omega) (by omega) (by omega) (by omega) ?_; k_whole); (first | (have hchk : dvN = dvN := rfl; clear hchk; intro h' tk' vK tvK fo' ti F' N' hfo' hv0 hv1) | (intro h' tk' dvN tdN fo' ti F' N' hfo' hd0 hd1)); (try k_sweep)))
  (k_with "call ref" => (k_here; (with_reducible show wpAny _ _ (call (Value.ref 169) _) _ _ _); k_dflt (refine mkShr (by k_asm) (by k_asm) (by k_asm) (by k_asm) (by rfl) (by k_extra "my_room") (by k_extra "my_room") ?_; k_whole); intro h' tk' x' dx' t1 t2 t3 t4 ta F' N' l1 l2; (try k_lt l1); (replace l2 := ltN l2); (try k_sweep)))
  (k_with "call ref" => (k_here; (with_reducible show wpAny _ _ (call (Value.ref 223) _) _ _ _); k_dflt (refine keys_K (by k_asm) (by k_asm) (by k_asm) (by k_asm) (by k_updF) (by assumption) (by rfl) (by k_extra "my_room") (by k_extra "my_room") (by is_list) (by assumption) (by assumption) (by omega) (by omega) (by omega) (by omega) ?_; k_whole); intro h' tk' rK vsK nK foundsK foK tiK kk F' N' lr hfo' hk0 hk1 hv hnd hrg hlen'; (replace lr := allNe_of lr); ((replace lr := Mine.toNe2 lr); dsimp only [↓Mine.ne2_cons, ↓Mine.ne2_one, ↓Mine.ne2_nil] at lr); (try k_sweep)))
  (k_with "my_intsN" => first | assumption | exact IntsAre.nil | l_ints | l_intsW | exact IntsAre.cons _ _ IntsAre.nil)
  (k_with "my_fn" => exact AskL.fn (by with_reducible assumption) (by k_asm) (codeRec_news (by k_asm) (by k_mem) (by with_reducible assumption) (by with_reducible assumption)) (by k_mem) (by k_mem) (by k_mem) (by k_mem))
  (k_with "call ref" => (k_here; (with_reducible show wpAny _ _ (call (Value.ref 235) _) _ _ _); k_dflt (refine asker_K0 (by k_asm) (by k_asm) (by k_asm) (by k_asm) (by with_reducible assumption) (by k_updF) (by rfl) (by k_extra "my_room") (by k_extra "my_room") ?_); intro h' tk' rA cA cA1 cA2 cA3 foA oA1 oA2 oA3 ocA toA vsA tA hAL hTA hdA hvA F' N' nA nA1 nA2 nA3 nA4; (replace nA := allNe_of nA); (replace nA1 := allNe_of nA1); (replace nA2 := allNe_of nA2); (replace nA3 := allNe_of nA3); (replace nA4 := allNe_of nA4); ((replace nA := Mine.toNe2 nA); dsimp only [↓Mine.ne2_cons, ↓Mine.ne2_one, ↓Mine.ne2_nil] at nA; (replace nA1 := Mine.toNe2 nA1); dsimp only [↓Mine.ne2_cons, ↓Mine.ne2_one, ↓Mine.ne2_nil] at nA1; (replace nA2 := Mine.toNe2 nA2); dsimp only [↓Mine.ne2_cons, ↓Mine.ne2_one, ↓Mine.ne2_nil] at nA2; (replace nA3 := Mine.toNe2 nA3); dsimp only [↓Mine.ne2_cons, ↓Mine.ne2_one, ↓Mine.ne2_nil] at nA3; (replace nA4 := Mine.toNe2 nA4); dsimp only [↓Mine.ne2_cons, ↓Mine.ne2_one, ↓Mine.ne2_nil] at nA4); (try k_sweep)))
  (k_with "call ref" => (k_here; (with_reducible show wpAny _ _ (call (Value.ref 154) _) _ _ _); k_dflt (refine enough_L (by k_asm) (by k_asm) (by k_asm) (by k_asm) (by k_mem) (by k_mem) (by k_extra "my_fn") (by with_reducible assumption) (by with_reducible assumption) (by k_updF) (by (intro o'; k_updF)) (by is_list) (by k_extra "my_intsN") (by k_ne) (by rfl) (by k_extra "my_room") (by k_extra "my_room") (by omega) (by first | assumption | rfl) (by is_list) (by k_extra "my_ints") (by k_extra "my_fit") (by k_ne) ?_ ?_ ?_ ?_); (all_goals (intro hFu; first | (exfalso; omega) | skip)); (all_goals first | (intro h' tk' nE taE F' N'; (have hchk : Fr _ _ _ _ := F'); clear hchk; (try k_sweep)) | (intro hDk; (have hchk : List.contains _ _ = true := hDk); clear hchk; first | exact absurd (hdkN.symm.trans hDk) Bool.false_ne_true | (intro h' tk' nE taE cE ncE F' N' nc'; (replace nc' := allNe_of nc'); ((replace nc' := Mine.toNe2 nc'); dsimp only [↓Mine.ne2_cons, ↓Mine.ne2_one, ↓Mine.ne2_nil] at nc'); (try k_sweep))) | (intro hDk hNmE; (have hchk : namedV _ _ = none := hNmE); clear hchk; first | exact absurd (hdkN.symm.trans hDk) Bool.false_ne_true.symm | exact absurd (eNm.symm.trans hNmE) (Option.some_ne_none _) | (intro h' tk' nE taE cE ncE F' N' nc'; (replace nc' := allNe_of nc'); ((replace nc' := Mine.toNe2 nc'); dsimp only [↓Mine.ne2_cons, ↓Mine.ne2_one, ↓Mine.ne2_nil] at nc'); (try k_sweep))) | (intro hDk h' tk' nE taE cE ncE rE usE naE fE hNmE F' N' nc' nr' hIE; first | exact absurd (hdkN.symm.trans hDk) Bool.false_ne_true.symm | exact absurd (eNm.symm.trans hNmE) (Option.some_ne_none _).symm | ((replace nr' := allNe_of nr'); ((replace nr' := Mine.toNe2 nr'); dsimp only [↓Mine.ne2_cons, ↓Mine.ne2_one, ↓Mine.ne2_nil] at nr'); (obtain rfl := Option.some.inj (eNm.symm.trans hNmE)); (rw [filt8 hrg] at hIE); (replace nc' := allNe_of nc'); ((replace nc' := Mine.toNe2 nc'); dsimp only [↓Mine.ne2_cons, ↓Mine.ne2_one, ↓Mine.ne2_nil] at nc'); (try k_sweep))))))
  (k_with "newList" => (k_here; k_dflt (refine newList_K (by k_asm) (by k_asm) ?_; k_whole); (first | (have hchk : hrdN = hrdN := rfl; clear hchk; intro l' h' F' N' l1) | (have hchk : drkN = drkN := rfl; clear hchk; intro hrdN h' F' N' l1) | (intro drkN h' F' N' l1)); (try k_lt l1); (try k_sweep)))
  (k_with "subscriptTail Name Slice ref ref" => (k_here; k_dflt (refine kms_slice_lit (by k_asm) (by k_asm) (by kmk_list) (by kmk_part) (by kmk_part) (by first | exact pick_push _ _ | exact pick_same _) ?_ (by with_unfolding_all rfl) (by kmk_pure) (by first | (rw [sizeLine_eq, Array.size_push]; omega) | (rw [sizeLine_eq]; omega))); intro D' h' F' N' l1; (try k_lt l1); (try k_sweep)))
  (k_with "binaryOp Mult ref int" => (k_here; (with_reducible show wpAny _ _ (binaryOp PySem.Operator.Mult (Value.ref _) (Value.int _ _)) _ _ _); (first | (refine my_mul0 (by k_asm) (by k_asm) (by k_mem) ?_) | (refine my_mul1 (by k_asm) (by k_asm) (by k_mem) ?_)); intro D' h' F' N' l1; (try k_lt l1); (try k_sweep)))
  (k_with "compareOp NotEq ref ref" => (k_here; (with_reducible show wpAny _ _ (compareOp PySem.CmpOp.NotEq (Value.ref _) (Value.ref _)) _ _ _); k_dflt (refine neListRef (by k_asm) (by k_mem) (by k_mem) (by k_mem) (by k_mem) (by with_reducible assumption) (by with_reducible assumption) (by k_extra "my_room") ?_)))
  (k_with "execs cons" => (k_here; (with_reducible show wpAny _ _ (execs [_, _] _) _ _ _); k_dflt (refine my_Rest ?_)))
  trivial
theorem askYC {prog : Program} {w : World} {p : Program} {loose : List Str} {mean : ExcName → Option Value} {mg mb : Str → Option Value} {g : Heap} {L : Addr} {s : Shared} {m : Str → Option Value} {A : Around} {fl c hid drk hrd x dx fn cA c1 c2 c3 I kr kp : Addr} {fo to oI ofn o1 o2 o3 oA : Obj} {its : Array Value} {n cnt mo nk np : Nat} {sure : Bool} {dv k' : Int} {ks : List Int} {vk vp : List Value} {H : List (List Int)} {vsA : Array Value} {t1 t2 t3 t4 tm tmo ta td ti tA : Tok} {oc : Obj} {qual : Str} {scope : Scope} {body : List Stmt} {Q : Flow → Shared → Prop} 
   (X : (hd.heap_1 w.params).In g) (T : Top p loose mean mg mb g) (e : fnParts (hd.heap_1 w.params) 240 = some (qual, scope, body)) (hh : A.handled = none)
   (st : AskSt prog w g L s.heap m A fl c hid drk hrd x dx fn cA c1 c2 c3 I kr kp fo to oI ofn o1 o2 o3 oA its n cnt mo nk np sure sure true .none dv k' ks vk vp H vsA t1 t2 t3 t4 tm tmo ta td ti tA oc)
   (hroomN : ¬ mo ≤ cnt) (hdkN : [dv].contains (cnt : Int) = false) (eNm : namedV H ks = none)
   (out : AskOut prog w g L s fl c hid drk hrd x dx fn cA c1 c2 c3 I fo to oI ofn o1 o2 o3 oA cnt mo dv t1 t2 t3 t4 tm tmo td Q) :
   wpAny (model prog w) A (execs ((loopOf body).drop 3) (envOfC qual scope L 240 (.ref 239))) Q (fun _ _ => False) s := by
  k_extra "my_fill"
  have e0 := e
  refine' ask_have (a := fnParts (Mine.hd.heap_1 w.params) 240) ?el ?k
  case el => with_unfolding_all rfl
  intro e'
  rw [e'] at e
  cases e
  obtain ⟨_, dp, fr, gd, un⟩ := A
  obtain rfl : _ = none := hh
  obtain ⟨F, hs, hlim, hF, hAL, hdA, hvA, hce, hk, hp, hrg, hkl, hH, hHr, hd, hu, m1, m2, m3, m4, m5, m6, m7, m8, m9, m10, m11, N, n1, n2, n3, n4, n5, n6, n7⟩ := st
  subst hs
  ((replace n1 := Mine.toNe2 n1); dsimp only [↓Mine.ne2_cons, ↓Mine.ne2_one, ↓Mine.ne2_nil] at n1; (replace n2 := Mine.toNe2 n2); dsimp only [↓Mine.ne2_cons, ↓Mine.ne2_one, ↓Mine.ne2_nil] at n2; (replace n3 := Mine.toNe2 n3); dsimp only [↓Mine.ne2_cons, ↓Mine.ne2_one, ↓Mine.ne2_nil] at n3; (replace n4 := Mine.toNe2 n4); dsimp only [↓Mine.ne2_cons, ↓Mine.ne2_one, ↓Mine.ne2_nil] at n4; (replace n5 := Mine.toNe2 n5); dsimp only [↓Mine.ne2_cons, ↓Mine.ne2_one, ↓Mine.ne2_nil] at n5; (replace n6 := Mine.toNe2 n6); dsimp only [↓Mine.ne2_cons, ↓Mine.ne2_one, ↓Mine.ne2_nil] at n6; (replace n7 := Mine.toNe2 n7); dsimp only [↓Mine.ne2_cons, ↓Mine.ne2_one, ↓Mine.ne2_nil] at n7)
  have hvkl : vk.toArray.size ≤ 100 := by rw [List.size_toArray, hk.length]; omega
  have hvpl : vp.toArray.size ≤ 100 := by rw [List.size_toArray, hp.length]; omega
  have hilim : its.size ≤ 100 := by omega
  rw [pin m1, pin m2, pin m3, pin m4, pin m5, pin m6, pin m7, pin m8, pin m9, pin m10, pin m11] at F
  show wpAny _ _ (execs [_, _, _, _] _) _ _ _
  have hany : ([dv].any fun x => x == (its.size : Int)) = false := (any_dv _ _).trans hdkN
  k_steps
  all_goals first
    | (rename List.any _ _ = _ => q; rw [hany] at q; cases q; done)
    | (rename Fr _ _ _ _ => F'
       rename News _ _ _ _ => N'
       (try rw [hany] at F')
       unfold MyRest
       exact askXB (c := c) X T e0 rfl ⟨F', (Array.size_push _), (by omega), hce, hk, hp, hkl, hd, hu, (by with_unfolding_all rfl), (by with_unfolding_all rfl), (by with_unfolding_all rfl), (by with_unfolding_all rfl), (by with_unfolding_all rfl), (by with_unfolding_all rfl), (by with_unfolding_all rfl), (by with_unfolding_all rfl), (by with_unfolding_all rfl), (by with_unfolding_all rfl), (by with_unfolding_all rfl), (by with_unfolding_all rfl), (by with_unfolding_all rfl), News.cut N' (by k_extra "my_sub")⟩ out)
end
section
theorem lines_AskYD : True := by
  w_top off
  k_with_none
  (k_with "my_pj" => (with_reducible first | assumption | exact Mine.pj1l (by assumption) | exact Mine.pj1r (by assumption) | exact Mine.pj2l (by assumption) | exact Mine.pj2r (by assumption) | exact Mine.pj3l (by assumption) | exact Mine.pj3r (by assumption) | exact Mine.pj4l (by assumption) | exact Mine.pj4r (by assumption) | exact Mine.pj5l (by assumption) | exact Mine.pj5r (by assumption) | exact Mine.pj6l (by assumption) | exact Mine.pj6r (by assumption) | exact Mine.pj7l (by assumption) | exact Mine.pj7r (by assumption) | exact Mine.pj8l (by assumption) | exact Mine.pj8r (by assumption) | exact Mine.pj9l (by assumption) | exact Mine.pj9r (by assumption) | exact Mine.pj10l (by assumption) | exact Mine.pj10r (by assumption) | exact Mine.pj11l (by assumption) | exact Mine.pj11r (by assumption) | exact Mine.pj12l (by assumption) | exact Mine.pj12r (by assumption) | exact Mine.pj13l (by assumption) | exact Mine.pj13r (by assumption) | exact Mine.pj14l (by assumption) | exact Mine.pj14r (by assumption) | exact Mine.pj15l (by assumption) | exact Mine.pj15r (by assumption) | exact Mine.pj16l (by assumption) | exact Mine.pj16r (by assumption)))
  (k_with "my_ne" => (refine neN ?_; (try dsimp only); first | with_reducible assumption | exact Ne.symm (by with_reducible assumption) | (refine Mine.neOr ?_; simp only [*, true_or, or_true, ne_eq, not_false_eq_true]; done) | (refine Ne.symm (Mine.neOr ?_); simp only [*, true_or, or_true, ne_eq, not_false_eq_true]; done) | omega))
  (k_with "my_room" => first | exact room1 (by with_reducible assumption) rfl rfl | exact room0 (by with_reducible assumption) rfl rfl | ((simp only [Around.deeper, Around.in1, recursionLimit, cLine] at *); omega))
  (k_with "my_fill" => ((have hfill : (fun (_ : OpenLaw) (_ : Params → Frag) => True) PySem.Challenge.rw_rg0207_01 Mine.hd.heap_1 := by k_fill; trivial); clear hfill))
  (k_with "my_in" => ((case k6 => k_is); (case k7 => k_is); (case k8 => first | exact Nat.lt_of_le_of_lt (Nat.le_add_right _ _) (by with_reducible assumption) | (simp only [recursionLimit] at *; omega)); (case k9 => first | exact BindsTo.of_eq rfl | exact binds_K (Frag.In.keeps (by assumption) (by assumption)) rfl (by k_is) rfl rfl rfl); (case c5 => decide); (case kB => exact locs rfl); (case c2 => exact rfl); (case c3 => exact rfl); (case c4 => exact rfl)))
  (k_with "my_sub" => repeat' (first | exact List.forall_mem_nil _ | refine List.forall_mem_cons.mpr ⟨?_, ?_⟩ | k_mem))
  (k_with "exec For Name Call cons nil" => (k_here; k_dflt (refine my_For ?_)))
  (k_with "exec For Name Name cons nil" => (k_here; k_dflt (refine my_For ?_)))
  (k_with "newTuple" => (k_here; k_dflt (refine my_newTuple (by k_asm) (by k_asm) ?_ (by size_fits); k_whole); intro l' h' F' N' l1; (try k_lt l1); (try k_sweep)))
  (k_with "call type:range" => (k_here; (with_reducible rename Fr _ _ _ _ => F'); (with_reducible rename News _ _ _ _ => N'); first | (with_unfolding_all refine range1_rows F' N' ?_; intro h' tk' t' u' v' R' F' N' k'; (try k_sweep)) | (with_unfolding_all refine range2_rows F' N' ?_; intro h' tk' t' u' v' R' F' N' k'; (try k_sweep))))
  (k_with "my_inC" => ((case k6 => k_is); (case k7 => k_is); (case k8 => first | exact Nat.lt_of_le_of_lt (Nat.le_add_right _ _) (by with_reducible assumption) | (simp only [recursionLimit] at *; omega)); (case k9 => exact BindsTo.of_eq rfl); (case kB => exact rfl); (case kD => decide +kernel); (case c2 => exact rfl); (case c3 => exact rfl); (case c4 => exact rfl)))
  (k_with "eval Name" => (k_here; kc_free; k_dflt (refine name_free (by k_asm) (by rfl) (by assumption) (by assumption) ?_ (by rfl) (by rfl); k_whole)))
  (k_with "last call builtin:len" => (k_here; k_dflt (refine call_len_list (by is_list) (by ((try simp only [Array.size_push, List.size_toArray]); omega)) ?_; k_whole); (try simp only [Array.size_push])))
  (k_with "my_ints" => first | assumption | l_ints | l_intsW)
  (k_with "my_fit" => ((try simp only [sizeLine_eq, List.length_append, List.length_cons, List.length_nil, List.length_reverse, List.length_map, List.size_toArray, Array.size_push]); omega))
  (k_with "binaryOp Add ref ref" => (k_here; (with_reducible show wpAny _ _ (binaryOp _ (Value.ref _) (Value.ref _)) _ _ _); k_dflt (refine my_addL (by k_asm) (by k_asm) (by kmk_list) (by kmk_list) (by k_extra "my_ints") (by k_extra "my_ints") ?_ (by k_extra "my_fit"); k_whole); intro D' h' F' N' l1 hI'; (try k_lt l1); (try k_sweep)))
  (k_with "exec While Compare cons nil" => (k_here; k_dflt (refine my_While ?_)))
  (k_with "my_len" => ((try simp only [Around.deeper, Around.in1, recursionLimit, cLine, List.length_append, List.length_take, List.length_drop, List.length_cons, List.length_nil] at *); omega))
  (k_with "eval ListComp" => (k_here; first | (lct_look; k_dflt (refine LCt.ListComp_T (F₀ := by k_asm) (by with_unfolding_all rfl) (by decide) (by rfl) (by decide) (by rfl) ?_)) | k_dflt (refine LCg.ListComp_U (F₀ := by k_asm) (by with_unfolding_all rfl) (by decide) (by rfl) (by decide) (by rfl) ?_)))
  (k_with "exec Assign cons ListComp" => (k_here; first | (lct_look; k_dflt (refine LCt.Assign_ListComp_T (F₀ := by k_asm) (by rfl) (by with_unfolding_all rfl) (by with_unfolding_all rfl) (by decide) (by rfl) (by decide) (by rfl) (by rfl) (by rfl) ?_)) | k_dflt (refine LCg.Assign_ListComp_U (F₀ := by k_asm) (by rfl) (by with_unfolding_all rfl) (by with_unfolding_all rfl) (by decide) (by rfl) (by decide) (by rfl) (by rfl) (by rfl) ?_)))
  (k_with "call ref" => (k_here; (with_reducible show wpAny _ _ (call (Value.ref 228) _) _ _ _); k_dflt (refine named_K (by k_asm) (by k_asm) (by k_asm) (by k_asm) (by rfl) (by k_extra "my_room") (by k_extra "my_room") (by assumption) (by is_list) (by first | assumption | l_ints | l_intsW) (by assumption) ?_; k_whole); intro h' tk' rK F' N' hNm; (try k_sweep); (rcases hNm with ⟨hr', eNm⟩ | ⟨aN, vsN, fN, hr', eNm, hlN, hiN⟩ <;> subst hr'); all_goals (try (have hzN := named_len (by assumption) eNm hiN; have hfN := named_len2 (by assumption) eNm))))
  (k_with "call ref" => (k_here; (with_reducible show wpAny _ _ (call (Value.ref 216) _) _ _ _); k_dflt (refine swig_K (by k_asm) (by k_asm) (by k_asm) (by k_asm) (by k_updF) (by assumption) (by rfl) (by k_extra "my_room") (by k_extra "my_room") (by is_list) (by assumption) (by assumption) (by omega) (by omega) (by omega) (by omega) ?_; k_whole); (first | (have hchk : dvN = dvN := rfl; clear hchk; intro h' tk' vK tvK fo' ti F' N' hfo' hv0 hv1) | (intro h' tk' dvN tdN fo' ti F' N' hfo' hd0 hd1)); (try k_sweep)))
  (k_with "call ref" => (k_here; (with_reducible show wpAny _ _ (call (Value.ref 169) _) _ _ _); k_dflt (refine mkShr (by k_asm) (by k_asm) (by k_asm) (by k_asm) (by rfl) (by k_extra "my_room") (by k_extra "my_room") ?_; k_whole); intro h' tk' x' dx' t1 t2 t3 t4 ta F' N' l1 l2; (try k_lt l1); (replace l2 := ltN l2); (try k_sweep)))
  (k_with "call ref" => (k_here; (with_reducible show wpAny _ _ (call (Value.ref 223) _) _ _ _); k_dflt (refine keys_K (by k_asm) (by k_asm) (by k_asm) (by k_asm) (by k_updF) (by assumption) (by rfl) (by k_extra "my_room") (by k_extra "my_room") (by is_list) (by assumption) (by assumption) (by omega) (by omega) (by omega) (by omega) ?_; k_whole); intro h' tk' rK vsK nK foundsK foK tiK kk F' N' lr hfo' hk0 hk1 hv hnd hrg hlen'; (replace lr := allNe_of lr); ((replace lr := Mine.toNe2 lr); dsimp only [↓Mine.ne2_cons, ↓Mine.ne2_one, ↓Mine.ne2_nil] at lr); (try k_sweep)))
  (k_with "my_intsN" => first | assumption | exact IntsAre.nil | l_ints | l_intsW | exact IntsAre.cons _ _ IntsAre.nil)
  (k_with "my_fn" => exact AskL.fn (by with_reducible assumption) (by k_asm) (codeRec_news (by k_asm) (by k_mem) (by with_reducible assumption) (by with_reducible assumption)) (by k_mem) (by k_mem) (by k_mem) (by k_mem))
  (k_with "call ref" => (k_here; (with_reducible show wpAny _ _ (call (Value.ref 235) _) _ _ _); k_dflt (refine asker_K0 (by k_asm) (by k_asm) (by k_asm) (by k_asm) (by with_reducible assumption) (by k_updF) (by rfl) (by k_extra "my_room") (by k_extra "my_room") ?_); intro h' tk' rA cA cA1 cA2 cA3 foA oA1 oA2 oA3 ocA toA vsA tA hAL hTA hdA hvA F' N' nA nA1 nA2 nA3 nA4; (replace nA := allNe_of nA); (replace nA1 := allNe_of nA1); (replace nA2 := allNe_of nA2); (replace nA3 := allNe_of nA3); (replace nA4 := allNe_of nA4); ((replace nA := Mine.toNe2 nA); dsimp only [↓Mine.ne2_cons, ↓Mine.ne2_one, ↓Mine.ne2_nil] at nA; (replace nA1 := Mine.toNe2 nA1); dsimp only [↓Mine.ne2_cons, ↓Mine.ne2_one, ↓Mine.ne2_nil] at nA1; (replace nA2 := Mine.toNe2 nA2); dsimp only [↓Mine.ne2_cons, ↓Mine.ne2_one, ↓Mine.ne2_nil] at nA2; (replace nA3 := Mine.toNe2 nA3); dsimp only [↓Mine.ne2_cons, ↓Mine.ne2_one, ↓Mine.ne2_nil] at nA3; (replace nA4 := Mine.toNe2 nA4); dsimp only [↓Mine.ne2_cons, ↓Mine.ne2_one, ↓Mine.ne2_nil] at nA4); (try k_sweep)))
  (k_with "call ref" => (k_here; (with_reducible show wpAny _ _ (call (Value.ref 154) _) _ _ _); k_dflt (refine enough_L (by k_asm) (by k_asm) (by k_asm) (by k_asm) (by k_mem) (by k_mem) (by k_extra "my_fn") (by with_reducible assumption) (by with_reducible assumption) (by k_updF) (by (intro o'; k_updF)) (by is_list) (by k_extra "my_intsN") (by k_ne) (by rfl) (by k_extra "my_room") (by k_extra "my_room") (by omega) (by first | assumption | rfl) (by is_list) (by k_extra "my_ints") (by k_extra "my_fit") (by k_ne) ?_ ?_ ?_ ?_); (all_goals (intro hFu; first | (exfalso; omega) | skip)); (all_goals first | (intro h' tk' nE taE F' N'; (have hchk : Fr _ _ _ _ := F'); clear hchk; (try k_sweep)) | (intro hDk; (have hchk : List.contains _ _ = true := hDk); clear hchk; first | exact absurd (hdkN.symm.trans hDk) Bool.false_ne_true | (intro h' tk' nE taE cE ncE F' N' nc'; (replace nc' := allNe_of nc'); ((replace nc' := Mine.toNe2 nc'); dsimp only [↓Mine.ne2_cons, ↓Mine.ne2_one, ↓Mine.ne2_nil] at nc'); (try k_sweep))) | (intro hDk hNmE; (have hchk : namedV _ _ = none := hNmE); clear hchk; first | exact absurd (hdkN.symm.trans hDk) Bool.false_ne_true.symm | exact absurd (eNm.symm.trans hNmE) (Option.some_ne_none _) | (intro h' tk' nE taE cE ncE F' N' nc'; (replace nc' := allNe_of nc'); ((replace nc' := Mine.toNe2 nc'); dsimp only [↓Mine.ne2_cons, ↓Mine.ne2_one, ↓Mine.ne2_nil] at nc'); (try k_sweep))) | (intro hDk h' tk' nE taE cE ncE rE usE naE fE hNmE F' N' nc' nr' hIE; first | exact absurd (hdkN.symm.trans hDk) Bool.false_ne_true.symm | exact absurd (eNm.symm.trans hNmE) (Option.some_ne_none _).symm | ((replace nr' := allNe_of nr'); ((replace nr' := Mine.toNe2 nr'); dsimp only [↓Mine.ne2_cons, ↓Mine.ne2_one, ↓Mine.ne2_nil] at nr'); (obtain rfl := Option.some.inj (eNm.symm.trans hNmE)); (rw [filt8 hrg] at hIE); (replace nc' := allNe_of nc'); ((replace nc' := Mine.toNe2 nc'); dsimp only [↓Mine.ne2_cons, ↓Mine.ne2_one, ↓Mine.ne2_nil] at nc'); (try k_sweep))))))
  (k_with "newList" => (k_here; k_dflt (refine newList_K (by k_asm) (by k_asm) ?_; k_whole); (first | (have hchk : hrdN = hrdN := rfl; clear hchk; intro l' h' F' N' l1) | (have hchk : drkN = drkN := rfl; clear hchk; intro hrdN h' F' N' l1) | (intro drkN h' F' N' l1)); (try k_lt l1); (try k_sweep)))
  (k_with "subscriptTail Name Slice ref ref" => (k_here; k_dflt (refine kms_slice_lit (by k_asm) (by k_asm) (by kmk_list) (by kmk_part) (by kmk_part) (by first | exact pick_push _ _ | exact pick_same _) ?_ (by with_unfolding_all rfl) (by kmk_pure) (by first | (rw [sizeLine_eq, Array.size_push]; omega) | (rw [sizeLine_eq]; omega))); intro D' h' F' N' l1; (try k_lt l1); (try k_sweep)))
  (k_with "binaryOp Mult ref int" => (k_here; (with_reducible show wpAny _ _ (binaryOp PySem.Operator.Mult (Value.ref _) (Value.int _ _)) _ _ _); (first | (refine my_mul0 (by k_asm) (by k_asm) (by k_mem) ?_) | (refine my_mul1 (by k_asm) (by k_asm) (by k_mem) ?_)); intro D' h' F' N' l1; (try k_lt l1); (try k_sweep)))
  (k_with "compareOp NotEq ref ref" => (k_here; (with_reducible show wpAny _ _ (compareOp PySem.CmpOp.NotEq (Value.ref _) (Value.ref _)) _ _ _); k_dflt (refine neListRef (by k_asm) (by k_mem) (by k_mem) (by k_mem) (by k_mem) (by with_reducible assumption) (by with_reducible assumption) (by k_extra "my_room") ?_)))
  (k_with "execs cons" => (k_here; (with_reducible show wpAny _ _ (execs [_, _] _) _ _ _); k_dflt (refine my_Rest ?_)))
  (k_with "CompSrcT" => (refine my_Src ?_))
  trivial
theorem askYD {prog : Program} {w : World} {p : Program} {loose : List Str} {mean : ExcName → Option Value} {mg mb : Str → Option Value} {g : Heap} {L : Addr} {s : Shared} {m : Str → Option Value} {A : Around} {fl c hid drk hrd x dx fn cA c1 c2 c3 I kr kp : Addr} {fo to oI ofn o1 o2 o3 oA : Obj} {its : Array Value} {n cnt mo nk np : Nat} {sure : Bool} {dv k' : Int} {ks : List Int} {vk vp : List Value} {H : List (List Int)} {vsA : Array Value} {t1 t2 t3 t4 tm tmo ta td ti tA : Tok} {oc : Obj} {qual : Str} {scope : Scope} {body : List Stmt} {Q : Flow → Shared → Prop} {aN : Addr} {vsN : List Value} {fN : List Int}
   (X : (hd.heap_1 w.params).In g) (T : Top p loose mean mg mb g) (e : fnParts (hd.heap_1 w.params) 240 = some (qual, scope, body)) (hh : A.handled = none)
   (st : AskSt prog w g L s.heap m A fl c hid drk hrd x dx fn cA c1 c2 c3 I kr kp fo to oI ofn o1 o2 o3 oA its n cnt mo nk np sure sure true (.ref aN) dv k' ks vk vp H vsA t1 t2 t3 t4 tm tmo ta td ti tA oc)
   (hroomN : ¬ mo ≤ cnt) (hdkN : [dv].contains (cnt : Int) = false) (eNm : namedV H ks = some fN) (hlN : g.IsList aN vsN.toArray) (hiN : IntsAre vsN fN) (hfN : fN.length ≤ 100)
   (out : AskOut prog w g L s fl c hid drk hrd x dx fn cA c1 c2 c3 I fo to oI ofn o1 o2 o3 oA cnt mo dv t1 t2 t3 t4 tm tmo td Q) :
   wpAny (model prog w) A (execs ((loopOf body).drop 3) (envOfC qual scope L 240 (.ref 239))) Q (fun _ _ => False) s := by
  k_extra "my_fill"
  have e0 := e
  refine' ask_have (a := fnParts (Mine.hd.heap_1 w.params) 240) ?el ?k
  case el => with_unfolding_all rfl
  intro e'
  rw [e'] at e
  cases e
  obtain ⟨_, dp, fr, gd, un⟩ := A
  obtain rfl : _ = none := hh
  obtain ⟨F, hs, hlim, hF, hAL, hdA, hvA, hce, hk, hp, hrg, hkl, hH, hHr, hd, hu, m1, m2, m3, m4, m5, m6, m7, m8, m9, m10, m11, N, n1, n2, n3, n4, n5, n6, n7⟩ := st
  subst hs
  ((replace n1 := Mine.toNe2 n1); dsimp only [↓Mine.ne2_cons, ↓Mine.ne2_one, ↓Mine.ne2_nil] at n1; (replace n2 := Mine.toNe2 n2); dsimp only [↓Mine.ne2_cons, ↓Mine.ne2_one, ↓Mine.ne2_nil] at n2; (replace n3 := Mine.toNe2 n3); dsimp only [↓Mine.ne2_cons, ↓Mine.ne2_one, ↓Mine.ne2_nil] at n3; (replace n4 := Mine.toNe2 n4); dsimp only [↓Mine.ne2_cons, ↓Mine.ne2_one, ↓Mine.ne2_nil] at n4; (replace n5 := Mine.toNe2 n5); dsimp only [↓Mine.ne2_cons, ↓Mine.ne2_one, ↓Mine.ne2_nil] at n5; (replace n6 := Mine.toNe2 n6); dsimp only [↓Mine.ne2_cons, ↓Mine.ne2_one, ↓Mine.ne2_nil] at n6; (replace n7 := Mine.toNe2 n7); dsimp only [↓Mine.ne2_cons, ↓Mine.ne2_one, ↓Mine.ne2_nil] at n7)
  have hvkl : vk.toArray.size ≤ 100 := by rw [List.size_toArray, hk.length]; omega
  have hvpl : vp.toArray.size ≤ 100 := by rw [List.size_toArray, hp.length]; omega
  have hilim : its.size ≤ 100 := by omega
  rw [pin m1, pin m2, pin m3, pin m4, pin m5, pin m6, pin m7, pin m8, pin m9, pin m10, pin m11] at F
  show wpAny _ _ (execs [_, _, _, _] _) _ _ _
  have hany : ([dv].any fun x => x == (its.size : Int)) = false := (any_dv _ _).trans hdkN
  k_steps
  all_goals first
    | (rename List.any _ _ = _ => q; rw [hany] at q; cases q; done)
    | skip
  rename Fr _ _ _ _ => F'
  rename News _ _ _ _ => N'
  refine LCt.CompSrcT.ledger rfl F' N' (ax := kr) (its := vk.toArray) (by k_mem) (by rw [sizeLine_eq]; omega) fun g' => filter_in hiN hk (Or.inr ⟨_, by k_mem, rfl, _, rfl⟩) rfl (fun _ => rfl) rfl (fun ys hy => ?fin) (fun i' n' t' ys' I' oI' C' oC' D' m₂ h₃ tk₃ E' hn' hC' hx' F₃ N₃ => ?cond)
  case cond => k_steps
  case fin =>
    clear F' N'
    have hlf : (ks.filter fun z => fN.contains z).length ≤ 7 := Nat.le_trans (List.length_filter_le _ _) hkl
    k_steps
    all_goals first
      | (rename List.any _ _ = _ => q; rw [hany] at q; cases q; done)
      | (rename Fr _ _ _ _ => F'
         rename News _ _ _ _ => N'
         (try rw [hany] at F')
         unfold MyRest
         exact askXC (c := c) X T e0 rfl ⟨F', (Array.size_push _), (by omega), hce, hk, hp, hkl, hd, hu, (by with_unfolding_all rfl), (by with_unfolding_all rfl), (by with_unfolding_all rfl), (by with_unfolding_all rfl), (by with_unfolding_all rfl), (by with_unfolding_all rfl), (by with_unfolding_all rfl), (by with_unfolding_all rfl), (by with_unfolding_all rfl), (by with_unfolding_all rfl), (by with_unfolding_all rfl), (by with_unfolding_all rfl), (by with_unfolding_all rfl), News.cut N' (by k_extra "my_sub")⟩ hIE hy hlf out)
end
section
theorem lines_AskZ : True := by
  w_top off
  k_with_none
  (k_with "my_pj" => (with_reducible first | assumption | exact Mine.pj1l (by assumption) | exact Mine.pj1r (by assumption) | exact Mine.pj2l (by assumption) | exact Mine.pj2r (by assumption) | exact Mine.pj3l (by assumption) | exact Mine.pj3r (by assumption) | exact Mine.pj4l (by assumption) | exact Mine.pj4r (by assumption) | exact Mine.pj5l (by assumption) | exact Mine.pj5r (by assumption) | exact Mine.pj6l (by assumption) | exact Mine.pj6r (by assumption) | exact Mine.pj7l (by assumption) | exact Mine.pj7r (by assumption) | exact Mine.pj8l (by assumption) | exact Mine.pj8r (by assumption) | exact Mine.pj9l (by assumption) | exact Mine.pj9r (by assumption) | exact Mine.pj10l (by assumption) | exact Mine.pj10r (by assumption) | exact Mine.pj11l (by assumption) | exact Mine.pj11r (by assumption) | exact Mine.pj12l (by assumption) | exact Mine.pj12r (by assumption) | exact Mine.pj13l (by assumption) | exact Mine.pj13r (by assumption) | exact Mine.pj14l (by assumption) | exact Mine.pj14r (by assumption) | exact Mine.pj15l (by assumption) | exact Mine.pj15r (by assumption) | exact Mine.pj16l (by assumption) | exact Mine.pj16r (by assumption)))
  (k_with "my_ne" => (refine neN ?_; (try dsimp only); first | with_reducible assumption | exact Ne.symm (by with_reducible assumption) | (refine Mine.neOr ?_; simp only [*, true_or, or_true, ne_eq, not_false_eq_true]; done) | (refine Ne.symm (Mine.neOr ?_); simp only [*, true_or, or_true, ne_eq, not_false_eq_true]; done) | omega))
  (k_with "my_room" => first | exact room1 (by with_reducible assumption) rfl rfl | exact room0 (by with_reducible assumption) rfl rfl | ((simp only [Around.deeper, Around.in1, recursionLimit, cLine] at *); omega))
  (k_with "my_fill" => ((have hfill : (fun (_ : OpenLaw) (_ : Params → Frag) => True) PySem.Challenge.rw_rg0207_01 Mine.hd.heap_1 := by k_fill; trivial); clear hfill))
  (k_with "my_in" => ((case k6 => k_is); (case k7 => k_is); (case k8 => first | exact Nat.lt_of_le_of_lt (Nat.le_add_right _ _) (by with_reducible assumption) | (simp only [recursionLimit] at *; omega)); (case k9 => first | exact BindsTo.of_eq rfl | exact binds_K (Frag.In.keeps (by assumption) (by assumption)) rfl (by k_is) rfl rfl rfl); (case c5 => decide); (case kB => exact locs rfl); (case c2 => exact rfl); (case c3 => exact rfl); (case c4 => exact rfl)))
  (k_with "my_sub" => repeat' (first | exact List.forall_mem_nil _ | refine List.forall_mem_cons.mpr ⟨?_, ?_⟩ | k_mem))
  (k_with "exec For Name Call cons nil" => (k_here; k_dflt (refine my_For ?_)))
  (k_with "exec For Name Name cons nil" => (k_here; k_dflt (refine my_For ?_)))
  (k_with "newTuple" => (k_here; k_dflt (refine my_newTuple (by k_asm) (by k_asm) ?_ (by size_fits); k_whole); intro l' h' F' N' l1; (try k_lt l1); (try k_sweep)))
  (k_with "call type:range" => (k_here; (with_reducible rename Fr _ _ _ _ => F'); (with_reducible rename News _ _ _ _ => N'); first | (with_unfolding_all refine range1_rows F' N' ?_; intro h' tk' t' u' v' R' F' N' k'; (try k_sweep)) | (with_unfolding_all refine range2_rows F' N' ?_; intro h' tk' t' u' v' R' F' N' k'; (try k_sweep))))
  (k_with "my_inC" => ((case k6 => k_is); (case k7 => k_is); (case k8 => first | exact Nat.lt_of_le_of_lt (Nat.le_add_right _ _) (by with_reducible assumption) | (simp only [recursionLimit] at *; omega)); (case k9 => exact BindsTo.of_eq rfl); (case kB => exact rfl); (case kD => decide +kernel); (case c2 => exact rfl); (case c3 => exact rfl); (case c4 => exact rfl)))
  (k_with "eval Name" => (k_here; kc_free; k_dflt (refine name_free (by k_asm) (by rfl) (by assumption) (by assumption) ?_ (by rfl) (by rfl); k_whole)))
  (k_with "last call builtin:len" => (k_here; k_dflt (refine call_len_list (by is_list) (by ((try simp only [Array.size_push, List.size_toArray]); omega)) ?_; k_whole); (try simp only [Array.size_push])))
  (k_with "my_ints" => first | assumption | l_ints | l_intsW)
  (k_with "my_fit" => ((try simp only [sizeLine_eq, List.length_append, List.length_cons, List.length_nil, List.length_reverse, List.length_map, List.size_toArray, Array.size_push]); omega))
  (k_with "binaryOp Add ref ref" => (k_here; (with_reducible show wpAny _ _ (binaryOp _ (Value.ref _) (Value.ref _)) _ _ _); k_dflt (refine my_addL (by k_asm) (by k_asm) (by kmk_list) (by kmk_list) (by k_extra "my_ints") (by k_extra "my_ints") ?_ (by k_extra "my_fit"); k_whole); intro D' h' F' N' l1 hI'; (try k_lt l1); (try k_sweep)))
  (k_with "exec While Compare cons nil" => (k_here; k_dflt (refine my_While ?_)))
  (k_with "my_len" => ((try simp only [Around.deeper, Around.in1, recursionLimit, cLine, List.length_append, List.length_take, List.length_drop, List.length_cons, List.length_nil] at *); omega))
  (k_with "eval ListComp" => (k_here; first | (lct_look; k_dflt (refine LCt.ListComp_T (F₀ := by k_asm) (by with_unfolding_all rfl) (by decide) (by rfl) (by decide) (by rfl) ?_)) | k_dflt (refine LCg.ListComp_U (F₀ := by k_asm) (by with_unfolding_all rfl) (by decide) (by rfl) (by decide) (by rfl) ?_)))
  (k_with "exec Assign cons ListComp" => (k_here; first | (lct_look; k_dflt (refine LCt.Assign_ListComp_T (F₀ := by k_asm) (by rfl) (by with_unfolding_all rfl) (by with_unfolding_all rfl) (by decide) (by rfl) (by decide) (by rfl) (by rfl) (by rfl) ?_)) | k_dflt (refine LCg.Assign_ListComp_U (F₀ := by k_asm) (by rfl) (by with_unfolding_all rfl) (by with_unfolding_all rfl) (by decide) (by rfl) (by decide) (by rfl) (by rfl) (by rfl) ?_)))
  (k_with "call ref" => (k_here; (with_reducible show wpAny _ _ (call (Value.ref 228) _) _ _ _); k_dflt (refine named_K (by k_asm) (by k_asm) (by k_asm) (by k_asm) (by rfl) (by k_extra "my_room") (by k_extra "my_room") (by assumption) (by is_list) (by first | assumption | l_ints | l_intsW) (by assumption) ?_; k_whole); intro h' tk' rK F' N' hNm; (try k_sweep); (rcases hNm with ⟨hr', eNm⟩ | ⟨aN, vsN, fN, hr', eNm, hlN, hiN⟩ <;> subst hr'); all_goals (try (have hzN := named_len (by assumption) eNm hiN; have hfN := named_len2 (by assumption) eNm))))
  (k_with "call ref" => (k_here; (with_reducible show wpAny _ _ (call (Value.ref 216) _) _ _ _); k_dflt (refine swig_K (by k_asm) (by k_asm) (by k_asm) (by k_asm) (by k_updF) (by assumption) (by rfl) (by k_extra "my_room") (by k_extra "my_room") (by is_list) (by assumption) (by assumption) (by omega) (by omega) (by omega) (by omega) ?_; k_whole); (first | (have hchk : dvN = dvN := rfl; clear hchk; intro h' tk' vK tvK fo' ti F' N' hfo' hv0 hv1) | (intro h' tk' dvN tdN fo' ti F' N' hfo' hd0 hd1)); (try k_sweep)))
  (k_with "call ref" => (k_here; (with_reducible show wpAny _ _ (call (Value.ref 169) _) _ _ _); k_dflt (refine mkShr (by k_asm) (by k_asm) (by k_asm) (by k_asm) (by rfl) (by k_extra "my_room") (by k_extra "my_room") ?_; k_whole); intro h' tk' x' dx' t1 t2 t3 t4 ta F' N' l1 l2; (try k_lt l1); (replace l2 := ltN l2); (try k_sweep)))
  (k_with "call ref" => (k_here; (with_reducible show wpAny _ _ (call (Value.ref 223) _) _ _ _); k_dflt (refine keys_K (by k_asm) (by k_asm) (by k_asm) (by k_asm) (by k_updF) (by assumption) (by rfl) (by k_extra "my_room") (by k_extra "my_room") (by is_list) (by assumption) (by assumption) (by omega) (by omega) (by omega) (by omega) ?_; k_whole); intro h' tk' rK vsK nK foundsK foK tiK kk F' N' lr hfo' hk0 hk1 hv hnd hrg hlen'; (replace lr := allNe_of lr); ((replace lr := Mine.toNe2 lr); dsimp only [↓Mine.ne2_cons, ↓Mine.ne2_one, ↓Mine.ne2_nil] at lr); (try k_sweep)))
  (k_with "my_intsN" => first | assumption | exact IntsAre.nil | l_ints | l_intsW | exact IntsAre.cons _ _ IntsAre.nil)
  (k_with "my_fn" => exact AskL.fn (by with_reducible assumption) (by k_asm) (codeRec_news (by k_asm) (by k_mem) (by with_reducible assumption) (by with_reducible assumption)) (by k_mem) (by k_mem) (by k_mem) (by k_mem))
  (k_with "call ref" => (k_here; (with_reducible show wpAny _ _ (call (Value.ref 235) _) _ _ _); k_dflt (refine asker_K0 (by k_asm) (by k_asm) (by k_asm) (by k_asm) (by with_reducible assumption) (by k_updF) (by rfl) (by k_extra "my_room") (by k_extra "my_room") ?_); intro h' tk' rA cA cA1 cA2 cA3 foA oA1 oA2 oA3 ocA toA vsA tA hAL hTA hdA hvA F' N' nA nA1 nA2 nA3 nA4; (replace nA := allNe_of nA); (replace nA1 := allNe_of nA1); (replace nA2 := allNe_of nA2); (replace nA3 := allNe_of nA3); (replace nA4 := allNe_of nA4); ((replace nA := Mine.toNe2 nA); dsimp only [↓Mine.ne2_cons, ↓Mine.ne2_one, ↓Mine.ne2_nil] at nA; (replace nA1 := Mine.toNe2 nA1); dsimp only [↓Mine.ne2_cons, ↓Mine.ne2_one, ↓Mine.ne2_nil] at nA1; (replace nA2 := Mine.toNe2 nA2); dsimp only [↓Mine.ne2_cons, ↓Mine.ne2_one, ↓Mine.ne2_nil] at nA2; (replace nA3 := Mine.toNe2 nA3); dsimp only [↓Mine.ne2_cons, ↓Mine.ne2_one, ↓Mine.ne2_nil] at nA3; (replace nA4 := Mine.toNe2 nA4); dsimp only [↓Mine.ne2_cons, ↓Mine.ne2_one, ↓Mine.ne2_nil] at nA4); (try k_sweep)))
  (k_with "call ref" => (k_here; (with_reducible show wpAny _ _ (call (Value.ref 154) _) _ _ _); k_dflt (refine enough_L (by k_asm) (by k_asm) (by k_asm) (by k_asm) (by k_mem) (by k_mem) (by k_extra "my_fn") (by with_reducible assumption) (by with_reducible assumption) (by k_updF) (by (intro o'; k_updF)) (by is_list) (by k_extra "my_intsN") (by k_ne) (by rfl) (by k_extra "my_room") (by k_extra "my_room") (by omega) (by first | assumption | rfl) (by is_list) (by k_extra "my_ints") (by k_extra "my_fit") (by k_ne) ?_ ?_ ?_ ?_); (all_goals (intro hFu; first | (exfalso; omega) | skip)); (all_goals first | (intro h' tk' nE taE F' N'; (have hchk : Fr _ _ _ _ := F'); clear hchk; (try k_sweep)) | (intro hDk; (have hchk : List.contains _ _ = true := hDk); clear hchk; first | exact absurd (hdkN.symm.trans hDk) Bool.false_ne_true | (intro h' tk' nE taE cE ncE F' N' nc'; (replace nc' := allNe_of nc'); ((replace nc' := Mine.toNe2 nc'); dsimp only [↓Mine.ne2_cons, ↓Mine.ne2_one, ↓Mine.ne2_nil] at nc'); (try k_sweep))) | (intro hDk hNmE; (have hchk : namedV _ _ = none := hNmE); clear hchk; first | exact absurd (hdkN.symm.trans hDk) Bool.false_ne_true.symm | exact absurd (eNm.symm.trans hNmE) (Option.some_ne_none _) | (intro h' tk' nE taE cE ncE F' N' nc'; (replace nc' := allNe_of nc'); ((replace nc' := Mine.toNe2 nc'); dsimp only [↓Mine.ne2_cons, ↓Mine.ne2_one, ↓Mine.ne2_nil] at nc'); (try k_sweep))) | (intro hDk h' tk' nE taE cE ncE rE usE naE fE hNmE F' N' nc' nr' hIE; first | exact absurd (hdkN.symm.trans hDk) Bool.false_ne_true.symm | exact absurd (eNm.symm.trans hNmE) (Option.some_ne_none _).symm | ((replace nr' := allNe_of nr'); ((replace nr' := Mine.toNe2 nr'); dsimp only [↓Mine.ne2_cons, ↓Mine.ne2_one, ↓Mine.ne2_nil] at nr'); (obtain rfl := Option.some.inj (eNm.symm.trans hNmE)); (rw [filt8 hrg] at hIE); (replace nc' := allNe_of nc'); ((replace nc' := Mine.toNe2 nc'); dsimp only [↓Mine.ne2_cons, ↓Mine.ne2_one, ↓Mine.ne2_nil] at nc'); (try k_sweep))))))
  (k_with "newList" => (k_here; k_dflt (refine newList_K (by k_asm) (by k_asm) ?_; k_whole); (first | (have hchk : hrdN = hrdN := rfl; clear hchk; intro l' h' F' N' l1) | (have hchk : drkN = drkN := rfl; clear hchk; intro hrdN h' F' N' l1) | (intro drkN h' F' N' l1)); (try k_lt l1); (try k_sweep)))
  (k_with "subscriptTail Name Slice ref ref" => (k_here; k_dflt (refine kms_slice_lit (by k_asm) (by k_asm) (by kmk_list) (by kmk_part) (by kmk_part) (by first | exact pick_push _ _ | exact pick_same _) ?_ (by with_unfolding_all rfl) (by kmk_pure) (by first | (rw [sizeLine_eq, Array.size_push]; omega) | (rw [sizeLine_eq]; omega))); intro D' h' F' N' l1; (try k_lt l1); (try k_sweep)))
  (k_with "binaryOp Mult ref int" => (k_here; (with_reducible show wpAny _ _ (binaryOp PySem.Operator.Mult (Value.ref _) (Value.int _ _)) _ _ _); (first | (refine my_mul0 (by k_asm) (by k_asm) (by k_mem) ?_) | (refine my_mul1 (by k_asm) (by k_asm) (by k_mem) ?_)); intro D' h' F' N' l1; (try k_lt l1); (try k_sweep)))
  (k_with "compareOp NotEq ref ref" => (k_here; (with_reducible show wpAny _ _ (compareOp PySem.CmpOp.NotEq (Value.ref _) (Value.ref _)) _ _ _); k_dflt (refine neListRef (by k_asm) (by k_mem) (by k_mem) (by k_mem) (by k_mem) (by with_reducible assumption) (by with_reducible assumption) (by k_extra "my_room") ?_)))
  (k_with "execs cons" => (k_here; (with_reducible show wpAny _ _ (execs [_, _, _, _] _) _ _ _); k_dflt (refine my_Rest ?_)))
  trivial
theorem askZ {prog : Program} {w : World} {p : Program} {loose : List Str} {mean : ExcName → Option Value} {mg mb : Str → Option Value} {g : Heap} {L : Addr} {s : Shared} {m : Str → Option Value} {A : Around} {fl c hid drk hrd x dx fn cA c1 c2 c3 I kr kp : Addr} {fo to oI ofn o1 o2 o3 oA : Obj} {its : Array Value} {n cnt mo nk np : Nat} {sure : Bool} {dv k' : Int} {ks : List Int} {vk vp : List Value} {H : List (List Int)} {vsA : Array Value} {t1 t2 t3 t4 tm tmo ta td ti tA : Tok} {oc : Obj} {qual : Str} {scope : Scope} {body : List Stmt} {Q : Flow → Shared → Prop} {fv : Value}
   (X : (hd.heap_1 w.params).In g) (T : Top p loose mean mg mb g) (e : fnParts (hd.heap_1 w.params) 240 = some (qual, scope, body)) (hh : A.handled = none)
   (st : AskSt prog w g L s.heap m A fl c hid drk hrd x dx fn cA c1 c2 c3 I kr kp fo to oI ofn o1 o2 o3 oA its n cnt mo nk np sure sure (decide ((cnt : Int) < (mo : Int))) fv dv k' ks vk vp H vsA t1 t2 t3 t4 tm tmo ta td ti tA oc)
   (hf : (fv = .none ∧ namedV H ks = none) ∨ ∃ aN vsN fN, fv = .ref aN ∧ namedV H ks = some fN ∧ g.IsList aN (List.toArray vsN) ∧ IntsAre vsN fN ∧ fN.length ≤ 100)
   (out : AskOut prog w g L s fl c hid drk hrd x dx fn cA c1 c2 c3 I fo to oI ofn o1 o2 o3 oA cnt mo dv t1 t2 t3 t4 tm tmo td Q) :
   wpAny (model prog w) A (execs ((loopOf body).drop 2) (envOfC qual scope L 240 (.ref 239))) Q (fun _ _ => False) s := by
  k_extra "my_fill"
  have e0 := e
  refine' ask_have (a := fnParts (Mine.hd.heap_1 w.params) 240) ?el ?k
  case el => with_unfolding_all rfl
  intro e'
  rw [e'] at e
  cases e
  obtain ⟨_, dp, fr, gd, un⟩ := A
  obtain rfl : _ = none := hh
  obtain ⟨F, hs, hlim, hF, hAL, hdA, hvA, hce, hk, hp, hrg, hkl, hH, hHr, hd, hu, m1, m2, m3, m4, m5, m6, m7, m8, m9, m10, m11, N, n1, n2, n3, n4, n5, n6, n7⟩ := id st
  subst hs
  have hilim : its.size ≤ 100 := by omega
  rw [pin m1, pin m2, pin m3, pin m4, pin m5, pin m6, pin m7, pin m8, pin m9, pin m10, pin m11] at F
  show wpAny _ _ (execs [_, _, _, _, _] _) _ _ _
  clear m1 m2 m3 m4 m5 m6 m7 m8 m9 m10 m11 hF hAL hdA hvA hce hk hp hrg hkl hH hHr n1 n2 n3 n4 n5 n6 n7
  by_cases hr : mo ≤ its.size
  · rw [decide_eq_false (by omega)] at st F
    cases sure with
    | true =>
      k_steps
      all_goals first
        | (rename List.any _ _ = _ => q; rw [hany] at q; cases q; done)
        | (rename Fr _ _ _ _ => F'
           rename News _ _ _ _ => N'
           (try rw [hany] at F')
           unfold MyRest
           exact askYA (c := c) X T e0 rfl { st with F := F', m1 := (by with_unfolding_all rfl), m2 := (by with_unfolding_all rfl), m3 := (by with_unfolding_all rfl), m4 := (by with_unfolding_all rfl), m5 := (by with_unfolding_all rfl), m6 := (by with_unfolding_all rfl), m7 := (by with_unfolding_all rfl), m8 := (by with_unfolding_all rfl), m9 := (by with_unfolding_all rfl), m10 := (by with_unfolding_all rfl), m11 := (by with_unfolding_all rfl), N := News.cut N' (by k_extra "my_sub") } hr out)
    | false =>
      k_steps
      all_goals first
        | (rename List.any _ _ = _ => q; rw [hany] at q; cases q; done)
        | (rename Fr _ _ _ _ => F'
           rename News _ _ _ _ => N'
           (try rw [hany] at F')
           unfold MyRest
           exact askYA (c := c) X T e0 rfl { st with F := F', m1 := (by with_unfolding_all rfl), m2 := (by with_unfolding_all rfl), m3 := (by with_unfolding_all rfl), m4 := (by with_unfolding_all rfl), m5 := (by with_unfolding_all rfl), m6 := (by with_unfolding_all rfl), m7 := (by with_unfolding_all rfl), m8 := (by with_unfolding_all rfl), m9 := (by with_unfolding_all rfl), m10 := (by with_unfolding_all rfl), m11 := (by with_unfolding_all rfl), N := News.cut N' (by k_extra "my_sub") } hr out)
  · rw [decide_eq_true (by omega)] at st F
    cases hdk : [dv].contains (its.size : Int) with
    | true =>
      have hany : ([dv].any fun x => x == (its.size : Int)) = true := (any_dv _ _).trans hdk
      cases sure with
      | true =>
        k_steps
        all_goals first
          | (rename List.any _ _ = _ => q; rw [hany] at q; cases q; done)
          | (rename Fr _ _ _ _ => F'
             rename News _ _ _ _ => N'
             (try rw [hany] at F')
             unfold MyRest
             exact askYB (c := c) X T e0 rfl { st with F := F', m1 := (by with_unfolding_all rfl), m2 := (by with_unfolding_all rfl), m3 := (by with_unfolding_all rfl), m4 := (by with_unfolding_all rfl), m5 := (by with_unfolding_all rfl), m6 := (by with_unfolding_all rfl), m7 := (by with_unfolding_all rfl), m8 := (by with_unfolding_all rfl), m9 := (by with_unfolding_all rfl), m10 := (by with_unfolding_all rfl), m11 := (by with_unfolding_all rfl), N := News.cut N' (by k_extra "my_sub") } hr hdk out)
      | false =>
        k_steps
        all_goals first
          | (rename List.any _ _ = _ => q; rw [hany] at q; cases q; done)
          | (rename Fr _ _ _ _ => F'
             rename News _ _ _ _ => N'
             (try rw [hany] at F')
             unfold MyRest
             exact askYB (c := c) X T e0 rfl { st with F := F', m1 := (by with_unfolding_all rfl), m2 := (by with_unfolding_all rfl), m3 := (by with_unfolding_all rfl), m4 := (by with_unfolding_all rfl), m5 := (by with_unfolding_all rfl), m6 := (by with_unfolding_all rfl), m7 := (by with_unfolding_all rfl), m8 := (by with_unfolding_all rfl), m9 := (by with_unfolding_all rfl), m10 := (by with_unfolding_all rfl), m11 := (by with_unfolding_all rfl), N := News.cut N' (by k_extra "my_sub") } hr hdk out)
    | false =>
      have hany : ([dv].any fun x => x == (its.size : Int)) = false := (any_dv _ _).trans hdk
      cases sure with
      | true =>
        k_steps
        all_goals first
          | (rename List.any _ _ = _ => q; rw [hany] at q; cases q; done)
          | (rename Fr _ _ _ _ => F'
             rename News _ _ _ _ => N'
             (try rw [hany] at F')
             unfold MyRest
             rcases hf with ⟨rfl, eN⟩ | ⟨aN, vsN, fN, rfl, eN, hl, hi, hn⟩
             · exact askYC (fl := fl) (c := c) X T e0 rfl { st with F := F', m1 := (by with_unfolding_all rfl), m2 := (by with_unfolding_all rfl), m3 := (by with_unfolding_all rfl), m4 := (by with_unfolding_all rfl), m5 := (by with_unfolding_all rfl), m6 := (by with_unfolding_all rfl), m7 := (by with_unfolding_all rfl), m8 := (by with_unfolding_all rfl), m9 := (by with_unfolding_all rfl), m10 := (by with_unfolding_all rfl), m11 := (by with_unfolding_all rfl), N := News.cut N' (by k_extra "my_sub") } hr hdk eN out
             · exact askYD (fl := fl) (c := c) X T e0 rfl { st with F := F', m1 := (by with_unfolding_all rfl), m2 := (by with_unfolding_all rfl), m3 := (by with_unfolding_all rfl), m4 := (by with_unfolding_all rfl), m5 := (by with_unfolding_all rfl), m6 := (by with_unfolding_all rfl), m7 := (by with_unfolding_all rfl), m8 := (by with_unfolding_all rfl), m9 := (by with_unfolding_all rfl), m10 := (by with_unfolding_all rfl), m11 := (by with_unfolding_all rfl), N := News.cut N' (by k_extra "my_sub") } hr hdk eN hl hi hn out)
      | false =>
        k_steps
        all_goals first
          | (rename List.any _ _ = _ => q; rw [hany] at q; cases q; done)
          | (rename Fr _ _ _ _ => F'
             rename News _ _ _ _ => N'
             (try rw [hany] at F')
             unfold MyRest
             rcases hf with ⟨rfl, eN⟩ | ⟨aN, vsN, fN, rfl, eN, hl, hi, hn⟩
             · exact askYC (fl := fl) (c := c) X T e0 rfl { st with F := F', m1 := (by with_unfolding_all rfl), m2 := (by with_unfolding_all rfl), m3 := (by with_unfolding_all rfl), m4 := (by with_unfolding_all rfl), m5 := (by with_unfolding_all rfl), m6 := (by with_unfolding_all rfl), m7 := (by with_unfolding_all rfl), m8 := (by with_unfolding_all rfl), m9 := (by with_unfolding_all rfl), m10 := (by with_unfolding_all rfl), m11 := (by with_unfolding_all rfl), N := News.cut N' (by k_extra "my_sub") } hr hdk eN out
             · exact askYD (fl := fl) (c := c) X T e0 rfl { st with F := F', m1 := (by with_unfolding_all rfl), m2 := (by with_unfolding_all rfl), m3 := (by with_unfolding_all rfl), m4 := (by with_unfolding_all rfl), m5 := (by with_unfolding_all rfl), m6 := (by with_unfolding_all rfl), m7 := (by with_unfolding_all rfl), m8 := (by with_unfolding_all rfl), m9 := (by with_unfolding_all rfl), m10 := (by with_unfolding_all rfl), m11 := (by with_unfolding_all rfl), N := News.cut N' (by k_extra "my_sub") } hr hdk eN hl hi hn out)
end
section
theorem lines_Asked : True := by
  w_top off
  k_with_none
  (k_with "my_pj" => (with_reducible first | assumption | exact Mine.pj1l (by assumption) | exact Mine.pj1r (by assumption) | exact Mine.pj2l (by assumption) | exact Mine.pj2r (by assumption) | exact Mine.pj3l (by assumption) | exact Mine.pj3r (by assumption) | exact Mine.pj4l (by assumption) | exact Mine.pj4r (by assumption) | exact Mine.pj5l (by assumption) | exact Mine.pj5r (by assumption) | exact Mine.pj6l (by assumption) | exact Mine.pj6r (by assumption) | exact Mine.pj7l (by assumption) | exact Mine.pj7r (by assumption) | exact Mine.pj8l (by assumption) | exact Mine.pj8r (by assumption) | exact Mine.pj9l (by assumption) | exact Mine.pj9r (by assumption) | exact Mine.pj10l (by assumption) | exact Mine.pj10r (by assumption) | exact Mine.pj11l (by assumption) | exact Mine.pj11r (by assumption) | exact Mine.pj12l (by assumption) | exact Mine.pj12r (by assumption) | exact Mine.pj13l (by assumption) | exact Mine.pj13r (by assumption) | exact Mine.pj14l (by assumption) | exact Mine.pj14r (by assumption) | exact Mine.pj15l (by assumption) | exact Mine.pj15r (by assumption) | exact Mine.pj16l (by assumption) | exact Mine.pj16r (by assumption)))
  (k_with "my_ne" => (refine neN ?_; (try dsimp only); first | with_reducible assumption | exact Ne.symm (by with_reducible assumption) | (refine Mine.neOr ?_; simp only [*, true_or, or_true, ne_eq, not_false_eq_true]; done) | (refine Ne.symm (Mine.neOr ?_); simp only [*, true_or, or_true, ne_eq, not_false_eq_true]; done) | omega))
  (k_with "my_room" => first | exact room1 (by with_reducible assumption) rfl rfl | exact room0 (by with_reducible assumption) rfl rfl | ((simp only [Around.deeper, Around.in1, recursionLimit, cLine] at *); omega))
  (k_with "my_fill" => ((have hfill : (fun (_ : OpenLaw) (_ : Params → Frag) => True) PySem.Challenge.rw_rg0207_01 Mine.hd.heap_1 := by k_fill; trivial); clear hfill))
  (k_with "my_in" => ((case k6 => k_is); (case k7 => k_is); (case k8 => first | exact Nat.lt_of_le_of_lt (Nat.le_add_right _ _) (by with_reducible assumption) | (simp only [recursionLimit] at *; omega)); (case k9 => first | exact BindsTo.of_eq rfl | exact binds_K (Frag.In.keeps (by assumption) (by assumption)) rfl (by k_is) rfl rfl rfl); (case c5 => decide); (case kB => exact locs rfl); (case c2 => exact rfl); (case c3 => exact rfl); (case c4 => exact rfl)))
  (k_with "my_sub" => repeat' (first | exact List.forall_mem_nil _ | refine List.forall_mem_cons.mpr ⟨?_, ?_⟩ | k_mem))
  (k_with "exec For Name Call cons nil" => (k_here; k_dflt (refine my_For ?_)))
  (k_with "exec For Name Name cons nil" => (k_here; k_dflt (refine my_For ?_)))
  (k_with "newTuple" => (k_here; k_dflt (refine my_newTuple (by k_asm) (by k_asm) ?_ (by size_fits); k_whole); intro l' h' F' N' l1; (try k_lt l1); (try k_sweep)))
  (k_with "call type:range" => (k_here; (with_reducible rename Fr _ _ _ _ => F'); (with_reducible rename News _ _ _ _ => N'); first | (with_unfolding_all refine range1_rows F' N' ?_; intro h' tk' t' u' v' R' F' N' k'; (try k_sweep)) | (with_unfolding_all refine range2_rows F' N' ?_; intro h' tk' t' u' v' R' F' N' k'; (try k_sweep))))
  (k_with "my_inC" => ((case k6 => k_is); (case k7 => k_is); (case k8 => first | exact Nat.lt_of_le_of_lt (Nat.le_add_right _ _) (by with_reducible assumption) | (simp only [recursionLimit] at *; omega)); (case k9 => exact BindsTo.of_eq rfl); (case kB => exact rfl); (case kD => decide +kernel); (case c2 => exact rfl); (case c3 => exact rfl); (case c4 => exact rfl)))
  (k_with "eval Name" => (k_here; kc_free; k_dflt (refine name_free (by k_asm) (by rfl) (by assumption) (by assumption) ?_ (by rfl) (by rfl); k_whole)))
  (k_with "last call builtin:len" => (k_here; k_dflt (refine call_len_list (by is_list) (by ((try simp only [Array.size_push, List.size_toArray]); omega)) ?_; k_whole); (try simp only [Array.size_push])))
  (k_with "my_ints" => first | assumption | l_ints | l_intsW)
  (k_with "my_fit" => ((try simp only [sizeLine_eq, List.length_append, List.length_cons, List.length_nil, List.length_reverse, List.length_map, List.size_toArray, Array.size_push]); omega))
  (k_with "binaryOp Add ref ref" => (k_here; (with_reducible show wpAny _ _ (binaryOp _ (Value.ref _) (Value.ref _)) _ _ _); k_dflt (refine my_addL (by k_asm) (by k_asm) (by kmk_list) (by kmk_list) (by k_extra "my_ints") (by k_extra "my_ints") ?_ (by k_extra "my_fit"); k_whole); intro D' h' F' N' l1 hI'; (try k_lt l1); (try k_sweep)))
  (k_with "exec While Compare cons nil" => (k_here; k_dflt (refine my_While ?_)))
  (k_with "my_len" => ((try simp only [Around.deeper, Around.in1, recursionLimit, cLine, List.length_append, List.length_take, List.length_drop, List.length_cons, List.length_nil] at *); omega))
  (k_with "eval ListComp" => (k_here; first | (lct_look; k_dflt (refine LCt.ListComp_T (F₀ := by k_asm) (by with_unfolding_all rfl) (by decide) (by rfl) (by decide) (by rfl) ?_)) | k_dflt (refine LCg.ListComp_U (F₀ := by k_asm) (by with_unfolding_all rfl) (by decide) (by rfl) (by decide) (by rfl) ?_)))
  (k_with "exec Assign cons ListComp" => (k_here; first | (lct_look; k_dflt (refine LCt.Assign_ListComp_T (F₀ := by k_asm) (by rfl) (by with_unfolding_all rfl) (by with_unfolding_all rfl) (by decide) (by rfl) (by decide) (by rfl) (by rfl) (by rfl) ?_)) | k_dflt (refine LCg.Assign_ListComp_U (F₀ := by k_asm) (by rfl) (by with_unfolding_all rfl) (by with_unfolding_all rfl) (by decide) (by rfl) (by decide) (by rfl) (by rfl) (by rfl) ?_)))
  (k_with "call ref" => (k_here; (with_reducible show wpAny _ _ (call (Value.ref 228) _) _ _ _); k_dflt (refine named_K (by k_asm) (by k_asm) (by k_asm) (by k_asm) (by rfl) (by k_extra "my_room") (by k_extra "my_room") (by assumption) (by is_list) (by first | assumption | l_ints | l_intsW) (by assumption) ?_; k_whole); intro h' tk' vF F' N' hNm; (try k_sweep)))
  (k_with "call ref" => (k_here; (with_reducible show wpAny _ _ (call (Value.ref 216) _) _ _ _); k_dflt (refine swig_K (by k_asm) (by k_asm) (by k_asm) (by k_asm) (by k_updF) (by assumption) (by rfl) (by k_extra "my_room") (by k_extra "my_room") (by is_list) (by assumption) (by assumption) (by omega) (by omega) (by omega) (by omega) ?_; k_whole); (first | (have hchk : dvN = dvN := rfl; clear hchk; intro h' tk' vK tvK fo' ti F' N' hfo' hv0 hv1) | (intro h' tk' dvN tdN fo' ti F' N' hfo' hd0 hd1)); (try k_sweep)))
  (k_with "call ref" => (k_here; (with_reducible show wpAny _ _ (call (Value.ref 169) _) _ _ _); k_dflt (refine mkShr (by k_asm) (by k_asm) (by k_asm) (by k_asm) (by rfl) (by k_extra "my_room") (by k_extra "my_room") ?_; k_whole); intro h' tk' x' dx' t1 t2 t3 t4 ta F' N' l1 l2; (try k_lt l1); (replace l2 := ltN l2); (try k_sweep)))
  (k_with "call ref" => (k_here; (with_reducible show wpAny _ _ (call (Value.ref 223) _) _ _ _); k_dflt (refine keys_K (by k_asm) (by k_asm) (by k_asm) (by k_asm) (by k_updF) (by assumption) (by rfl) (by k_extra "my_room") (by k_extra "my_room") (by is_list) (by assumption) (by assumption) (by omega) (by omega) (by omega) (by omega) ?_; k_whole); intro h' tk' rK vsK nK foundsK foK tiK kk F' N' lr hfo' hk0 hk1 hv hnd hrg hlen'; (replace lr := allNe_of lr); ((replace lr := Mine.toNe2 lr); dsimp only [↓Mine.ne2_cons, ↓Mine.ne2_one, ↓Mine.ne2_nil] at lr); (try k_sweep)))
  (k_with "my_intsN" => first | assumption | exact IntsAre.nil | l_ints | l_intsW | exact IntsAre.cons _ _ IntsAre.nil)
  (k_with "my_fn" => exact AskL.fn (by with_reducible assumption) (by k_asm) (codeRec_news (by k_asm) (by k_mem) (by with_reducible assumption) (by with_reducible assumption)) (by k_mem) (by k_mem) (by k_mem) (by k_mem))
  (k_with "call ref" => (k_here; (with_reducible show wpAny _ _ (call (Value.ref 235) _) _ _ _); k_dflt (refine asker_K0 (by k_asm) (by k_asm) (by k_asm) (by k_asm) (by with_reducible assumption) (by k_updF) (by rfl) (by k_extra "my_room") (by k_extra "my_room") ?_); intro h' tk' rA cA cA1 cA2 cA3 foA oA1 oA2 oA3 ocA toA vsA tA hAL hTA hdA hvA F' N' nA nA1 nA2 nA3 nA4; (replace nA := allNe_of nA); (replace nA1 := allNe_of nA1); (replace nA2 := allNe_of nA2); (replace nA3 := allNe_of nA3); (replace nA4 := allNe_of nA4); ((replace nA := Mine.toNe2 nA); dsimp only [↓Mine.ne2_cons, ↓Mine.ne2_one, ↓Mine.ne2_nil] at nA; (replace nA1 := Mine.toNe2 nA1); dsimp only [↓Mine.ne2_cons, ↓Mine.ne2_one, ↓Mine.ne2_nil] at nA1; (replace nA2 := Mine.toNe2 nA2); dsimp only [↓Mine.ne2_cons, ↓Mine.ne2_one, ↓Mine.ne2_nil] at nA2; (replace nA3 := Mine.toNe2 nA3); dsimp only [↓Mine.ne2_cons, ↓Mine.ne2_one, ↓Mine.ne2_nil] at nA3; (replace nA4 := Mine.toNe2 nA4); dsimp only [↓Mine.ne2_cons, ↓Mine.ne2_one, ↓Mine.ne2_nil] at nA4); (try k_sweep)))
  (k_with "call ref" => (k_here; (with_reducible show wpAny _ _ (call (Value.ref 154) _) _ _ _); k_dflt (refine enough_L (by k_asm) (by k_asm) (by k_asm) (by k_asm) (by k_mem) (by k_mem) (by k_extra "my_fn") (by with_reducible assumption) (by with_reducible assumption) (by k_updF) (by (intro o'; k_updF)) (by is_list) (by k_extra "my_intsN") (by k_ne) (by rfl) (by k_extra "my_room") (by k_extra "my_room") (by omega) (by first | assumption | rfl) (by is_list) (by k_extra "my_ints") (by k_extra "my_fit") (by k_ne) ?_ ?_ ?_ ?_); (all_goals (intro hFu; first | (exfalso; omega) | skip)); (all_goals first | (intro h' tk' nE taE F' N'; (have hchk : Fr _ _ _ _ := F'); clear hchk; (try k_sweep)) | (intro hDk; (have hchk : List.contains _ _ = true := hDk); clear hchk; first | exact absurd (hdkN.symm.trans hDk) Bool.false_ne_true | (intro h' tk' nE taE cE ncE F' N' nc'; (replace nc' := allNe_of nc'); ((replace nc' := Mine.toNe2 nc'); dsimp only [↓Mine.ne2_cons, ↓Mine.ne2_one, ↓Mine.ne2_nil] at nc'); (try k_sweep))) | (intro hDk hNmE; (have hchk : namedV _ _ = none := hNmE); clear hchk; first | exact absurd (hdkN.symm.trans hDk) Bool.false_ne_true.symm | exact absurd (eNm.symm.trans hNmE) (Option.some_ne_none _) | (intro h' tk' nE taE cE ncE F' N' nc'; (replace nc' := allNe_of nc'); ((replace nc' := Mine.toNe2 nc'); dsimp only [↓Mine.ne2_cons, ↓Mine.ne2_one, ↓Mine.ne2_nil] at nc'); (try k_sweep))) | (intro hDk h' tk' nE taE cE ncE rE usE naE fE hNmE F' N' nc' nr' hIE; first | exact absurd (hdkN.symm.trans hDk) Bool.false_ne_true.symm | exact absurd (eNm.symm.trans hNmE) (Option.some_ne_none _).symm | ((replace nr' := allNe_of nr'); ((replace nr' := Mine.toNe2 nr'); dsimp only [↓Mine.ne2_cons, ↓Mine.ne2_one, ↓Mine.ne2_nil] at nr'); (obtain rfl := Option.some.inj (eNm.symm.trans hNmE)); (rw [filt8 hrg] at hIE); (replace nc' := allNe_of nc'); ((replace nc' := Mine.toNe2 nc'); dsimp only [↓Mine.ne2_cons, ↓Mine.ne2_one, ↓Mine.ne2_nil] at nc'); (try k_sweep))))))
  (k_with "newList" => (k_here; k_dflt (refine newList_K (by k_asm) (by k_asm) ?_; k_whole); (first | (have hchk : hrdN = hrdN := rfl; clear hchk; intro l' h' F' N' l1) | (have hchk : drkN = drkN := rfl; clear hchk; intro hrdN h' F' N' l1) | (intro drkN h' F' N' l1)); (try k_lt l1); (try k_sweep)))
  (k_with "subscriptTail Name Slice ref ref" => (k_here; k_dflt (refine kms_slice_lit (by k_asm) (by k_asm) (by kmk_list) (by kmk_part) (by kmk_part) (by first | exact pick_push _ _ | exact pick_same _) ?_ (by with_unfolding_all rfl) (by kmk_pure) (by first | (rw [sizeLine_eq, Array.size_push]; omega) | (rw [sizeLine_eq]; omega))); intro D' h' F' N' l1; (try k_lt l1); (try k_sweep)))
  (k_with "binaryOp Mult ref int" => (k_here; (with_reducible show wpAny _ _ (binaryOp PySem.Operator.Mult (Value.ref _) (Value.int _ _)) _ _ _); (first | (refine my_mul0 (by k_asm) (by k_asm) (by k_mem) ?_) | (refine my_mul1 (by k_asm) (by k_asm) (by k_mem) ?_)); intro D' h' F' N' l1; (try k_lt l1); (try k_sweep)))
  (k_with "compareOp NotEq ref ref" => (k_here; (with_reducible show wpAny _ _ (compareOp PySem.CmpOp.NotEq (Value.ref _) (Value.ref _)) _ _ _); k_dflt (refine neListRef (by k_asm) (by k_mem) (by k_mem) (by k_mem) (by k_mem) (by with_reducible assumption) (by with_reducible assumption) (by k_extra "my_room") ?_)))
  (k_with "execs cons" => (k_here; (with_reducible show wpAny _ _ (execs [_, _, _, _, _] _) _ _ _); k_dflt (refine my_Rest ?_)))
  trivial
/-- between two turns -/
inductive AskedJ (prog : Program) (w : World) (fl c hid drk hrd x dx fn ce : Addr) (k0 : Int) (mo : Nat) (t1 t2 t3 t4 tm tmo : Tok) (rest : List (Addr × Obj)) (i : Nat) (m : Str → Option Value) : List (Addr × Obj) → Prop
  | intro {its : Array Value} {n cnt : Nat} {sure : Bool} {ta ti : Tok} {fo oc : Obj} {k' : Int} {v : Option Value} (hF : FlaskO prog w fo c k' ti) (hk1 : k0 ≤ k') (hk2 : k' ≤ k0 + 9 * i) (hs : its.size = cnt) (hcnt : cnt ≤ i) (hce : oc.data = .cell v)
      (m1 : m (Str.ofString "sure") = some (.bool sure)) (m2 : m (Str.ofString "heard") = some (.ref hrd)) (m3 : m (Str.ofString "shrinker") = some (.ref x)) (m4 : m (Str.ofString "hidden") = some (.ref hid)) (m5 : m (Str.ofString "flask") = some (.ref fl)) (m6 : m (Str.ofString "dark") = some (.ref drk)) (m7 : m (Str.ofString "most") = some (.int (mo : Int) tmo)) :
      AskedJ prog w fl c hid drk hrd x dx fn ce k0 mo t1 t2 t3 t4 tm tmo rest i m ((hrd, W.listOf its n) :: (x, instObj 169 dx) :: (dx, shrO w fn (mo : Int) ((cnt : Nat) : Int) sure t1 t2 t3 t4 tm ta) :: (fl, fo) :: (ce, oc) :: rest)
section
variable {prog : Program} {w : World} {h₀ : Heap} {p : Program} {loose : List Str} {mean : ExcName → Option Value} {mg mb : Str → Option Value}
theorem le9 {a b c : Int} {i : Nat} (h : b ≤ a + 9 * i) (h' : c ≤ b + 9) : c ≤ a + 9 * ((i + 1 : Nat) : Int) := by omega
theorem asked {A : Around} {s : Shared} {fl c hid : Addr} {fo : Obj} {k : Int} {tk : Tok} {vs : List Value} {ns : List Int} {H : List (List Int)} {Q E : Value → Shared → Prop}
   (X : (hd.heap_1 w.params).In h₀) (T : Top p loose mean mg mb h₀) (C : CodeHd h₀ 234 230) (st : h₀.StaysIn s.heap) (hh : A.handled = none) (hd : A.depth + 100 < recursionLimit) (hu : A.units + 2000 < cLine)
   (hfl : s.heap.get? fl = some fo) (hfo : FlaskO prog w fo c k tk) (hfl0 : h₀.get? fl = none) (hc : s.heap.IsList c vs.toArray) (hi : IntsAre vs ns) (hlen : ns.length ≤ 60) (h0 : 0 ≤ k) (hk : k ≤ 500)
   (ht : s.heap.get? 230 = some (tabObj #[])) (ht0 : h₀.get? 230 = none) (hH : HidAt s.heap hid H) (hHr : ∀ f ∈ H, f.length ≤ 100)
   (hret : ∀ h' tk' fo' ti k' to' c', Own [fl, 230] s.heap h' → h'.get? fl = some fo' → FlaskO prog w fo' c k' ti → k ≤ k' → k' ≤ k + 100 → h'.get? 230 = some to' → TabAt w to' c' → h'.CodeRec (.ref c') askQual → s.heap.get? c' = none → Q (.bool true) { s with heap := h', toks := tk' }) :
   wpAny (model prog w) A (call (.ref 240) [.ref fl, .ref hid]) Q E s := by
  k_extra "my_fill"
  obtain ⟨_, dp, fr, gd, un⟩ := A
  obtain rfl : _ = none := hh
  have n1 : @Ne Nat fl 230 := led_ne hfl ht fun q => by have := hfo.cls; rw [q] at this; cases this
  have NL : Led h₀ s.heap [(fl, fo), (230, tabObj #[])] := led1 hfl hfl0 (led1 ht ht0 led0)
  have KG := led_keep st NL
  refine wpAny_call ?_
  refine' code_inC X T st NL ?k6 ?k7 ?k8 ?k9 ?kB ?kD ?_ ?c2 ?c3 ?c4
  k_extra "my_inC"
  intro g L h₁ tk₁ cells hgB F N Y X' T' lL lN
  k_cells Y
  try simp only [List.cons_append, List.nil_append] at N
  have hfL : @Ne Nat fl (L + 1) := Nat.ne_of_lt (Nat.lt_succ_of_lt (lN _ (.head _)))
  have h230L : @Ne Nat 230 (L + 1) := Nat.ne_of_lt (Nat.lt_succ_of_lt (lN _ (.tail _ (.head _))))
  k_lt lN
  rw [← hgB] at KG
  have nl : ∀ {l : Addr} {its : Array Value}, s.heap.IsList l its → l ∉ List.map (·.1) [(fl, fo), (230, tabObj #[])] := fun h q => by
    rcases List.mem_cons.mp q with q | q
    · exact flask_off hfl hfo h q
    · obtain ⟨o, ho, hcl, _⟩ := h
      rw [List.mem_singleton.mp q, ht] at ho; cases ho; cases hcl
  have hc' : g.IsList c vs.toArray := isList_base hgB hc (nl hc)
  have hH' : HidAt g hid H := hH.base hgB nl
  have C' : CodeHd g 234 230 := C.keeps KG
  clear hH KG
  dsimp only
  try k_fold
  k_steps
  rename Fr _ _ _ _ => F'
  rename News _ _ _ _ => N'
  rename IsRange _ _ _ _ _ _ _ _ => R'
  obtain ⟨mo, hmo⟩ : ∃ mo : Nat, (1 + vK : Int) = mo := ⟨(1 + vK).toNat, by omega⟩
  rw [hmo] at N' F'
  have l3 : hrdN < x' ∧ drkN < x' ∧ rA < x' ∧ cA1 < x' ∧ cA2 < x' ∧ cA3 < x' ∧ cA < x' ∧ L + 1 < x' ∧ fl < x' ∧ 230 < x' := by
    refine ⟨?_, ?_, ?_, ?_, ?_, ?_, ?_, ?_, ?_, ?_⟩ <;> exact Nat.lt_trans (by k_extra "my_pj") l2
  refine' MyIter.range (n := 8) (news := ?news) rfl rfl rfl F' ?N R' (by decide) (by decide) (AskedJ prog w fl c hid drkN hrdN x' dx' rA (L + 1) (k + 1 + 1) mo _ _ _ _ _ _ [(drkN, W.listOf #[Value.int dvN tdN] 0), (rA, foA), (cA1, oA1), (cA2, oA2), (cA3, oA3), (cA, ocA), (230, toA)]) (AskedJ.intro (its := #[]) (n := 0) (cnt := 0) hfo' (Int.le_refl _) ?hk2 rfl (Nat.zero_le _) ?hce ?m1 ?m2 ?m3 ?m4 ?m5 ?m6 ?m7) ?step ?hR
  case N => exact News.cut N' (by k_extra "my_sub")
  case hk2 => simp
  case hce => assumption
  case m1 => with_unfolding_all rfl
  case m2 => with_unfolding_all rfl
  case m3 => with_unfolding_all rfl
  case m4 => with_unfolding_all rfl
  case m5 => with_unfolding_all rfl
  case m6 => with_unfolding_all rfl
  case m7 => with_unfolding_all rfl
  case step =>
    clear F' N' R'
    intro i t m₁ news₁ h₂ tk₂ I oI hlt J₁ F₁ N₁ nI lI
    cases J₁ with
    | @intro its n cnt sure ta ti fo₁ oc k' v hF hk1 hk2 hs hcnt hce m1 m2 m3 m4 m5 m6 m7 =>
    k_lt lI
    have hnI : AllNe I [(hrdN, W.listOf its n), (x', instObj 169 dx')] := ⟨nI _ (by k_mem), nI _ (by k_mem), trivial⟩
    rw [pin m1, pin m2, pin m3, pin m4, pin m5, pin m6, pin m7] at F₁
    have hlim : its.size ≤ 100 := by omega
    have hkA := hk1
    have hkB := hk2
    k_steps
    · rename Fr _ _ _ _ => F'
      rename News _ _ _ _ => N'
      rename FlaskO _ _ _ _ _ _ => hfoN
      unfold MyRest
      refine' ask_have (a := fnParts (Mine.hd.heap_1 w.params) 240) ?ela ?ka
      case ela => with_unfolding_all rfl
      intro e0
      refine' askZ (s := { heap := _, gens := s.gens, drawn := s.drawn, toks := _, os := s.os }) (fl := fl) (c := c) (hid := hid) (drk := drkN) (hrd := hrdN) (x := x') (dx := dx') (fn := rA) (cA := cA) (c1 := cA1) (c2 := cA2) (c3 := cA3) (I := I) (oI := oI) (kr := rK) X' T' e0 ?hha ⟨F', hs, ?hcna, hfoN, hAL, hdA, hvA, ?hcea, hv, hv, hrg, ?hkla, hH', hHr, ?hda, ?hua, (by with_unfolding_all rfl), (by with_unfolding_all rfl), (by with_unfolding_all rfl), (by with_unfolding_all rfl), (by with_unfolding_all rfl), (by with_unfolding_all rfl), (by with_unfolding_all rfl), (by with_unfolding_all rfl), (by with_unfolding_all rfl), (by with_unfolding_all rfl), (by with_unfolding_all rfl), News.cut N' ?suba, ?n1a, ?n2a, ?n3a, ?n4a, ?n5a, ?n6a, ?n7a⟩ ?hfa ?outa
      case hha => rfl
      case suba => k_extra "my_sub"
      case hcna => exact Nat.le_trans hcnt (Nat.le_of_lt hlt)
      case hcea => assumption
      case hkla => exact Int.ofNat_le.mp hlen'
      case hda => k_extra "my_room"
      case hua => k_extra "my_room"
      case n1a => (repeat' (first | exact trivial | refine ⟨?_, ?_⟩ | k_ne))
      case n2a => (repeat' (first | exact trivial | refine ⟨?_, ?_⟩ | k_ne))
      case n3a => (repeat' (first | exact trivial | refine ⟨?_, ?_⟩ | k_ne))
      case n4a => (repeat' (first | exact trivial | refine ⟨?_, ?_⟩ | k_ne))
      case n5a => (repeat' (first | exact trivial | refine ⟨?_, ?_⟩ | k_ne))
      case n6a => (repeat' (first | exact trivial | refine ⟨?_, ?_⟩ | k_ne))
      case n7a => (repeat' (first | exact trivial | refine ⟨?_, ?_⟩ | k_ne))
      case hfa => exact hNm.elim Or.inl fun ⟨aN, vsN, fN, e1, e2, e3, e4⟩ => Or.inr ⟨aN, vsN, fN, e1, e2, e3, e4, named_len2 hHr e2⟩
      case outa => exact fun h' tk' m' its' n' cnt' sure' ta' oc' v' hs' hc' F₂ N₂ hce' z1 z2 z3 z4 z5 z6 z7 => LoopEnd.next _ F₂ N₂ (by repeat' (first | exact List.forall_mem_nil _ | refine List.forall_mem_cons.mpr ⟨?_, ?_⟩ | k_ne)) (AskedJ.intro hfoN (Int.le_trans hkA hk0) (le9 hkB hk1) hs' (Nat.le_trans hc' (Nat.succ_le_succ hcnt)) hce' z1 z2 z3 z4 z5 z6 z7)
  case hR =>
    clear F' N' R'
    intro h₂ tk₂ m₁ news₁ F₁ N₁ J₁
    cases J₁ with
    | @intro its n cnt sure ta ti fo₁ oc k' v hF hk1 hk2 hs hcnt hce m1 m2 m3 m4 m5 m6 m7 =>
    k_steps
    rename Fr _ _ _ _ => F'
    rename News _ _ _ _ => N'
    dsimp only
    exact hret _ _ _ _ k' _ _ (own_of hgB F') (N' (fl, fo₁) (by k_mem)).1 hF (by omega) (by omega) (N' (230, toA) (by k_mem)).1 hTA (codeRec_news N' (by k_mem) hdA hvA)
      (fresh_of hgB (N' (cA, ocA) (by k_mem)).2.2 (by rw [List.map_cons, List.map_cons, List.map_nil]; intro q; rcases List.mem_cons.mp q with q | q; exact (show @Ne Nat cA fl from by k_ne) q; exact (show @Ne Nat cA 230 from by k_ne) (List.mem_singleton.mp q)))
end
end
section
open PyProof.Rows.LCg
/-- rows of ints, in the ledger -/
inductive RowsL : List (Addr × Obj) → List (List Int) → Prop
  | nil : RowsL [] []
  | snoc {rs : List (Addr × Obj)} {H : List (List Int)} {a : Addr} {vs : List Value} {f : List Int} {n : Nat} : RowsL rs H → IntsAre vs f → f.Nodup ∧ (∀ x ∈ f, 1 ≤ x ∧ x ≤ 7) → f.length ≤ 4 → RowsL (rs ++ [(a, W.listOf vs.toArray n)]) (H ++ [f])
theorem RowsAt.snoc {h : Heap} {as : List Addr} {H : List (List Int)} {a : Addr} {vs : List Value} {f : List Int} (x : RowsAt h as H) (l : h.IsList a vs.toArray) (i : IntsAre vs f) : RowsAt h (as ++ [a]) (H ++ [f]) := by
  induction x with
  | nil => exact .cons l i .nil
  | cons h1 h2 _ ih => exact .cons h1 h2 ih
theorem RowsL.at {h : Heap} {rs : List (Addr × Obj)} {H : List (List Int)} (x : RowsL rs H) (k : ∀ p ∈ rs, h.get? p.1 = some p.2) : RowsAt h (rs.map (·.1)) H := by
  induction x with
  | nil => exact .nil
  | snoc r i _ _ ih =>
    rw [List.map_append]
    exact (ih fun p hp => k p (List.mem_append_left _ hp)).snoc ⟨_, k _ (List.mem_append_right _ (.head _)), rfl, _, rfl⟩ i
theorem RowsL.good {rs : List (Addr × Obj)} {H : List (List Int)} (x : RowsL rs H) : (∀ f ∈ H, (f.Nodup ∧ ∀ x ∈ f, 1 ≤ x ∧ x ≤ 7) ∧ f.length ≤ 4) ∧ rs.length = H.length := by
  induction x with
  | nil => exact ⟨fun _ h => (nomatch h), rfl⟩
  | snoc r i g l ih =>
    refine ⟨fun f hf => ?_, by rw [List.length_append, List.length_append, ih.2]; rfl⟩
    rcases List.mem_append.mp hf with q | q
    · exact ih.1 f q
    · rw [List.mem_singleton.mp q]; exact ⟨g, l⟩
/-- between two turns of the building of the hidden sets -/
inductive HidJ (prog : Program) (w : World) (D ws d ce : Addr) (oD ows oc : Obj) (k0 : Int) (i : Nat) : List Value → List (Addr × Obj) → Prop
  | intro {rs : List (Addr × Obj)} {H : List (List Int)} {fo : Obj} {k' : Int} {ti : Tok} (hF : FlaskO prog w fo D k' ti) (h1 : k0 ≤ k') (h2 : k' ≤ k0 + 9 * i) (hr : RowsL rs H) (hd : ∀ p ∈ rs, p.1 ≠ d) (hl : rs.length = i) :
      HidJ prog w D ws d ce oD ows oc k0 i (rs.map fun p => Value.ref p.1) ((D, oD) :: (ws, ows) :: (d, fo) :: (ce, oc) :: (230, tabObj #[]) :: rs)
section
variable {prog : Program} {w : World} {A : Around} {s : Shared} {g : Heap} {L : Addr} {m : Str → Option Value} {env : Env} {elt : Expr} {x : Str} {scope : Scope} {cl : List (Str × Addr)} {Fin : Shared → List Value → List (Addr × Obj) → Prop}
theorem hidden_comp {r D ws d ce : Addr} {oD ows oc fo : Obj} {k0 v : Int} {ti t u v' : Tok} (hh : A.handled = none) (F : Fr g L s.heap m) (N : News g L s.heap [(D, oD), (ws, ows), (d, fo), (ce, oc), (230, tabObj #[])]) (hF : FlaskO prog w fo D k0 ti)
   (R : IsRange s.heap r 0 (1 + v) 1 t u v') (hv0 : 0 ≤ v) (hv1 : v < 3)
   (turn : ∀ i I oI C oC D₂ m₂ h tk (E' : Value → Shared → Prop) rs H fo k' ti n t₀, FlaskO prog w fo D k' ti → k0 ≤ k' → k' ≤ k0 + 27 → RowsL rs H → (∀ p ∈ rs, p.1 ≠ d) → rs.length = i → k' ≤ k0 + 9 * i → NsObj oC m₂ → m₂ x = some (.int n t₀) → Fr g L h m →
     News g L h ((I, oI) :: (C, oC) :: (D₂, lst (rs.map fun p => Value.ref p.1)) :: (D, oD) :: (ws, ows) :: (d, fo) :: (ce, oc) :: (230, tabObj #[]) :: rs) → Off3 I C D₂ ((D, oD) :: (ws, ows) :: (d, fo) :: (ce, oc) :: (230, tabObj #[]) :: rs) → ((@Ne Nat I C) ∧ (@Ne Nat I D₂) ∧ (@Ne Nat C D₂)) →
      wpAny (model prog w) A (eval elt (compEnvC scope cl C env)) (CompEnd g L m { s with heap := h, toks := tk } I oI C oC D₂ (lst (rs.map fun p => Value.ref p.1)) (fun _ => True) (fun y news' => HidJ prog w D ws d ce oD ows oc k0 (i + 1) ((rs.map fun p => Value.ref p.1) ++ [y]) news')) E' { s with heap := h, toks := tk })
   (fin : ∀ g' rs f H fo k' ti, FlaskO prog w fo D k' ti → k0 ≤ k' → k' ≤ k0 + 27 → RowsL rs (f :: H) → (∀ p ∈ rs, p.1 ≠ d) → Fin { s with heap := g' } (rs.map fun p => Value.ref p.1) ((D, oD) :: (ws, ows) :: (d, fo) :: (ce, oc) :: (230, tabObj #[]) :: rs)) :
   CompSrc prog w A g L m env elt x scope cl Fin (.ref r) s := by
  obtain ⟨n, hn⟩ : ∃ n : Nat, (1 + v : Int) = n := ⟨(1 + v).toNat, by omega⟩
  have hz : Builtin.Range.rangeSize 0 (1 + v) 1 = ((n : Nat) : Int) := by rw [rsize (by omega), ← hn]; omega
  refine CompSrc.range hh F N R (rsmall (by omega) (by omega)) hz (by rw [sizeLine_eq]; omega) fun g' => ?_
  refine restU_ind (n := n) (HidJ prog w D ws d ce oD ows oc k0) (fun ys nw j => ?_) (fun i ys nw v₂ I oI C oC D₂ m₂ h tk E' hlt j hP hC hx F' N' off ne => ?_) n 0 [] _ (by omega) (.intro (rs := []) hF (Int.le_refl _) (by omega) .nil (fun _ h => (nomatch h)) rfl)
  · cases j with
    | @intro rs H fo k' ti hF h1 h2 hr hd hl =>
    cases H with
    | nil => exact absurd hr.good.2 (by simp only [List.length_nil]; omega)
    | cons f H => exact fin g' rs f H fo k' ti hF h1 (by omega) hr hd
  · obtain ⟨t', rfl⟩ := hP
    cases j with
    | @intro rs H fo k' ti hF h1 h2 hr hd hl =>
    have hx' : m₂ x = some (.int (0 + (i : Int)) t') := hx
    exact turn i I oI C oC D₂ m₂ h tk E' rs H fo k' ti _ _ hF h1 (by omega) hr hd hl h2 hC hx' F' N' off ne
end
end
section
def KB (n : Nat) (k : Int) : Prop := 0 ≤ k ∧ k ≤ n
theorem HidAt.own {h h' : Heap} {W : List Addr} {hid : Addr} {H : List (List Int)} (x : HidAt h hid H) (ow : Own W h h') (off : ∀ {l : Addr} {its : Array Value}, h.IsList l its → l ∉ W) : HidAt h' hid H :=
  (x.base rfl off).keep fun b o e => ow b o (of_hideAll _ e) fun q => by rw [hideAll_none _ q] at e; cases e
section
variable {prog : Program} {w : World} {p : Program} {loose : List Str} {mean : ExcName → Option Value} {mg mb : Str → Option Value}
theorem swigH {A : Around} {s : Shared} {g : Heap} {L fl c hid : Addr} {m₀ : Str → Option Value} {news : List (Addr × Obj)} {gg : Obj → List (Addr × Obj)} {fo : Obj} {k : Int} {tk : Tok} {vs : List Value} {ns : List Int} {H : List (List Int)} {m : Int} {tm : Tok} {nb : Nat} {Q E : Value → Shared → Prop}
   (F : Fr g L s.heap m₀) (N : News g L s.heap news) (X : (hd.heap_1 w.params).In g) (T : Top p loose mean mg mb g) (U : UpdF fl fo news gg) (hfo : FlaskO prog w fo c k tk) (hH : HidAt s.heap hid H)
   (hh : A.handled = none) (hd : A.depth + 5 < recursionLimit) (hu : A.units + 20 < cLine)
   (hc : s.heap.IsList c vs.toArray) (hi : IntsAre vs ns) (hlen : ns.length ≤ 60) (hkb : KB nb k) (hnb : nb ≤ 1000) (hm : 0 < m) (hm' : m ≤ 100)
   (hret : ∀ h' tk' v tv fo' ti, Fr g L h' m₀ → News g L h' (gg fo') → FlaskO prog w fo' c (k + 1) ti → HidAt h' hid H → KB (nb + 1) (k + 1) → 0 ≤ v → v < m → Q (.int v tv) { s with heap := h', toks := tk' }) :
   wpAny (model prog w) A (call (.ref 216) [.ref fl, .int m tm]) Q E s := by
  obtain ⟨pre, post, rfl, hg, h1, h2⟩ := id U.split
  have hm₁ := N (fl, fo) (List.mem_append_right _ (.head _))
  refine swig X T F.keep hh hd hu hm₁.1 hfo hm₁.2.2 hc hi hlen hkb.1 (by have := hkb.2; omega) hm hm' fun h' tk' v tv fo' ti x e hfo' a b => ?_
  obtain ⟨F', N'⟩ := own1 F N U x e
  exact hret h' tk' v tv fo' ti F' N' hfo' (hH.own x fun l q => flask_off hm₁.1 hfo l (List.mem_singleton.mp q)) ⟨by have := hkb.1; omega, by have := hkb.2; omega⟩ a b
theorem newListH {A : Around} {s : Shared} {g : Heap} {L hid : Addr} {m₀ : Str → Option Value} {news : List (Addr × Obj)} {H : List (List Int)} {vs : List Value} {Q E : Value → Shared → Prop} (F : Fr g L s.heap m₀) (N : News g L s.heap news) (hH : HidAt s.heap hid H)
   (h : ∀ l h', Fr g L h' m₀ → News g L h' ((l, W.listOf vs.toArray 0) :: news) → HidAt h' hid H → (∀ p ∈ news, p.1 < l) → Q (.ref l) { s with heap := h' }) (hsz : vs.length ≤ sizeLine) : wpAny (model prog w) A (newList vs) Q E s :=
  newList_NK F N (fun h' F' N' k => h _ h' F' N' (hH.keep k) fun p hp => Heap.lt_size (N p hp).1) hsz
theorem shrunk_K {A : Around} {s : Shared} {g : Heap} {L fl c hid drk c' : Addr} {m₀ : Str → Option Value} {news : List (Addr × Obj)} {g1 : Obj → List (Addr × Obj)} {fo to oc : Obj} {k : Int} {tk tm tA : Tok} {vs ds : List Value} {vsA : Array Value} {ns f0 dark : List Int} {H : List (List Int)} {most nd : Nat} {Q E : Value → Shared → Prop}
   (F : Fr g L s.heap m₀) (N : News g L s.heap news) (X : (hd.heap_1 w.params).In g) (T : Top p loose mean mg mb g) (C : CodeHd g 234 230) (U : UpdF fl fo news g1) (hfo : FlaskO prog w fo c k tk) (hH : HidAt s.heap hid (f0 :: H)) (hto : TabAt w to c') (hdA : oc.data = .fields vsA) (hvA : vsA[1]? = some (.str askQual tA))
   (ht : (230, to) ∈ news) (hcm : (c', oc) ∈ news) (hdm : (drk, W.listOf ds.toArray nd) ∈ news) (hh : A.handled = none) (hd : A.depth + 200 < recursionLimit) (hu : A.units + 4000 < cLine) (hc : s.heap.IsList c vs.toArray) (hi : IntsAre vs ns) (hdi : IntsAre ds dark) (hlen : ns.length ≤ 60) (h0 : 0 ≤ k) (hk : k ≤ 800)
   (hHr : ∀ f ∈ f0 :: H, f.length ≤ 100) (hf0 : f0.Nodup ∧ ∀ x ∈ f0, 1 ≤ x ∧ x ≤ 7) (hdl : dark.length ≤ 50) (hm : most = 1000 ∨ most < 100) (hd1 : dark ≠ [] ∨ most = 1000) (hd2 : dark = [] → most = 1000)
   (hret : ∀ h' tk' fo' ti k', Fr g L h' m₀ → News g L h' (g1 fo') → FlaskO prog w fo' c k' ti → HidAt h' hid (f0 :: H) → k ≤ k' → k' ≤ k + 9 → Q (.bool true) { s with heap := h', toks := tk' }) :
   wpAny (model prog w) A (call (.ref 255) [.ref fl, .ref hid, .ref drk, .int most tm]) Q E s := by
  obtain ⟨pre, post, rfl, hg, h1, h2⟩ := id U.split
  have hm₁ := N (fl, fo) (List.mem_append_right _ (.head _))
  refine shrunk X T C F.keep hh hd hu hm₁.1 hfo hm₁.2.2 hc hi hlen h0 hk (N _ ht).1 (N _ ht).2.2 hto (codeRec_news N hcm hdA hvA) hH hHr hf0 (News.isList N hdm) hdi hdl hm hd1 hd2 fun h' tk' fo' ti k' x e hfo' a b => ?_
  obtain ⟨F', N'⟩ := own1 F N U x e
  exact hret h' tk' fo' ti k' F' N' hfo' (hH.own x fun l q => flask_off hm₁.1 hfo l (List.mem_singleton.mp q)) a b
end
theorem updHid {I C D₂ D ws d ce : Addr} {oI oC oD₂ oD ows fo oc to : Obj} {rs : List (Addr × Obj)} (n1 : @Ne Nat I d) (n2 : @Ne Nat C d) (n3 : @Ne Nat D₂ d) (n4 : @Ne Nat D d) (n5 : @Ne Nat ws d) (n6 : @Ne Nat ce d) (n7 : @Ne Nat 230 d) (h : ∀ p ∈ rs, p.1 ≠ d) :
   UpdF d fo ((I, oI) :: (C, oC) :: (D₂, oD₂) :: (D, oD) :: (ws, ows) :: (d, fo) :: (ce, oc) :: (230, to) :: rs) (fun o' => (I, oI) :: (C, oC) :: (D₂, oD₂) :: (D, oD) :: (ws, ows) :: (d, o') :: (ce, oc) :: (230, to) :: rs) :=
  .tail n1 (.tail n2 (.tail n3 (.tail n4 (.tail n5 (.head (List.forall_mem_cons.mpr ⟨n6, List.forall_mem_cons.mpr ⟨n7, h⟩⟩))))))
open PyProof.Rows.LCg
theorem Off3.snoc {I C D : Addr} {p : Addr × Obj} : ∀ {l : List (Addr × Obj)}, Off3 I C D l → (@Ne Nat p.1 I) ∧ (@Ne Nat p.1 C) ∧ (@Ne Nat p.1 D) → Off3 I C D (l ++ [p])
  | [], _, h => ⟨h, trivial⟩
  | _ :: _, x, h => ⟨x.1, Off3.snoc x.2 h⟩
theorem turnHid {prog : Program} {w : World} {s : Shared} {g h h' : Heap} {L DS rK I C D₂ D ws d ce : Addr} {m : Str → Option Value} {oK oI oC oD ows foK oc : Obj} {vsS : List Value} {nsS founds : List Int} {cS i tk tk' : Nat} {rs : List (Addr × Obj)} {H : List (List Int)} {k0 k₁ kk : Int} {tiK : Tok}
   (F : Fr g L h' m) (N : News g L h' ((DS, W.listOf vsS.toArray cS) :: (rK, oK) :: (I, oI) :: (C, oC) :: (D₂, lst (rs.map fun p => Value.ref p.1)) :: (D, oD) :: (ws, ows) :: (d, foK) :: (ce, oc) :: (230, tabObj #[]) :: rs))
   (lS : ∀ q ∈ ((rK, oK) :: (I, oI) :: (C, oC) :: (D₂, lst (rs.map fun p => Value.ref p.1)) :: (D, oD) :: (ws, ows) :: (d, foK) :: (ce, oc) :: (230, tabObj #[]) :: rs : List (Addr × Obj)), q.1 < DS) (hF : FlaskO prog w foK D kk tiK) (hk0 : k₁ ≤ kk) (hk1 : kk ≤ k₁ + 9) (hk₁ : k0 ≤ k₁) (hk₃ : k₁ ≤ k0 + 9 * i)
   (hr : RowsL rs H) (hd : ∀ p ∈ rs, p.1 ≠ d) (hl : rs.length = i) (off : Off3 I C D₂ ((D, oD) :: (ws, ows) :: (d, foK) :: (ce, oc) :: (230, tabObj #[]) :: rs)) (iS : IntsAre vsS nsS) (pS : nsS.Perm founds) (hnd : founds.Nodup) (hrg : ∀ x ∈ founds, 1 ≤ x ∧ x ≤ 7) (hln : (founds.length : Int) ≤ 4) :
   CompEnd g L m { s with heap := h, toks := tk } I oI C oC D₂ (lst (rs.map fun p => Value.ref p.1)) (fun _ => True) (fun y news' => HidJ prog w D ws d ce oD ows oc k0 (i + 1) ((rs.map fun p => Value.ref p.1) ++ [y]) news') (.ref DS) { s with heap := h', toks := tk' } := by
  have b1 := lS (I, oI) (by simp)
  have b2 := lS (C, oC) (by simp)
  have b3 := lS (D₂, lst (rs.map fun p => Value.ref p.1)) (by simp)
  have b4 := lS (d, foK) (by simp)
  have e := pS.length_eq
  have J := HidJ.intro (prog := prog) (w := w) (D := D) (ws := ws) (d := d) (ce := ce) (oD := oD) (ows := ows) (oc := oc) (k0 := k0) (i := i + 1) (rs := rs ++ [(DS, W.listOf vsS.toArray cS)]) hF (by omega) (by omega) (RowsL.snoc (n := cS) hr iS ⟨pS.nodup_iff.mpr hnd, fun x hx => hrg x (pS.mem_iff.mp hx)⟩ (by omega)) (fun p hp => by
    rcases List.mem_append.mp hp with q | q
    · exact hd p q
    · rw [List.mem_singleton.mp q]; exact Nat.ne_of_gt b4) (by rw [List.length_append, hl]; rfl)
  rw [List.map_append] at J
  refine CompEnd.intro F N ((D, oD) :: (ws, ows) :: (d, foK) :: (ce, oc) :: (230, tabObj #[]) :: (rs ++ [(DS, W.listOf vsS.toArray cS)])) (fun p hp => ?_) (Off3.snoc (l := (D, oD) :: (ws, ows) :: (d, foK) :: (ce, oc) :: (230, tabObj #[]) :: rs) off ⟨Nat.ne_of_gt b1, Nat.ne_of_gt b2, Nat.ne_of_gt b3⟩) trivial J
  simp only [List.mem_cons, List.mem_append, List.not_mem_nil, or_false] at hp ⊢
  rcases hp with q | q | q | q | q | q | q | q | q | q <;> simp [q]
theorem hidOf {g h : Heap} {L D : Addr} {rs news : List (Addr × Obj)} {H : List (List Int)} (N : News g L h ((D, lst (rs.map fun p => Value.ref p.1)) :: news)) (hs : ∀ p ∈ rs, p ∈ news) (hr : RowsL rs H) : HidAt h D H :=
  ⟨rs.map (·.1), ⟨_, (N _ (.head _)).1, rfl, _, by rw [List.map_map]; rfl⟩, hr.at fun p hp => (N p (.tail _ (hs p hp))).1⟩

section
variable {prog : Program} {w : World} {p : Program} {loose : List Str} {mean : ExcName → Option Value} {mg mb : Str → Option Value}
theorem shrunk_K1 {A : Around} {s : Shared} {g : Heap} {L fl c hid drk c' : Addr} {m₀ : Str → Option Value} {news : List (Addr × Obj)} {g1 : Obj → List (Addr × Obj)} {fo to oc : Obj} {k : Int} {tk tm tA : Tok} {vs : List Value} {vsA : Array Value} {ns f0 : List Int} {H : List (List Int)} {nd nb : Nat} {Q E : Value → Shared → Prop}
   (F : Fr g L s.heap m₀) (N : News g L s.heap news) (X : (hd.heap_1 w.params).In g) (T : Top p loose mean mg mb g) (C : CodeHd g 234 230) (U : UpdF fl fo news g1) (hfo : FlaskO prog w fo c k tk) (hH : HidAt s.heap hid (f0 :: H)) (hto : TabAt w to c') (hdA : oc.data = .fields vsA) (hvA : vsA[1]? = some (.str askQual tA))
   (ht : (230, to) ∈ news) (hcm : (c', oc) ∈ news) (hdm : (drk, W.listOf #[] nd) ∈ news) (hh : A.handled = none) (hd : A.depth + 200 < recursionLimit) (hu : A.units + 4000 < cLine) (hc : s.heap.IsList c vs.toArray) (hi : IntsAre vs ns) (hlen : ns.length ≤ 60) (hkb : KB nb k) (hnb : nb ≤ 800)
   (hHr : ∀ f ∈ f0 :: H, f.length ≤ 100) (hf0 : f0.Nodup ∧ ∀ x ∈ f0, 1 ≤ x ∧ x ≤ 7)
   (hret : ∀ h' tk' fo' ti k', Fr g L h' m₀ → News g L h' (g1 fo') → FlaskO prog w fo' c k' ti → HidAt h' hid (f0 :: H) → KB (nb + 9) k' → Q (.bool true) { s with heap := h', toks := tk' }) :
   wpAny (model prog w) A (call (.ref 255) [.ref fl, .ref hid, .ref drk, .int 1000 tm]) Q E s :=
  shrunk_K (most := 1000) F N X T C U hfo hH hto hdA hvA ht hcm (ds := []) hdm hh hd hu hc hi IntsAre.nil hlen hkb.1 (by have := hkb.2; omega) hHr hf0 (Nat.zero_le _) (.inl rfl) (.inr rfl) (fun _ => rfl) fun h' tk' fo' ti k' a b c d e f => hret h' tk' fo' ti k' a b c d ⟨Int.le_trans hkb.1 e, by have := hkb.2; omega⟩
theorem shrunk_K2 {A : Around} {s : Shared} {g : Heap} {L fl c hid drk c' : Addr} {m₀ : Str → Option Value} {news : List (Addr × Obj)} {g1 : Obj → List (Addr × Obj)} {fo to oc : Obj} {k v mo : Int} {tk tm tA tv : Tok} {vs : List Value} {vsA : Array Value} {ns f0 : List Int} {H : List (List Int)} {nd nb : Nat} {Q E : Value → Shared → Prop}
   (F : Fr g L s.heap m₀) (N : News g L s.heap news) (X : (hd.heap_1 w.params).In g) (T : Top p loose mean mg mb g) (C : CodeHd g 234 230) (U : UpdF fl fo news g1) (hfo : FlaskO prog w fo c k tk) (hH : HidAt s.heap hid (f0 :: H)) (hto : TabAt w to c') (hdA : oc.data = .fields vsA) (hvA : vsA[1]? = some (.str askQual tA))
   (ht : (230, to) ∈ news) (hcm : (c', oc) ∈ news) (hdm : (drk, W.listOf #[.int v tv] nd) ∈ news) (hh : A.handled = none) (hd : A.depth + 200 < recursionLimit) (hu : A.units + 4000 < cLine) (hc : s.heap.IsList c vs.toArray) (hi : IntsAre vs ns) (hlen : ns.length ≤ 60) (hkb : KB nb k) (hnb : nb ≤ 800)
   (hHr : ∀ f ∈ f0 :: H, f.length ≤ 100) (hf0 : f0.Nodup ∧ ∀ x ∈ f0, 1 ≤ x ∧ x ≤ 7) (hm0 : 0 ≤ mo) (hm1 : mo < 9)
   (hret : ∀ h' tk' fo' ti k', Fr g L h' m₀ → News g L h' (g1 fo') → FlaskO prog w fo' c k' ti → HidAt h' hid (f0 :: H) → KB (nb + 9) k' → Q (.bool true) { s with heap := h', toks := tk' }) :
   wpAny (model prog w) A (call (.ref 255) [.ref fl, .ref hid, .ref drk, .int (1 + mo) tm]) Q E s := by
  obtain ⟨most, e⟩ : ∃ most : Nat, (1 + mo : Int) = most := ⟨(1 + mo).toNat, by omega⟩
  rw [e]
  exact shrunk_K F N X T C U hfo hH hto hdA hvA ht hcm (ds := [.int v tv]) hdm hh hd hu hc hi (IntsAre.cons _ _ IntsAre.nil) hlen hkb.1 (by have := hkb.2; omega) hHr hf0 (by simp) (.inr (by omega)) (.inl (fun q => by cases q)) (fun q => by cases q) fun h' tk' fo' ti k' a b c d e f => hret h' tk' fo' ti k' a b c d ⟨Int.le_trans hkb.1 e, by have := hkb.2; omega⟩
end
theorem cut6 {g h : Heap} {L : Addr} {a b c d e f : Addr × Obj} {rs : List (Addr × Obj)} (N : News g L h (a :: b :: c :: d :: e :: f :: rs)) : News g L h [a, b, c, d, e, f] := News.cut N fun p hp => by
  simp only [List.mem_cons, List.not_mem_nil, or_false] at hp ⊢
  rcases hp with q | q | q | q | q | q <;> simp [q]
end
section
section
variable {prog : Program} {w : World} {p : Program} {loose : List Str} {mean : ExcName → Option Value} {mg mb : Str → Option Value}
theorem asked_K {A : Around} {s : Shared} {g : Heap} {L fl c hid : Addr} {m₀ : Str → Option Value} {news : List (Addr × Obj)} {g1 : Obj → List (Addr × Obj)} {g2 : Obj → Obj → List (Addr × Obj)} {fo : Obj} {k : Int} {tk : Tok} {vs : List Value} {ns : List Int} {H : List (List Int)} {nb : Nat} {Q E : Value → Shared → Prop}
   (F : Fr g L s.heap m₀) (N : News g L s.heap news) (X : (hd.heap_1 w.params).In g) (T : Top p loose mean mg mb g) (C : CodeHd g 234 230) (U1 : UpdF fl fo news g1) (U2 : ∀ o, UpdF 230 (tabObj #[]) (g1 o) (g2 o)) (hfo : FlaskO prog w fo c k tk) (hH : HidAt s.heap hid H)
   (hh : A.handled = none) (hd : A.depth + 100 < recursionLimit) (hu : A.units + 2000 < cLine) (hc : s.heap.IsList c vs.toArray) (hi : IntsAre vs ns) (hlen : ns.length ≤ 60) (hkb : KB nb k) (hnb : nb ≤ 500) (hHr : ∀ f ∈ H, f.length ≤ 100)
   (ht : (230, tabObj #[]) ∈ news)
   (hret : ∀ h' tk' fo' ti k' to' c' oc vsA tA, Fr g L h' m₀ → News g L h' ((c', oc) :: g2 fo' to') → FlaskO prog w fo' c k' ti → HidAt h' hid H → KB (nb + 100) k' → TabAt w to' c' → oc.data = .fields vsA → vsA[1]? = some (.str askQual tA) → (∀ p ∈ news, p.1 ≠ c') → Q (.bool true) { s with heap := h', toks := tk' }) :
   wpAny (model prog w) A (call (.ref 240) [.ref fl, .ref hid]) Q E s := by
  have hm₁ := N (fl, fo) (by obtain ⟨pre, post, e, _⟩ := U1.split; rw [e]; exact List.mem_append_right _ (.head _))
  have hm₂ := N _ ht
  have n1 : @Ne Nat fl 230 := led_ne hm₁.1 hm₂.1 fun q => by have := hfo.cls; rw [show fo = tabObj #[] from q] at this; cases this
  refine asked X T C F.keep hh hd hu hm₁.1 hfo hm₁.2.2 hc hi hlen hkb.1 (by have := hkb.2; omega) hm₂.1 hm₂.2.2 hH hHr fun h' tk' fo' ti k' to' c' x e hfo' a b et hta hcr hfc => ?_
  obtain ⟨c₀, oc, vsA, tA, q, e1, e2, e3⟩ := hcr
  cases q
  obtain ⟨F', N'⟩ := own2 F N U1 U2 n1 x e et
  exact hret h' tk' fo' ti k' to' _ oc vsA tA F' (fresh1 F hfc N' e1) hfo' (hH.own x fun l q => by
    rcases List.mem_cons.mp q with q | q
    · exact flask_off hm₁.1 hfo l q
    · obtain ⟨o, ho, hcl, _⟩ := l
      rw [List.mem_singleton.mp q, hm₂.1] at ho; cases ho; cases hcl) ⟨Int.le_trans hkb.1 a, by have := hkb.2; omega⟩ hta e2 e3 (fresh_ne N hfc)
end
end
section
theorem lines_LawA : True := by
  w_top off
  k_with_none
  (k_with "my_pj" => (with_reducible first | assumption | exact Mine.pj1l (by assumption) | exact Mine.pj1r (by assumption) | exact Mine.pj2l (by assumption) | exact Mine.pj2r (by assumption) | exact Mine.pj3l (by assumption) | exact Mine.pj3r (by assumption) | exact Mine.pj4l (by assumption) | exact Mine.pj4r (by assumption) | exact Mine.pj5l (by assumption) | exact Mine.pj5r (by assumption) | exact Mine.pj6l (by assumption) | exact Mine.pj6r (by assumption) | exact Mine.pj7l (by assumption) | exact Mine.pj7r (by assumption) | exact Mine.pj8l (by assumption) | exact Mine.pj8r (by assumption) | exact Mine.pj9l (by assumption) | exact Mine.pj9r (by assumption) | exact Mine.pj10l (by assumption) | exact Mine.pj10r (by assumption) | exact Mine.pj11l (by assumption) | exact Mine.pj11r (by assumption) | exact Mine.pj12l (by assumption) | exact Mine.pj12r (by assumption) | exact Mine.pj13l (by assumption) | exact Mine.pj13r (by assumption) | exact Mine.pj14l (by assumption) | exact Mine.pj14r (by assumption) | exact Mine.pj15l (by assumption) | exact Mine.pj15r (by assumption) | exact Mine.pj16l (by assumption) | exact Mine.pj16r (by assumption)))
  (k_with "my_ne" => (refine neN ?_; (try dsimp only); first | with_reducible assumption | exact Ne.symm (by with_reducible assumption) | (refine Mine.neOr ?_; simp only [*, true_or, or_true, ne_eq, not_false_eq_true]; done) | (refine Ne.symm (Mine.neOr ?_); simp only [*, true_or, or_true, ne_eq, not_false_eq_true]; done) | omega))
  (k_with "my_room" => first | exact room1 (by with_reducible assumption) rfl rfl | exact room0 (by with_reducible assumption) rfl rfl | ((simp only [Around.deeper, Around.in1, recursionLimit, cLine] at *); omega))
  (k_with "my_fill" => ((have hfill : (fun (_ : OpenLaw) (_ : Params → Frag) => True) PySem.Challenge.rw_rg0207_01 Mine.hd.heap_1 := by k_fill; trivial); clear hfill))
  (k_with "my_in" => ((case k6 => k_is); (case k7 => k_is); (case k8 => first | exact Nat.lt_of_le_of_lt (Nat.le_add_right _ _) (by with_reducible assumption) | (simp only [recursionLimit] at *; omega)); (case k9 => first | exact BindsTo.of_eq rfl | exact binds_K (Frag.In.keeps (by assumption) (by assumption)) rfl (by k_is) rfl rfl rfl); (case c5 => decide); (case kB => exact locs rfl); (case c2 => exact rfl); (case c3 => exact rfl); (case c4 => exact rfl)))
  (k_with "my_sub" => repeat' (first | exact List.forall_mem_nil _ | refine List.forall_mem_cons.mpr ⟨?_, ?_⟩ | k_mem))
  (k_with "exec For Name Call cons nil" => (k_here; k_dflt (refine my_For ?_)))
  (k_with "exec For Name Name cons nil" => (k_here; k_dflt (refine my_For ?_)))
  (k_with "newTuple" => (k_here; k_dflt (refine my_newTuple (by k_asm) (by k_asm) ?_ (by size_fits); k_whole); intro l' h' F' N' l1; (try k_lt l1); (try k_sweep)))
  (k_with "call type:range" => (k_here; (with_reducible rename Fr _ _ _ _ => F'); (with_reducible rename News _ _ _ _ => N'); first | (with_unfolding_all refine range1_rows F' N' ?_; intro h' tk' t' u' v' R' F' N' k'; (try k_sweep)) | (with_unfolding_all refine range2_rows F' N' ?_; intro h' tk' t' u' v' R' F' N' k'; (try k_sweep))))
  (k_with "my_inC" => ((case k6 => k_is); (case k7 => k_is); (case k8 => first | exact Nat.lt_of_le_of_lt (Nat.le_add_right _ _) (by with_reducible assumption) | (simp only [recursionLimit] at *; omega)); (case k9 => exact BindsTo.of_eq rfl); (case kB => exact rfl); (case kD => decide +kernel); (case c2 => exact rfl); (case c3 => exact rfl); (case c4 => exact rfl)))
  (k_with "eval Name" => (k_here; kc_free; k_dflt (refine name_free (by k_asm) (by rfl) (by assumption) (by assumption) ?_ (by rfl) (by rfl); k_whole)))
  (k_with "last call builtin:len" => (k_here; k_dflt (refine call_len_list (by is_list) (by ((try simp only [Array.size_push, List.size_toArray]); omega)) ?_; k_whole); (try simp only [Array.size_push])))
  (k_with "my_ints" => first | assumption | l_ints | l_intsW)
  (k_with "my_fit" => ((try simp only [sizeLine_eq, List.length_append, List.length_cons, List.length_nil, List.length_reverse, List.length_map, List.size_toArray, Array.size_push]); omega))
  (k_with "binaryOp Add ref ref" => (k_here; (with_reducible show wpAny _ _ (binaryOp _ (Value.ref _) (Value.ref _)) _ _ _); k_dflt (refine my_addL (by k_asm) (by k_asm) (by kmk_list) (by kmk_list) (by k_extra "my_ints") (by k_extra "my_ints") ?_ (by k_extra "my_fit"); k_whole); intro D' h' F' N' l1 hI'; (try k_lt l1); (try k_sweep)))
  (k_with "exec While Compare cons nil" => (k_here; k_dflt (refine my_While ?_)))
  (k_with "my_len" => ((try simp only [Around.deeper, Around.in1, recursionLimit, cLine, List.length_append, List.length_take, List.length_drop, List.length_cons, List.length_nil] at *); omega))
  (k_with "eval ListComp" => (k_here; first | (lct_look; k_dflt (refine LCt.ListComp_T (F₀ := by k_asm) (by with_unfolding_all rfl) (by decide) (by rfl) (by decide) (by rfl) ?_)) | k_dflt (refine LCg.ListComp_U (F₀ := by k_asm) (by with_unfolding_all rfl) (by decide) (by rfl) (by decide) (by rfl) ?_)))
  (k_with "exec Assign cons ListComp" => (k_here; first | (lct_look; k_dflt (refine LCt.Assign_ListComp_T (F₀ := by k_asm) (by rfl) (by with_unfolding_all rfl) (by with_unfolding_all rfl) (by decide) (by rfl) (by decide) (by rfl) (by rfl) (by rfl) ?_)) | k_dflt (refine LCg.Assign_ListComp_U (F₀ := by k_asm) (by rfl) (by with_unfolding_all rfl) (by with_unfolding_all rfl) (by decide) (by rfl) (by decide) (by rfl) (by rfl) (by rfl) ?_)))
  (k_with "call ref" => (k_here; (with_reducible show wpAny _ _ (call (Value.ref 216) _) _ _ _); k_dflt (refine swig_K (by k_asm) (by k_asm) (by k_asm) (by k_asm) (by k_updF) (by assumption) (by rfl) (by k_extra "my_room") (by k_extra "my_room") (by is_list) (by assumption) (by first | with_reducible assumption | (simp only [List.length_map, List.length_take]; omega)) (by first | with_reducible assumption | decide | omega) (by first | with_reducible assumption | decide | omega) (by first | with_reducible assumption | decide | omega) (by first | with_reducible assumption | decide | omega) ?_; k_whole); intro h' tk' vK tvK fo' ti F' N' hfo' hv0 hv1; (try k_sweep)))
  (k_with "call ref" => (k_here; (with_reducible show wpAny _ _ (call (Value.ref 223) _) _ _ _); k_dflt (refine keys_K (by k_asm) (by k_asm) (by k_asm) (by k_asm) (by first | exact updHid (by k_ne) (by k_ne) (by k_ne) (by k_ne) (by k_ne) (by k_ne) (by k_ne) (by with_reducible assumption) | k_updF) (by assumption) (by rfl) (by k_extra "my_room") (by k_extra "my_room") (by is_list) (by assumption) (by first | with_reducible assumption | (simp only [List.length_map, List.length_take]; omega)) (by first | with_reducible assumption | decide | omega) (by first | with_reducible assumption | decide | omega) (by first | with_reducible assumption | decide | omega) (by first | with_reducible assumption | decide | omega) ?_; k_whole); intro h' tk' rK vsK nK foundsK foK tiK kk F' N' lr hfo' hk0 hk1 hv hnd hrg hlen'; (try k_sweep)))
  (k_with "CompSrc" => (k_here; (have hchk : vK = vK := rfl); clear hchk; refine my_Src ?_))
  (k_with "CompEnd" => (k_here; (have hchk : rsL = rsL := rfl); clear hchk; refine my_Src ?_))
  (k_with "call builtin:sorted" => (k_here; k_dflt (refine kso_sorted (by k_asm) (by k_asm) (by kso_list) (by assumption) (by first | with_reducible assumption | omega) ?_); intro DS vsS nsS cS h' F' N' lS iS eS pS oS bS; (try k_sweep)))
  (k_with "call ref" => (k_here; (with_reducible show wpAny _ _ (call (Value.ref 216) _) _ _ _); (have hchk := hHid); clear hchk; k_dflt ((refine swigH (by k_asm) (by k_asm) (by k_asm) (by k_asm) (by k_updF) hfo' hHid (by rfl) (by k_extra "my_room") (by k_extra "my_room") (by is_list) hIys z3 hkb' (by decide) (by decide) (by decide) ?_); intro h' tk' vH tvH foH tiH F' N' hfo' hHid hkb' vH0 vH1; (try k_sweep))))
  (k_with "call ref" => (k_here; (with_reducible show wpAny _ _ (call (Value.ref 240) _) _ _ _); (have hchk := hHid); clear hchk; k_dflt ((refine asked_K (by k_asm) (by k_asm) (by k_asm) (by k_asm) C' (by k_updF) (by (intro o'; k_updF)) hfo' hHid (by rfl) (by k_extra "my_room") (by k_extra "my_room") (by is_list) hIys z3 hkb' (by decide) hHr (by k_mem) ?_); intro h' tk' foA tiA kA toA cA oA vsA tA F' N' hfo' hHid hkb' hTA hdA hvA nA; (replace nA := allNe_of nA); ((replace nA := Mine.toNe2 nA); dsimp only [↓Mine.ne2_cons, ↓Mine.ne2_one, ↓Mine.ne2_nil] at nA); (try k_sweep))))
  (k_with "call ref" => (k_here; (with_reducible show wpAny _ _ (call (Value.ref 255) _) _ _ _); (have hchk := hHid); clear hchk; k_dflt (((first | (refine shrunk_K1 (by k_asm) (by k_asm) (by k_asm) (by k_asm) C' (by k_updF) hfo' hHid hTA hdA hvA (by k_mem) (by k_mem) (by k_mem) (by rfl) (by k_extra "my_room") (by k_extra "my_room") (by is_list) hIys z3 hkb' (by decide) hHr hf0 ?_) | (refine shrunk_K2 (by k_asm) (by k_asm) (by k_asm) (by k_asm) C' (by k_updF) hfo' hHid hTA hdA hvA (by k_mem) (by k_mem) (by k_mem) (by rfl) (by k_extra "my_room") (by k_extra "my_room") (by is_list) hIys z3 hkb' (by decide) hHr hf0 (by with_reducible assumption) (by with_reducible assumption) ?_))); intro h' tk' foB tiB kB F' N' hfo' hHid hkb'; (try k_sweep))))
  (k_with "newList" => (k_here; (have hchk := hHid); clear hchk; k_dflt (refine newListH (by k_asm) (by k_asm) hHid ?_ (by size_fits)); intro l' h' F' N' hHid l1; (try k_lt l1); (try k_sweep)))
  trivial
section
variable {prog : Program} {w : World} {h₀ : Heap} {p : Program} {loose : List Str} {mean : ExcName → Option Value} {mg mb : Str → Option Value}
theorem law_code {A : Around} {s : Shared} {scr : Addr} {vs : List Value} {ns : List Int} {R : Result → Shared → Prop}
   (X : (hd.heap_1 w.params).In h₀) (T : Top p loose mean mg mb h₀) (C : CodeHd h₀ 234 230) (st : h₀.StaysIn s.heap) (hh : A.handled = none) (hd : A.depth + 300 < recursionLimit) (hu : A.units + 6000 < cLine)
   (hc : h₀.IsList scr vs.toArray) (hi : IntsAre vs ns) (hlen : ns.length ≤ 63) (ht : s.heap.get? 230 = some (tabObj #[])) (ht0 : h₀.get? 230 = none)
   (hret : ∀ h' tk' to' c', Own [230] s.heap h' → h'.get? 230 = some to' → TabAt w to' c' → R (.ok (.ret (.bool true))) { s with heap := h', toks := tk' }) :
   codeAny (model prog w) A (.call (.ref 260) ⟨[.ref scr], []⟩) R s := by
  k_extra "my_fill"
  obtain ⟨_, dp, fr, gd, un⟩ := A
  obtain rfl : _ = none := hh
  have NL : Led h₀ s.heap [(230, tabObj #[])] := led1 ht ht0 led0
  have KG := led_keep st NL
  refine' code_inC X T st NL ?k6 ?k7 ?k8 ?k9 ?kB ?kD ?_ ?c2 ?c3 ?c4
  k_extra "my_inC"
  intro g L h₁ tk₁ cells hgB F N Y X' T' lL lN
  k_cells Y
  try simp only [List.cons_append, List.nil_append] at N
  k_lt lN
  rw [← hgB] at KG
  have hc' : g.IsList scr vs.toArray := stays_list KG hc
  have C' : CodeHd g 234 230 := C.keeps KG
  clear KG hc
  try dsimp only
  try k_fold
  k_steps
  rename Fr _ _ _ _ => F'
  rename News _ _ _ _ => N'
  rename IsRange _ _ _ _ _ _ _ _ => R'
  unfold MySrc
  refine' hidden_comp rfl F' N' hfo' R' hv0 hv1 (fun i I oI C oC D₂ m₂ h tk E' rsL H fo₁ k₁ ti₁ n₁ t₁ hF₁ hk₁ hk₂ hr₁ hd₁ hl₁ hk₃ hC hx F₁ N₁ off ne => ?turn) (fun g' rs f H fo₁ k₁ ti₁ hfo' hk₁ hk₂ hr₁ hd₁ => ?fin)
  case turn =>
    clear F' N' R' hfo'
    have off0 := off
    simp only [LCg.Off3] at off
    obtain ⟨q1, q2, q3, q4, q5, q6⟩ := off
    obtain ⟨q7, q8, q9⟩ := ne
    have z1 : 0 ≤ k₁ := Int.le_trans (by decide) hk₁
    have z2 : k₁ ≤ 900 := Int.le_trans hk₂ (by decide)
    have z3 : ∀ us : List Int, ((List.map (fun k' : Int => k') (List.take 60 us)).length ≤ 60) := fun us => by rw [List.length_map, List.length_take]; exact Nat.min_le_left _ _
    replace z3 := z3 ns
    k_steps
    rename Fr _ _ _ _ => F'
    rename News _ _ _ _ => N'
    unfold MySrc
    exact turnHid F' N' lS hfo' hk0 hk1 hk₁ hk₃ hr₁ hd₁ hl₁ off0 iS pS hnd hrg hlen'
  case fin =>
    clear F' N' R'
    rename IntsAre _ (List.map _ _) => hIys
    unfold LCg.FinA
    intro Dh h tk F₁ N₁ o1
    have hHid := hidOf N₁ (fun p hp => .tail _ (.tail _ (.tail _ (.tail _ (.tail _ hp))))) hr₁
    simp only [LCg.Off1, and_true] at o1
    obtain ⟨o1, o2, o3, o4, o5, _⟩ := o1
    have hg := hr₁.good.1
    have hHr : ∀ f' ∈ f :: H, f'.length ≤ 100 := fun f' q => Nat.le_trans (hg f' q).2 (by decide)
    have hf0 := (hg f (.head _)).1
    have hkb' : KB 28 k₁ := ⟨Int.le_trans (by decide) hk₁, hk₂⟩
    have z3 : ∀ us : List Int, ((List.map (fun k' : Int => k') (List.take 60 us)).length ≤ 60) := fun us => by rw [List.length_map, List.length_take]; exact Nat.min_le_left _ _
    replace z3 := z3 ns
    clear hd₁ hk₁ hk₂ hr₁ hg
    have N₂ := cut6 N₁
    clear N₁
    k_steps
    rename Fr _ _ _ _ => F'
    rename News _ _ _ _ => N'
    exact hret _ _ _ _ (own_of hgB F') (N' (230, toA) (by k_mem)).1 hTA
end
end
section
theorem law_end {w : World} {fa scr : Addr} {p : Program} {loose : List Str} {mean : ExcName → Option Value} {mg mb : Str → Option Value} {s₁ : Shared} {vs : List Value} {ns : List Int} {cw : ClaimW} {cl : Str → Option Addr} {mean' : ExcName → Option Value} {args : List WData}
   (KX : (hd.heap_1 w.params).In s₁.heap) (T : Top p loose mean mg mb s₁.heap) (hT9 : TabsAt [(234, 230)] s₁.heap) (hmg : mg (Str.ofString "law") = some (.ref fa)) (hc : s₁.heap.IsList scr vs.toArray) (hi : IntsAre vs ns) (hlen : ns.length ≤ 63) (hg : s₁.gens = #[])
   (hr : ∀ a x, cw.raises a x = false) (hp : cw.post args (.bool true) args = true) (prog : Program) :
   codeAny (model prog w) callerA (.call (.ref fa) ⟨[.ref scr], []⟩) (GoodWG cw cl mean' args s₁) s₁ := by
  have e := mg_of (n := Str.ofString "law") (v := .ref 260) KX (Top.g T) (by kernel_rfl)
  rw [hmg] at e
  cases e
  refine kn_post hT9 hr ?_
  refine law_code (ghost_K hT9 KX (by kernel_rfl)) (ghost_top hT9 T) (ghost_code hT9).1 (fun b o e => of_hideAll _ e) rfl (by decide) (by decide) (ghost_list hT9 hc) hi hlen (hT9 _ (.head _)).2 (hideAll_none _ (.head _)) fun h' tk' to' c' ow e2 hta => ?_
  obtain ⟨_, _, _, _, _, _, rfl⟩ := hta
  exact ⟨⟨.inl ⟨_, _, _, rfl, fun _ => hr _ _, ReadsW.bool _, hp, fun _ => ⟨List.nodup_nil, fun _ h => (nomatch h)⟩⟩, fun b o e => ow b o (of_hideAll ([(234, 230)].map (·.2)) e) fun q => (by
    rw [hideAll_none _ (show b ∈ [(234, 230)].map (·.2) from q)] at e; cases e), rfl, hg⟩, ⟨⟨_, e2⟩, trivial⟩⟩
theorem law_holds : PySem.Challenge.rw_rg0207_01.Holds := hd (by
  k_fill
  intro w s₀ s₁ mg mb G Y fa o pm cd doc dV kV ho hd hcd hD hmg hg args vals as hpre hlay hrd hwl hlo
  have KX := km_in_of Y
  km_tabs Y
  have X := (Ground.X G).1
  have V := (Ground.X G).2
  refine Ground.open G ?_
  intro T B D TE TW
  km_lay T hmg ho hd cd
  wrow_args hpre hlay hrd hwl hlo
  refine enter_call ?_
  exact law_end KX T hT9 hmg (by assumption) (by assumption) (by omega) hg (fun _ _ => rfl) (by first | kernel_rfl | with_unfolding_all rfl | decide +kernel) _)
end
end Mine
set_option maxRecDepth 100000 in
theorem PySem.Challenge.cw_rg0207_01_holds : PySem.Challenge.rw_rg0207_01.Holds := by
  exact Mine.law_holds
